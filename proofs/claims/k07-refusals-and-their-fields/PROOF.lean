import PyProof.Rows.All
import Wide.All
import OpenK.AllK
import Wide.FinOn
import HandS.ForMost
import HandS.Exc
import HandS.ExcOwn
import HandS.WordsExc
import HandS.Wide
import HandS.TupAny
import HandS.Deep
import HandS.Codes
import HandS.HeadHook1
import HandS.Iter
import HandS.IsInst
import HandS.More
import HandS.Style
import HandS.StrMore
import HandS.TupLen
import HandS.DeepEq
import KE.KEqNest
import PyProof.NeKinds
import HandS.Finally
import HandS.Replace
import HandS.RaiseMore
import KE.SortKeyHeap
import HandS.SortOrd
import PyProof.DictUpdate
import HandS.ExcField
import KE.KExcIs
import HandS.Defaults
import HandS.ExcInit
import HandS.Flow
import HandS.TryOnly
import HandS.Conv
import HandS.Rev
import HandS.Zip
import KE.GoesMore
import KE.KDictZip
import KE.KDictList
import HandS.SortKw
import HandS.Slots
import HandS.TryMany
import HandS.Small
import HandS.Ends
import HandS.EndBits
import HandS.Head0
import HandS.Head1
import HandS.Head2
import HandS.HeadHook2
import PySem.Challenge.RW_againbook_k07_refusals_and_their_fields
set_option Elab.async false
set_option linter.all false
set_option maxRecDepth 100000
set_option maxHeartbeats 0
namespace DL

/-- a value; tuples are values, what may be changed stands at an address -/
inductive D where
  | non
  | bl (b : Bool)
  | int (i : Int)
  | str (s : List Nat)
  | tup (ds : List D)
  | ref (a : Nat)
  /-- a list that is only read; a tuple of the module's top -/
  | rol (ds : List D)
  | ktup (ds : List D)
  /-- a dict that is only read: its keys (tuples where t), its values, place by place; an exception that was caught: its class, its fields' names, what they hold -/
  | rod (t : Bool) (ks vs : List D)
  | exc (c : Nat) (fn : List (List Nat)) (vs : List D)
  /-- the law's script -/
  | scr (ns : List Int)
instance : Inhabited D := ⟨.non⟩
/-- sequences that never change; those that are tuples -/
def conS : D → Option (List D)
  | .tup ds => some ds
  | .ktup ds => some ds
  | .rol ds => some ds
  | .scr ns => some (ns.map .int)
  | _ => none
def tupS : D → Option (List D)
  | .tup ds => some ds
  | .ktup ds => some ds
  | _ => none

/-- what stands at an address: a list, a dict by ints and texts, a dict by tuples, an instance of class c -/
inductive MO where
  | lst (ds : List D)
  | dK (kvs : List (D × D))
  | dT (kvs : List (D × D))
  | ins (c : Nat) (fs : List (List Nat × D))

abbrev Mem := Nat → Option MO
def upd (m : Mem) (a : Nat) (o : MO) : Mem := fun b => if b = a then some o else m b
theorem upd_same {m : Mem} {a : Nat} {o : MO} : upd m a o a = some o := if_pos rfl
theorem upd_ne {m : Mem} {a b : Nat} {o : MO} (h : b ≠ a) : upd m a o b = m b := if_neg h
theorem upd_upd {m : Mem} {a : Nat} {o u : MO} : upd (upd m a o) a u = upd m a u := by
  funext b; unfold upd; split <;> rfl
theorem upd_self {m : Mem} {a : Nat} {o : MO} (h : m a = some o) : upd m a o = m := by
  funext b; unfold upd; split
  · rename_i e; rw [e, h]
  · rfl
theorem ne_of_none {m : Mem} {a b : Nat} {o : MO} (h : m a = some o) (h' : m b = none) : a ≠ b := by
  intro e; subst e; rw [h] at h'; cases h'
/-- what stands in m stands in m' as well -/
def Sub (m m' : Mem) : Prop := ∀ a o, m a = some o → m' a = some o
theorem Sub.refl (m : Mem) : Sub m m := fun _ _ h => h
theorem Sub.trans {a b c : Mem} (h : Sub a b) (h' : Sub b c) : Sub a c := fun x o e => h' x o (h x o e)
theorem Sub.new {m : Mem} {p : Nat} {o : MO} (h : m p = none) : Sub m (upd m p o) := fun a u e => by rw [upd_ne (ne_of_none e h)]; exact e
theorem Sub.mut {m m' : Mem} {p : Nat} {o : MO} (e : Sub m m') (h : m p = none) : Sub m (upd m' p o) := fun a u q => by rw [upd_ne (ne_of_none q h)]; exact e a u q
theorem Sub.free {m m' : Mem} {p : Nat} (e : Sub m m') (h : m' p = none) : m p = none := by
  cases q : m p with
  | none => rfl
  | some o => rw [e p o q] at h; cases h

/-- an exception: its class, its fields -/
structure Exc where
  cls : Nat
  fs : List (List Nat × D)

abbrev St := List (Option D)
abbrev Kt := D → Mem → Prop
abbrev XK := St → Exc → Mem → Prop
abbrev Sp := List D → Mem → Kt → (Exc → Mem → Prop) → Prop

def sget : St → Nat → Option D
  | [], _ => none
  | o :: _, 0 => o
  | _ :: r, n + 1 => sget r n
def sset : St → Nat → D → St
  | [], _, _ => []
  | _ :: r, 0, d => some d :: r
  | o :: r, n + 1, d => o :: sset r n d
def swipe1 : St → Nat → St
  | [], _ => []
  | _ :: r, 0 => none :: r
  | o :: r, n + 1 => o :: swipe1 r n
def swipe (σ : St) : List Nat → St
  | [] => σ
  | v :: vs => swipe1 (swipe σ vs) v

inductive BOp where
  | add | sub | mul | fdiv | mod | pow
  deriving DecidableEq
inductive COp where
  | eq | ne | lt | le | gt | ge | isin | notin | is | isnot
  deriving DecidableEq
/-- built-ins -/
inductive Blt where
  | len | int | str | list | tuple | all | any | sum | max2 | min2 | max1 | sorted | dict | isInt | isBool | isStr | isList | isTuple | isDict | abs
  deriving DecidableEq
/-- methods of built-in types -/
inductive Bm where
  | append | extend | pop | popAt | popD | clearL | insert | index | indexL | join | split | strip | rstrip | replace | get1 | get2 | count | clear | reverse | update | items | values | isdigit | isalpha
  deriving DecidableEq

mutual
inductive Tg where
  | name (i : Nat)
  | tup (ts : Tgs)
inductive Tgs where
  | n
  | c (t : Tg) (r : Tgs)
end
abbrev Tg.pair (a b : Tg) : Tg := .tup (.c a (.c b .n))
abbrev Tg.trip (a b c : Tg) : Tg := .tup (.c a (.c b (.c c .n)))
abbrev Tg.quad (a b c d : Tg) : Tg := .tup (.c a (.c b (.c c (.c d .n))))

mutual
inductive Ex where
  | var (i : Nat) | int (i : Int) | str (s : List Nat) | bl (b : Bool) | non | glob (g : Nat)
  | bin (o : BOp) (a b : Ex) | neg (a : Ex)
  | cmp (o : COp) (a b : Ex) | cmp2 (o o' : COp) (a b c : Ex)
  | and (a b : Ex) | or (a b : Ex) | not (a : Ex) | ite (c a b : Ex)
  /-- a list from behind; a tuple of four: its last two, from behind -/
  | rvs (a : Ex) | rv4 (a : Ex)
  | ix (a i : Ex) | sl (a lo hi : Ex) | part0
  | tup (es : Exs) | lst (es : Exs) | dn
  | call (f : Nat) (es : Exs) | new (c : Nat) (es : Exs) | mth (c : Nat) (m : List Nat) (o : Ex) (es : Exs)
  | blt (b : Blt) (es : Exs) | bm (m : Bm) (o : Ex) (es : Exs)
  | fld (o : Ex) (f : List Nat)
  | lc (vs : List Nat) (tg : Tg) (src : Src) (c : Ex) (elt : Ex)
  | lrg (src : Src)
  /-- dict(zip(a, b)) -/
  | dz (a b : Ex)
  /-- dict([..]) of pairs; an own exception that is made -/
  | dps (a : Ex) | mkx (c : Nat) (es : Exs)
  | lvs (a : Ex)
  /-- {"a": x, ..}: a new dict, its keys texts -/
  | dd (ks : List (List Nat)) (xs : Exs)
  /-- isinstance(a, (S, T)) -/
  | isi2 (t1 t2 : Blt) (a : Ex)
  | cmpN (a : Ex) (ch : Chn)
  /-- isinstance(a, own classes of exceptions (0 to 8), ValueError (9)); a caught exception's field -/
  | isx (ks : List Nat) (a : Ex) | xfld (o : Ex) (f : List Nat)
  /-- sorted(a, key=the second of a pair) -/
  | sok (a : Ex)
/-- a chain of comparisons, from the second place on -/
inductive Chn where
  | one (o : COp) (e : Ex)
  | more (o : COp) (e : Ex) (r : Chn)
inductive Exs where
  | n
  | c (e : Ex) (r : Exs)
inductive Src where
  | of (e : Ex) | rng1 (a : Ex) | rng2 (a b : Ex) | rng3 (a b c : Ex) | enum (a : Ex) | zip (a b : Ex) | rev (a : Ex)
end
/-- what is only read from there on: what slot i names; what field f of the object in slot i names -/
inductive Gst where
  | slot (i : Nat)
  | fld (i : Nat) (f : List Nat)
  | part (i j : Nat)
mutual
inductive Sm where
  | gh (g : Gst)
  | set (i : Nat) (e : Ex) | setT (t : Tg) (e : Ex) | setIx (o i e : Ex) | setF (o : Ex) (f : List Nat) (e : Ex)
  | aug (i : Nat) (op : BOp) (e : Ex) | augF (o : Ex) (f : List Nat) (op : BOp) (e : Ex)
  | expr (e : Ex) | ret (e : Ex) | retN
  | ite (c : Ex) (a b : Sms) | whl (c : Ex) (b : Sms) | for_ (t : Tg) (src : Src) (b : Sms)
  /-- a slice's store; two stores by index from two values; a statement that must not be reached -/
  | setSl (o lo hi e : Ex) | swp (o i e o' i' e' : Ex) | bad
  | raise (c : Nat) (es : Exs)
  | pass | brk | cont
  | tri (b : Sms) (h : Hds)
  /-- what slot i names is only read while the value or the test is reckoned -/
  | retL (i : Nat) (e : Ex) | iteL (i : Nat) (c : Ex) (a b : Sms)
inductive Sms where
  | n
  | c (s : Sm) (r : Sms)
/-- except clauses: the class, the slot of its name, the suite -/
inductive Hds where
  | n
  | c (k : Nat) (as : Option Nat) (b : Sms) (r : Hds)
end

mutual
def D.noRef : D → Bool
  | .ref _ => false
  | .rol _ => false
  | .ktup _ => false
  | .rod _ _ _ => false
  | .exc _ _ _ => false
  | .scr _ => false
  | .tup ds => D.noRefs ds
  | _ => true
def D.noRefs : List D → Bool
  | [] => true
  | d :: ds => D.noRef d && D.noRefs ds
end
mutual
/-- no address, texts of real signs, at most n deep; lists that are only read are data, too -/
def D.plain : Nat → D → Bool
  | _, .non => true
  | _, .bl _ => true
  | _, .int _ => true
  | _, .str s => s.all (· < 1114112)
  | 0, .tup _ => false
  | n + 1, .tup ds => D.plains n ds
  | 0, .rol _ => false
  | n + 1, .rol ds => D.plains n ds
  | 0, .ktup _ => false
  | n + 1, .ktup ds => D.plains n ds
  | _, .ref _ => false
  | _, .rod _ _ _ => false
  | _, .exc _ _ _ => false
  | _, .scr _ => false
def D.plains : Nat → List D → Bool
  | _, [] => true
  | n, d :: ds => D.plain n d && D.plains n ds
end
mutual
/-- == of values without addresses -/
def D.eqv : D → D → Bool
  | .non, .non => true
  | .bl a, .bl b => a == b
  | .bl a, .int j => (if a then 1 else 0) == j
  | .int i, .bl b => i == (if b then 1 else 0)
  | .int i, .int j => i == j
  | .str x, .str y => x == y
  | .tup xs, .tup ys => D.eqvs xs ys
  | .tup xs, .ktup ys => D.eqvs xs ys
  | .ktup xs, .tup ys => D.eqvs xs ys
  | .ktup xs, .ktup ys => D.eqvs xs ys
  | .rol xs, .rol ys => D.eqvs xs ys
  | .non, .bl _ => false | .non, .int _ => false | .non, .str _ => false | .non, .tup _ => false | .non, .ktup _ => false | .non, .rol _ => false | .non, .ref _ => false | .non, .rod _ _ _ => false | .non, .exc _ _ _ => false | .non, .scr _ => false
  | .bl _, .non => false | .bl _, .str _ => false | .bl _, .tup _ => false | .bl _, .ktup _ => false | .bl _, .rol _ => false | .bl _, .ref _ => false | .bl _, .rod _ _ _ => false | .bl _, .exc _ _ _ => false | .bl _, .scr _ => false
  | .int _, .non => false | .int _, .str _ => false | .int _, .tup _ => false | .int _, .ktup _ => false | .int _, .rol _ => false | .int _, .ref _ => false | .int _, .rod _ _ _ => false | .int _, .exc _ _ _ => false | .int _, .scr _ => false
  | .str _, .non => false | .str _, .bl _ => false | .str _, .int _ => false | .str _, .tup _ => false | .str _, .ktup _ => false | .str _, .rol _ => false | .str _, .ref _ => false | .str _, .rod _ _ _ => false | .str _, .exc _ _ _ => false | .str _, .scr _ => false
  | .tup _, .non => false | .tup _, .bl _ => false | .tup _, .int _ => false | .tup _, .str _ => false | .tup _, .rol _ => false | .tup _, .ref _ => false | .tup _, .rod _ _ _ => false | .tup _, .exc _ _ _ => false | .tup _, .scr _ => false
  | .ktup _, .non => false | .ktup _, .bl _ => false | .ktup _, .int _ => false | .ktup _, .str _ => false | .ktup _, .rol _ => false | .ktup _, .ref _ => false | .ktup _, .rod _ _ _ => false | .ktup _, .exc _ _ _ => false | .ktup _, .scr _ => false
  | .rol _, .non => false | .rol _, .bl _ => false | .rol _, .int _ => false | .rol _, .str _ => false | .rol _, .tup _ => false | .rol _, .ktup _ => false | .rol _, .ref _ => false | .rol _, .rod _ _ _ => false | .rol _, .exc _ _ _ => false | .rol _, .scr _ => false
  | .ref _, _ => false
  | .rod _ _ _, _ => false
  | .exc _ _ _, _ => false
  | .scr _, _ => false
def D.eqvs : List D → List D → Bool
  | [], [] => true
  | x :: xs, y :: ys => D.eqv x y && D.eqvs xs ys
  | [], _ :: _ => false
  | _ :: _, [] => false
end
/-- .. of whole data: lists opened -/
inductive F where
  | non | bl (b : Bool) | int (i : Int) | str (s : List Nat) | tup (ds : List F) | lst (ds : List F)
mutual
def F.eqv : F → F → Bool
  | .non, .non => true
  | .bl a, .bl b => a == b
  | .bl a, .int j => (if a then 1 else 0) == j
  | .int i, .bl b => i == (if b then 1 else 0)
  | .int i, .int j => i == j
  | .str x, .str y => x == y
  | .tup xs, .tup ys => F.eqvs xs ys
  | .lst xs, .lst ys => F.eqvs xs ys
  | .non, .bl _ => false | .non, .int _ => false | .non, .str _ => false | .non, .tup _ => false | .non, .lst _ => false
  | .bl _, .non => false | .bl _, .str _ => false | .bl _, .tup _ => false | .bl _, .lst _ => false
  | .int _, .non => false | .int _, .str _ => false | .int _, .tup _ => false | .int _, .lst _ => false
  | .str _, .non => false | .str _, .bl _ => false | .str _, .int _ => false | .str _, .tup _ => false | .str _, .lst _ => false
  | .tup _, .non => false | .tup _, .bl _ => false | .tup _, .int _ => false | .tup _, .str _ => false | .tup _, .lst _ => false
  | .lst _, .non => false | .lst _, .bl _ => false | .lst _, .int _ => false | .lst _, .str _ => false | .lst _, .tup _ => false
def F.eqvs : List F → List F → Bool
  | [], [] => true
  | x :: xs, y :: ys => F.eqv x y && F.eqvs xs ys
  | [], _ :: _ => false
  | _ :: _, [] => false
end
mutual
/-- d is the data f, its lists read in m, at most n deep -/
def Opn (m : Mem) : Nat → D → F → Prop
  | _, .non, .non => True
  | _, .bl a, .bl b => a = b
  | _, .int a, .int b => a = b
  | _, .str a, .str b => a = b ∧ a.all (· < 1114112) = true
  | n + 1, .tup ds, .tup fs => Opns m n ds fs
  | n + 1, .ktup ds, .tup fs => Opns m n ds fs
  | n + 1, .rol ds, .lst fs => Opns m n ds fs
  | n + 1, .ref a, .lst fs => ∃ ds, m a = some (.lst ds) ∧ Opns m n ds fs
  | _, _, _ => False
def Opns (m : Mem) : Nat → List D → List F → Prop
  | _, [], [] => True
  | n, d :: ds, f :: fs => Opn m n d f ∧ Opns m n ds fs
  | _, _, _ => False
end

/-- a place of a sequence: from the end where negative -/
def dIx (n : Nat) (i : Int) : Option Nat := if 0 ≤ i then (if i < n then some i.toNat else none) else if -(n : Int) ≤ i then some (i + n).toNat else none
def atI {α : Type} (xs : List α) (i : Int) : Option α := (dIx xs.length i).bind fun j => xs[j]?
/-- a slice's bound -/
def dSx (n d : Nat) : Option Int → Nat
  | none => d
  | some i => if i < 0 then (i + n).toNat else min i.toNat n
def cut {α : Type} (xs : List α) (lo hi : Option Int) : List α := (xs.drop (dSx xs.length 0 lo)).take (dSx xs.length xs.length hi - dSx xs.length 0 lo)

def lk (fs : List (List Nat × D)) (f : List Nat) : Option D := fs.lookup f
def putF (f : List Nat) (v : D) : List (List Nat × D) → List (List Nat × D)
  | [] => [(f, v)]
  | q :: r => if q.1 = f then (f, v) :: r else q :: putF f v r

/-- an object that is new -/
abbrev New (m : Mem) (o : MO) (k : Kt) : Prop := ∀ p, m p = none → k (.ref p) (upd m p o)
theorem New.by {m : Mem} {o : MO} {k : Kt} (h : ∀ p M, m p = none → M = upd m p o → Sub m M → M p = some o → (∀ q, M q = none → m q = none ∧ q ≠ p) → k (.ref p) M) : New m o k := fun p hp => h p _ hp rfl (Sub.new hp) upd_same fun q hq => by
  unfold upd at hq
  split at hq
  · cases hq
  · rename_i e
    exact ⟨hq, e⟩
/-- a list that is new, as an object or only to be read -/
abbrev NewL (m : Mem) (ds : List D) (k : Kt) : Prop := New m (.lst ds) k ∨ k (.rol ds) m
/-- a dict that is new -/
def rodOf (t : Bool) (kvs : List (D × D)) : D := .rod t (kvs.map (·.1)) (kvs.map (·.2))
abbrev NewD (m : Mem) (kvs : List (D × D)) (k : Kt) : Prop := New m (.dK kvs) k ∨ k (rodOf false kvs) m
/-- .. as the mode says: by value, or tracked -/
def NewLv (bv : Bool) (m : Mem) (ds : List D) (k : Kt) : Prop := match bv with
  | true => k (.rol ds) m
  | false => New m (.lst ds) k
def NewDv (bv : Bool) (m : Mem) (kvs : List (D × D)) (k : Kt) : Prop := match bv with
  | true => k (rodOf false kvs) m
  | false => New m (.dK kvs) k
theorem NewLv.or {bv : Bool} {m : Mem} {ds : List D} {k : Kt} (h : NewLv bv m ds k) : NewL m ds k := by
  cases bv with
  | true => exact .inr h
  | false => exact .inl h
theorem NewDv.or {bv : Bool} {m : Mem} {kvs : List (D × D)} {k : Kt} (h : NewDv bv m kvs k) : NewD m kvs k := by
  cases bv with
  | true => exact .inr h
  | false => exact .inl h
/-- without what stands at a -/
def del (m : Mem) (a : Nat) : Mem := fun b => if b = a then none else m b
/-- what stands at an address, only to be read from now on -/
def frzO : MO → Option D
  | .lst ds => some (.rol ds)
  | .dK kvs => some (rodOf false kvs)
  | .dT kvs => some (rodOf true kvs)
  | .ins _ _ => none
/-- .. or the value is only read from now on -/
def Fz (k : Kt) : Kt := fun d m => k d m ∨ ∃ a o r, d = .ref a ∧ m a = some o ∧ frzO o = some r ∧ k r (del m a)
/-- a list or dict that is given back is only read from now on -/
def frz (d : D) (m : Mem) (k : Kt) : Prop := match d with
  | .ref a => match m a with
    | some (.lst ds) => k (.rol ds) (del m a)
    | some (.dK kvs) => k (rodOf false kvs) (del m a)
    | some (.dT kvs) => k (rodOf true kvs) (del m a)
    | _ => k d m
  | _ => k d m
theorem frz_fz {d : D} {m : Mem} {k : Kt} (h : frz d m k) : Fz k d m := by
  unfold frz at h
  split at h
  · rename_i a
    split at h
    · rename_i ds e
      exact .inr ⟨a, _, _, rfl, e, rfl, h⟩
    · rename_i ds e
      exact .inr ⟨a, _, _, rfl, e, rfl, h⟩
    · rename_i ds e
      exact .inr ⟨a, _, _, rfl, e, rfl, h⟩
    · exact .inl h
  · exact .inl h
def big : Nat := 16000000
/-- a list's items -/
def lstOf (m : Mem) (d : D) : Option (List D) :=
  match d with
  | .ref a => match m a with
    | some (.lst ds) => some ds
    | _ => none
  | .rol ds => some ds
  | _ => none
/-- a list's or tuple's items -/
def seqOf (m : Mem) (d : D) : Option (List D) :=
  match conS d with
  | some ds => some ds
  | none => lstOf m d
/-- a dict's items; whether its keys are tuples -/
def dicOf (m : Mem) (d : D) : Option (Bool × List (D × D)) :=
  match d with
  | .ref a => match m a with
    | some (.dK kvs) => some (false, kvs)
    | some (.dT kvs) => some (true, kvs)
    | _ => none
  | .rod t ks vs => some (t, ks.zip vs)
  | _ => none
/-- lists behind one another -/
def rAddL (bv : Bool) (x y : D) (m : Mem) (k : Kt) : Prop := ∃ xs ys, lstOf m x = some xs ∧ lstOf m y = some ys ∧ xs.length + ys.length ≤ big ∧ NewLv bv m (xs ++ ys) k
def rBin (bv : Bool) : BOp → D → D → Mem → Kt → Prop
  | .add, .int i, .int j, m, k => k (.int (i + j)) m
  | .add, .str a, .str b, m, k => a.length + b.length ≤ big ∧ k (.str (a ++ b)) m
  | .add, .tup a, .tup b, m, k => a.length + b.length ≤ big ∧ k (.tup (a ++ b)) m
  | .add, .ref a, .ref b, m, k => rAddL bv (.ref a) (.ref b) m k
  | .add, .ref a, .rol b, m, k => rAddL bv (.ref a) (.rol b) m k
  | .add, .rol a, .ref b, m, k => rAddL bv (.rol a) (.ref b) m k
  | .add, .rol a, .rol b, m, k => rAddL bv (.rol a) (.rol b) m k
  | .sub, .int i, .int j, m, k => k (.int (i - j)) m
  | .mul, .int i, .int j, m, k => ((-(2 ^ 64) < i ∧ i < 2 ^ 64) ∨ (-(2 ^ 64) < j ∧ j < 2 ^ 64)) ∧ k (.int (i * j)) m
  | .mul, .ref a, .int j, m, k => ∃ ds, m a = some (.lst ds) ∧ (0 ≤ j ∧ j ≤ 1000000) ∧ ds.length * j.toNat ≤ big ∧ NewLv bv m (List.replicate j.toNat ds).flatten k
  | .mul, .str a, .int j, m, k => ∃ c, a = [c] ∧ 0 ≤ j ∧ j ≤ 1000000 ∧ k (.str (List.replicate j.toNat c)) m
  | .fdiv, .int i, .int j, m, k => (0 < j ∧ j < 2 ^ 200) ∧ k (.int (i / j)) m
  | .mod, .int i, .int j, m, k => 0 < j ∧ k (.int (i % j)) m
  | .pow, .int i, .int j, m, k => ((0 ≤ j ∧ j ≤ 1000000) ∧ i.natAbs < 2 ^ 64) ∧ k (.int (i ^ j.toNat)) m
  | _, _, _, _, _ => False
/-- flat: told apart by value -/
def D.flat : D → Bool
  | .non => true | .bl _ => true | .int _ => true | .str s => s.all (· < 1114112)
  | _ => false
def hasKey (kvs : List (D × D)) (x : D) : Bool := kvs.any fun q => D.eqv q.1 x
def getKey (kvs : List (D × D)) (x : D) : Option D := (kvs.find? fun q => D.eqv q.1 x).map (·.2)
def keyK : D → Bool
  | .int _ => true | .str _ => true | _ => false
def keyT : D → Bool
  | .tup ds => ds.all keyK | _ => false
/-- equal, at most n deep; lists and dicts (by ints and texts) as they stand in m -/
def alike (m : Mem) : Nat → D → D → Prop
  | 0, _, _ => False
  | n + 1, x, y => (x = y ∧ D.flat x = true) ∨ (∃ xs ys : List D, lstOf m x = some xs ∧ lstOf m y = some ys ∧ xs.length = ys.length ∧ ∀ (i : Nat) (a b : D), xs[i]? = some a → ys[i]? = some b → alike m n a b) ∨
      (∃ xs ys : List D, tupS x = some xs ∧ tupS y = some ys ∧ xs.length = ys.length ∧ ∀ (i : Nat) (a b : D), xs[i]? = some a → ys[i]? = some b → alike m n a b) ∨
      ∃ xs ys : List (D × D), dicOf m x = some (false, xs) ∧ dicOf m y = some (false, ys) ∧ xs.length = ys.length ∧ ∀ q ∈ xs, keyK q.1 = true ∧ ∃ d, getKey ys q.1 = some d ∧ alike m n q.2 d
def rEq (x y : D) (m : Mem) (k : Bool → Prop) : Prop :=
  (D.plain 90 x = true ∧ D.plain 90 y = true ∧ k (D.eqv x y)) ∨ (∃ f g, Opn m 90 x f ∧ Opn m 90 y g ∧ k (F.eqv f g)) ∨ alike m 92 x y ∧ k true
/-- dicts by ints and texts that hold the same flat values -/
def alikeF (m : Mem) (x y : D) : Prop := ∃ xs ys, dicOf m x = some (false, xs) ∧ dicOf m y = some (false, ys) ∧ xs.length = ys.length ∧ ∀ q ∈ xs, keyK q.1 = true ∧ D.flat q.2 = true ∧ getKey ys q.1 = some q.2
/-- tuples of what is equal -/
def alikeT (m : Mem) (x y : D) : Prop := ∃ xs ys : List D, tupS x = some xs ∧ tupS y = some ys ∧ xs.length = ys.length ∧ ∀ (i : Nat) (a b : D), xs[i]? = some a → ys[i]? = some b → alike m 91 a b
/-- whether x and y are equal, as != asks it -/
def rNe (x y : D) (m : Mem) (k : Bool → Prop) : Prop :=
  (D.plain 90 x = true ∧ D.plain 90 y = true ∧ k (D.eqv x y)) ∨ (∃ f g, Opn m 90 x f ∧ Opn m 90 y g ∧ k (F.eqv f g)) ∨ (alikeF m x y ∧ k true) ∨ alikeT m x y ∧ k true
def rIn (x y : D) (m : Mem) (k : Bool → Prop) : Prop :=
  match y with
  | .str t => ∃ c, x = .str [c] ∧ k (decide (c ∈ t))
  | y => match seqOf m y with
    | some ds => ((D.flat x = true ∧ ds.all D.flat = true) ∨ (tupS y = none ∧ D.plain 50 x = true ∧ D.plains 50 ds = true)) ∧ k (ds.any fun y => D.eqv y x)
    | none => match dicOf m y with
      | some (false, kvs) => keyK x = true ∧ k (hasKey kvs x)
      | some (true, kvs) => keyT x = true ∧ k (hasKey kvs x)
      | none => False
def strLt (a b : List Nat) : Bool := decide (a < b)
def intsOf : List D → Option (List Int)
  | [] => some []
  | .int b :: r => (intsOf r).map (b :: ·)
  | _ :: _ => none
def rLt (x y : D) (k : Bool → Prop) : Prop :=
  match x, y with
  | .tup a, .tup b => ∃ p q, intsOf a = some p ∧ intsOf b = some q ∧ k (decide (p < q))
  | .int i, .int j => k (decide (i < j))
  | .str a, .str b => k (strLt a b)
  | _, _ => False
def rGt (x y : D) (k : Bool → Prop) : Prop :=
  match x, y with
  | .int i, .int j => k (decide (j < i))
  | .str a, .str b => k (strLt b a)
  | _, _ => False
def rLe (x y : D) (k : Bool → Prop) : Prop :=
  match x, y with
  | .int i, .int j => k (decide (i ≤ j))
  | .str a, .str b => k (!strLt b a)
  | _, _ => False
def rIs (x y : D) (k : Bool → Prop) : Prop :=
  match x, y with
  | .non, .non => k true
  | .bl _, .non => k false | .int _, .non => k false | .str _, .non => k false | .tup _, .non => k false | .ref _, .non => k false | .rol _, .non => k false | .ktup _, .non => k false | .rod _ _ _, .non => k false | .exc _ _ _, .non => k false | .scr _, .non => k false
  | .bl a, .bl b => k (decide (a = b))
  | _, _ => False
def rCmp : COp → D → D → Mem → (Bool → Prop) → Prop
  | .eq, x, y, m, k => rEq x y m k
  | .ne, x, y, m, k => rNe x y m fun b => k (!b)
  | .lt, x, y, _, k => rLt x y k
  | .le, x, y, _, k => rLe x y k
  | .gt, x, y, _, k => rGt x y k
  | .ge, x, y, _, k => rLe y x k
  | .isin, x, y, m, k => rIn x y m k
  | .notin, x, y, m, k => rIn x y m fun b => k (!b)
  | .is, x, y, _, k => rIs x y k
  | .isnot, x, y, _, k => rIs x y fun b => k (!b)
def rTru (x : D) (m : Mem) (k : Bool → Prop) : Prop :=
  match conS x with
  | some ds => k (!ds.isEmpty)
  | none => match x with
    | .non => k false
    | .bl b => k b
    | .int i => k (i != 0)
    | .str s => s.length ≤ big ∧ k (!s.isEmpty)
    | .ref a => match m a with
      | some (.lst ds) => k (!ds.isEmpty)
      | some (.dK kvs) => k (!kvs.isEmpty)
      | _ => False
    | _ => False
def rIx (x i : D) (m : Mem) (k : Kt) : Prop :=
  match conS x, i with
  | some ds, .int i => ∃ d, atI ds i = some d ∧ k d m
  | some _, _ => False
  | none, i => match x, i with
    | .str s, .int i => s.length ≤ big ∧ ∃ c, atI s i = some c ∧ k (.str [c]) m
    | .rod false ks vs, i => keyK i = true ∧ ∃ d, getKey (ks.zip vs) i = some d ∧ k d m
    | .rod true ks vs, i => keyT i = true ∧ ∃ d, getKey (ks.zip vs) i = some d ∧ k d m
    | .ref a, i => match m a, i with
      | some (.lst ds), .int i => ∃ d, atI ds i = some d ∧ k d m
      | some (.dK kvs), i => keyK i = true ∧ ∃ d, getKey kvs i = some d ∧ k d m
      | some (.dT kvs), i => keyT i = true ∧ ∃ d, getKey kvs i = some d ∧ k d m
      | _, _ => False
    | _, _ => False
def rSl (bv : Bool) (x : D) (lo hi : Option Int) (m : Mem) (k : Kt) : Prop :=
  match x with
  | .tup ds => k (.tup (cut ds lo hi)) m
  | .str s => s.length ≤ big ∧ k (.str (cut s lo hi)) m
  | .scr ns => NewLv bv m (cut (ns.map D.int) lo hi) k
  | .rol ds => NewLv bv m (cut ds lo hi) k
  | .ref a => match m a with
    | some (.lst ds) => NewLv bv m (cut ds lo hi) k
    | _ => False
  | _ => False
def putKey (kvs : List (D × D)) (x v : D) : List (D × D) := if hasKey kvs x then kvs.map fun q => if D.eqv q.1 x then (q.1, v) else q else kvs ++ [(x, v)]
def dropKey (kvs : List (D × D)) (x : D) : List (D × D) := kvs.filter fun q => !D.eqv q.1 x
/-- pairs, later ones win -/
def mergeD (l : List (D × D)) : List (D × D) := l.foldl (fun acc q => putKey acc q.1 q.2) []
/-- a tuple's or a list's items -/
def dzS (m : Mem) (y : D) : Option (List D) := match tupS y with
  | some ys => some ys
  | none => lstOf m y
def rSet (o i v : D) (m : Mem) (k : Mem → Prop) : Prop :=
  match o with
  | .ref a => match m a, i with
    | some (.lst ds), .int i => ∃ j, dIx ds.length i = some j ∧ k (upd m a (.lst (ds.set j v)))
    | some (.dK kvs), i => keyK i = true ∧ kvs.length < big ∧ k (upd m a (.dK (putKey kvs i v)))
    | some (.dT kvs), i => keyT i = true ∧ kvs.length < big ∧ k (upd m a (.dT (putKey kvs i v)))
    | _, _ => False
  | _ => False
def allBl : List D → Option (List Bool)
  | [] => some []
  | .bl b :: r => (allBl r).map (b :: ·)
  | _ :: _ => none
def allInt : List D → Option (List Int)
  | [] => some []
  | .int b :: r => (allInt r).map (b :: ·)
  | _ :: _ => none
def allStr : List D → Option (List (List Nat))
  | [] => some []
  | .str b :: r => (allStr r).map (b :: ·)
  | _ :: _ => none
/-- a tuple of ints; their order -/
def encI (p : List Int) : D := .tup (p.map D.int)
def leI (p q : List Int) : Bool := decide (p ≤ q)
def encPP (q : List Int × List Int) : D := .tup [encI q.1, encI q.2]
def leP2 (a b : List Int × List Int) : Bool := leI a.2 b.2
/-- the figures of a number -/
def digN (n : Nat) : List Nat := if n < 10 then [48 + n] else digN (n / 10) ++ [48 + n % 10]
def isTy (t : Blt) (own : Blt) (k : Bool → Prop) : Prop :=
  match t with
  | .isInt => k (decide (own = .isInt) || decide (own = .isBool))
  | .isBool => k (decide (own = .isBool))
  | .isStr => k (decide (own = .isStr))
  | .isList => k (decide (own = .isList))
  | .isTuple => k (decide (own = .isTuple))
  | .isDict => k (decide (own = .isDict))
  | _ => False
def rIsT (t : Blt) (x : D) (m : Mem) (k : Bool → Prop) : Prop :=
  match x with
  | .int _ => isTy t .isInt k
  | .bl _ => isTy t .isBool k
  | .non => isTy t .len k
  | .str _ => isTy t .isStr k
  | .tup _ => isTy t .isTuple k
  | .ktup _ => isTy t .isTuple k
  | .rol _ => isTy t .isList k
  | .rod false _ _ => isTy t .isDict k
  | .rod true _ _ => False
  | .exc _ _ _ => False
  | .scr _ => isTy t .isList k
  | .ref a => match m a with
    | some (.lst _) => isTy t .isList k
    | some (.dK _) => isTy t .isDict k
    | some (.dT _) => isTy t .isDict k
    | _ => False
/-- built-ins by values -/
def rBlt (bv : Bool) : Blt → List D → Mem → Kt → Prop
  | .len, [x], m, k => match conS x with
    | some ds => k (.int ds.length) m
    | none => match x with
      | .str s => s.length ≤ big ∧ k (.int s.length) m
      | .rod _ ks vs => k (.int (ks.zip vs).length) m
      | .ref a => match m a with
        | some (.lst ds) => k (.int ds.length) m
        | some (.dK kvs) => k (.int kvs.length) m
        | some (.dT kvs) => k (.int kvs.length) m
        | _ => False
      | _ => False
  | .int, [.bl b], m, k => k (.int (if b then 1 else 0)) m
  | .int, [.int i], m, k => k (.int i) m
  | .str, [.int i], m, k => (0 ≤ i ∧ i < 2 ^ 1900) ∧ k (.str (digN i.toNat)) m
  | .str, [.str s], m, k => k (.str s) m
  | .list, [x], m, k => (∃ ds, seqOf m x = some ds ∧ NewLv bv m ds k) ∨ ∃ kvs : List (D × D), dicOf m x = some (false, kvs) ∧ NewLv bv m (kvs.map (·.1)) k
  | .tuple, [x], m, k => ∃ ds, (lstOf m x = some ds ∨ x = .tup ds) ∧ k (.tup ds) m
  | .dict, [x], m, k => ∃ kvs, dicOf m x = some (false, kvs) ∧ NewDv bv m kvs k
  | .sorted, [x], m, k => (∃ ds ss, (lstOf m x = some ds ∨ ∃ kvs, dicOf m x = some (false, kvs) ∧ ds = kvs.map (·.1)) ∧ allStr ds = some ss ∧ ss.length < 64 ∧ ∀ ts : List (List Nat), ts.Perm ss → ts.Pairwise (fun a b => strLt b a = false) → NewLv bv m (ts.map D.str) k) ∨ ∃ ps : List (List Int), lstOf m x = some (ps.map encI) ∧ (∀ p ∈ ps, p ≠ []) ∧ ps.length ≤ big ∧ NewLv bv m ((ps.mergeSort leI).map encI) k
  | .all, [x], m, k => ∃ ds bs, lstOf m x = some ds ∧ allBl ds = some bs ∧ k (.bl (bs.all id)) m
  | .any, [x], m, k => ∃ ds bs, lstOf m x = some ds ∧ allBl ds = some bs ∧ k (.bl (bs.any id)) m
  | .sum, [x], m, k => ∃ ds ns, lstOf m x = some ds ∧ allInt ds = some ns ∧ k (.int ns.sum) m
  | .max2, [.int i, .int j], m, k => k (.int (if j > i then j else i)) m
  | .min2, [.int i, .int j], m, k => k (.int (if j < i then j else i)) m
  | .isInt, [x], m, k => rIsT .isInt x m fun b => k (.bl b) m
  | .isBool, [x], m, k => rIsT .isBool x m fun b => k (.bl b) m
  | .isStr, [x], m, k => rIsT .isStr x m fun b => k (.bl b) m
  | .isList, [x], m, k => rIsT .isList x m fun b => k (.bl b) m
  | .isTuple, [x], m, k => rIsT .isTuple x m fun b => k (.bl b) m
  | .isDict, [x], m, k => rIsT .isDict x m fun b => k (.bl b) m
  | _, _, _, _ => False
def joinS (a : List Nat) : List (List Nat) → List Nat
  | [] => []
  | [x] => x
  | x :: y :: r => x ++ (a ++ joinS a (y :: r))
/-- parts between single signs -/
def splitS (c : Nat) : List Nat → List (List Nat)
  | [] => [[]]
  | x :: r => match splitS c r with
    | [] => [[]]
    | p :: ps => if x = c then [] :: p :: ps else (x :: p) :: ps
/-- of which type the receiver of a method is -/
def okLst (x : D) (m : Mem) : Prop := match x with
  | .ref a => match m a with
    | some (.lst _) => True
    | _ => False
  | .rol _ => True
  | _ => False
def okDic (x : D) (m : Mem) : Prop := match x with
  | .ref a => match m a with
    | some (.dK _) => True
    | some (.dT _) => True
    | _ => False
  | .rod _ _ _ => True
  | _ => False
def okStr (x : D) : Prop := match x with
  | .str _ => True
  | _ => False
def bmOk (b : Bm) (x : D) (m : Mem) : Prop :=
  match b with
  | .join => okStr x | .index => okStr x | .split => okStr x | .strip => okStr x | .rstrip => okStr x | .replace => okStr x | .isdigit => okStr x | .isalpha => okStr x
  | .clear => okDic x m | .popD => okDic x m | .get1 => okDic x m | .get2 => okDic x m | .update => okDic x m | .items => okDic x m | .values => okDic x m
  | _ => okLst x m
/-- what a list may be lengthened by -/
def extOf (m : Mem) : D → Option (List D)
  | .tup es => some es
  | d => lstOf m d
def rBm : Bm → D → List D → Mem → Kt → Prop
  | .append, .ref a, [v], m, k => match m a with
    | some (.lst ds) => ds.length < big ∧ k .non (upd m a (.lst (ds ++ [v])))
    | _ => False
  | .extend, .ref a, [y], m, k => ∃ ds es, m a = some (.lst ds) ∧ extOf m y = some es ∧ ds.length + es.length ≤ big ∧ k .non (upd m a (.lst (ds ++ es)))
  | .pop, .ref a, [], m, k => match m a with
    | some (.lst ds) => ∃ d, ds[ds.length - 1]? = some d ∧ k d (upd m a (.lst ds.dropLast))
    | _ => False
  | .clear, .ref a, [], m, k => match m a with
    | some (.dK _) => k .non (upd m a (.dK []))
    | _ => False
  | .clearL, .ref a, [], m, k => match m a with
    | some (.lst _) => k .non (upd m a (.lst []))
    | _ => False
  | .popAt, .ref a, [.int i], m, k => match m a with
    | some (.lst ds) => ∃ j d, dIx ds.length i = some j ∧ ds[j]? = some d ∧ k d (upd m a (.lst (ds.eraseIdx j)))
    | _ => False
  | .popD, .ref a, [x], m, k => match m a with
    | some (.dK kvs) => keyK x = true ∧ ∃ d, getKey kvs x = some d ∧ k d (upd m a (.dK (dropKey kvs x)))
    | _ => False
  | .get1, y, [x], m, k => match dicOf m y with
    | some (false, kvs) => keyK x = true ∧ k ((getKey kvs x).getD .non) m
    | some (true, kvs) => keyT x = true ∧ k ((getKey kvs x).getD .non) m
    | none => False
  | .join, .str a, [x], m, k => ∃ ds ss, seqOf m x = some ds ∧ allStr ds = some ss ∧ (ss.map List.length).sum + ss.length * a.length ≤ big ∧ k (.str (joinS a ss)) m
  | .split, .str a, [.str s], m, k => ∃ c, s = [c] ∧ c < 256 ∧ a.length + 2 ≤ big ∧ New m (.lst ((splitS c a).map D.str)) k
  | .count, x, [.bl b], m, k => ∃ ds bs, lstOf m x = some ds ∧ allBl ds = some bs ∧ k (.int (bs.count b : Nat)) m
  | .indexL, x, [.bl b], m, k => ∃ ds bs j, lstOf m x = some ds ∧ allBl ds = some bs ∧ bs[j]? = some b ∧ (∀ i, i < j → bs[i]? ≠ some b) ∧ j ≤ big ∧ k (.int (j : Nat)) m
  | .indexL, x, [.str s], m, k => ∃ ds ws j, lstOf m x = some ds ∧ allStr ds = some ws ∧ ws[j]? = some s ∧ (∀ i, i < j → ws[i]? ≠ some s) ∧ j ≤ big ∧ k (.int (j : Nat)) m
  | .update, .ref a, [y], m, k => match m a with
    | some (.dK kvs) => ∃ more, dicOf m y = some (false, more) ∧ y ≠ .ref a ∧ kvs.length + more.length ≤ big ∧ k .non (upd m a (.dK (more.foldl (fun acc q => putKey acc q.1 q.2) kvs)))
    | _ => False
  | .index, .str a, [.str s], m, k => ∃ c i, s = [c] ∧ a[i]? = some c ∧ (∀ j, j < i → a[j]? ≠ some c) ∧ k (.int (i : Nat)) m
  | .get2, y, [x, v], m, k => match dicOf m y with
    | some (false, kvs) => keyK x = true ∧ k ((getKey kvs x).getD v) m
    | some (true, kvs) => keyT x = true ∧ k ((getKey kvs x).getD v) m
    | none => False
  | _, _, _, _, _ => False

/-- the fields that an exception's own __init__ sets; which classes it is of -/
def excF (c : Nat) : List (List Nat) := if c = 1 then [[108, 105, 110, 101]] else if c = 2 then [[110, 97, 109, 101]] else if c = 3 then [[110, 97, 109, 101]] else if c = 4 then [[110, 97, 109, 101]] else []
def excSub (c k : Nat) : Bool := c == k || (k == 0 || k == 9)
/-- a caught exception -/
def excD (e : Exc) : D := .exc e.cls (e.fs.map (·.1)) (e.fs.map (·.2))
def rIsX (xc : Nat → Bool) (ks : List Nat) (x : D) (m : Mem) (k : Bool → Prop) : Prop := match x with
  | .exc c _ _ => xc c = true ∧ k (ks.any fun j => excSub c j)
  | .non => k false
  | .bl _ => k false
  | .int _ => k false
  | .str _ => k false
  | .tup _ => k false
  | .ktup _ => k false
  | .rol _ => k false
  | .ref a => match m a with
    | some (.lst _) => k false
    | some (.dK _) => k false
    | some (.dT _) => k false
    | some (.ins _ _) => False
    | none => False
  | _ => False
structure En where
  fn : Nat → Sp
  gl : Nat → D
  mt : Nat → List Nat → Sp := fun _ _ _ _ _ _ => False
  ini : Nat → Sp := fun _ _ _ _ _ => False
  /-- the fields that an instance of a class may have -/
  fk : Nat → List Nat → Bool := fun _ _ => false
  /-- new lists by value; the names and fields that hold tracked ones; whether stores and calls for their own sake hand on tracked ones; whether what is given back is only read from then on -/
  v : Bool := true
  own : List Nat := []
  ownF : List (List Nat) := []
  sx : Bool := false
  rz : Bool := true
  /-- the classes of exceptions that are told of -/
  xc : Nat → Bool := fun _ => false
def En.tr (Γ : En) : En := { Γ with v := false }
def En.at (Γ : En) (i : Nat) : En := if i ∈ Γ.own then Γ.tr else Γ
def En.atF (Γ : En) (f : List Nat) : En := if f ∈ Γ.ownF then Γ.tr else Γ
def En.ax (Γ : En) : En := if Γ.sx = true then Γ.tr else Γ
/-- .. as a def's proof wants them -/
def En.w (Γ : En) (l : List Nat) : En := { Γ with v := true, own := l, ownF := [], sx := false, rz := true }

/-- what is unpacked: tuples and lists -/
def unp (m : Mem) (d : D) : Option (List D) := match tupS d with
  | some ds => some ds
  | none => lstOf m d
def tgsLen : Tgs → Nat
  | .n => 0
  | .c _ r => tgsLen r + 1
mutual
def rTg : Tg → D → St → Mem → (St → Mem → Prop) → Prop
  | .name i => fun d σ m k => k (sset σ i d) m
  | .tup ts => fun d σ m k => match unp m d with
    | some ds => ds.length = tgsLen ts ∧ rTgs ts ds σ m k
    | none => False
def rTgs : Tgs → List D → St → Mem → (St → Mem → Prop) → Prop
  | .n => fun ds σ m k => match ds with
    | [] => k σ m
    | _ :: _ => False
  | .c t r => fun ds σ m k => match ds with
    | [] => False
    | d :: es => rTg t d σ m fun σ1 m1 => rTgs r es σ1 m1 k
end
def pairUp : Nat → List D → List D
  | _, [] => []
  | i, d :: ds => .tup [.int i, d] :: pairUp (i + 1) ds
def zipUp : List D → List D → List D
  | x :: xs, y :: ys => .tup [x, y] :: zipUp xs ys
  | _, _ => []
/-- lo, lo + c, .. (n of them) -/
def rangeD (lo c : Int) : Nat → List D
  | 0 => []
  | n + 1 => .int lo :: rangeD (lo + c) c n
/-- a list's items as they stand at each turn -/
def Grd := Mem → Prop
def gTrue : Mem → Prop := fun _ => True
def gLst (a : Nat) (ds : List D) : Mem → Prop := fun m => m a = some (.lst ds)
def iter (x : D) (m : Mem) (k : (Mem → Prop) → List D → Prop) : Prop :=
  match conS x with
  | some ds => k gTrue ds
  | none => match x with
    | .str s => k gTrue (s.map fun c => .str [c])
    | .rod false ks vs => k gTrue ((ks.zip vs).map (·.1))
    | .rod true ks vs => k gTrue ((ks.zip vs).map (·.1))
    | .ref a => match m a with
      | some (.lst ds) => k (gLst a ds) ds
      | _ => False
    | _ => False
/-- a list's items, turn by turn -/
def iterL (x : D) (m : Mem) (k : (Mem → Prop) → List D → Prop) : Prop :=
  match x with
  | .rol ds => k gTrue ds
  | .ref a => match m a with
    | some (.lst ds) => k (gLst a ds) ds
    | _ => False
  | _ => False
def i62 (i : Int) : Prop := -(2 ^ 62) ≤ i ∧ i < 2 ^ 62
/-- a comprehension's turns -/
def rLc (g : Mem → Prop) (tg : D → St → Mem → (St → Mem → Prop) → Prop) (tc : St → Mem → (Bool → Mem → Prop) → Prop) (te : St → Mem → Kt → Prop) (σ : St) : List D → List D → Mem → (List D → Mem → Prop) → Prop
  | [], acc, m, k => g m ∧ k acc m
  | d :: ds, acc, m, k => g m ∧ tg d σ m fun σ1 m1 => tc σ1 m1 fun b m2 => (b = true → te σ1 m2 fun v m3 => ∃ m4, Sub m4 m3 ∧ rLc g tg tc te σ ds (acc ++ [v]) m4 k) ∧ (b = false → ∃ m4, Sub m4 m2 ∧ rLc g tg tc te σ ds acc m4 k)

mutual
def rE (Γ : En) (E : XK) : Ex → St → Mem → Kt → Prop
  | .var i => fun σ m k => match sget σ i with
    | some d => k d m
    | none => False
  | .int i => fun _ m k => k (.int i) m
  | .str s => fun _ m k => k (.str s) m
  | .bl b => fun _ m k => k (.bl b) m
  | .non => fun _ m k => k .non m
  | .glob g => fun _ m k => k (Γ.gl g) m
  | .bin o a b => fun σ m k => rE Γ E a σ m fun x m1 => rE Γ E b σ m1 fun y m2 => rBin Γ.v o x y m2 k
  | .neg a => fun σ m k => rE Γ E a σ m fun x m1 => match x with
    | .int i => k (.int (-i)) m1
    | _ => False
  | .cmp o a b => fun σ m k => rE Γ E a σ m fun x m1 => rE Γ E b σ m1 fun y m2 => rCmp o x y m2 fun c => k (.bl c) m2
  | .cmp2 o o' a b c => fun σ m k => rE Γ E a σ m fun x m1 => rE Γ E b σ m1 fun y m2 => rCmp o x y m2 fun p =>
      (p = true → rE Γ E c σ m2 fun z m3 => rCmp o' y z m3 fun q => k (.bl q) m3) ∧ (p = false → k (.bl false) m2)
  | .and a b => fun σ m k => rE Γ E a σ m fun x m1 => rTru x m1 fun p => (p = true → rE Γ E b σ m1 k) ∧ (p = false → k x m1)
  | .or a b => fun σ m k => rE Γ E a σ m fun x m1 => rTru x m1 fun p => (p = true → k x m1) ∧ (p = false → rE Γ E b σ m1 k)
  | .not a => fun σ m k => rE Γ E a σ m fun x m1 => rTru x m1 fun p => k (.bl (!p)) m1
  | .ite c a b => fun σ m k => rT Γ E c σ m fun p m1 => (p = true → rE Γ E a σ m1 k) ∧ (p = false → rE Γ E b σ m1 k)
  | .ix a i => fun σ m k => rE Γ E a σ m fun x m1 => rE Γ E i σ m1 fun y m2 => rIx x y m2 k
  | .sl a lo hi => fun σ m k => rE Γ E a σ m fun x m1 => rP Γ E lo σ m1 fun p m2 => rP Γ E hi σ m2 fun q m3 => rSl Γ.v x p q m3 k
  | .rvs a => fun σ m k => rE Γ E a σ m fun x m1 => ∃ ds, (lstOf m1 x = some ds ∧ NewLv Γ.v m1 ds.reverse k) ∨ (tupS x = some ds ∧ k (.tup ds.reverse) m1)
  | .rv4 a => fun σ m k => rE Γ E a σ m fun x m1 => match tupS x with
    | some [_, _, c, d] => k (D.tup [d, c]) m1
    | _ => False
  | .part0 => fun _ _ _ => False
  | .tup es => fun σ m k => rEs Γ E es σ m fun ds m1 => k (.tup ds) m1
  | .lst es => fun σ m k => rEs Γ E es σ m fun ds m1 => NewLv Γ.v m1 ds k
  | .dn => fun _ m k => (New m (.dK []) k) ∨ New m (.dT []) k
  | .call f es => fun σ m k => rEs Γ E es σ m fun ds m1 => Γ.fn f ds m1 k (E σ)
  | .new c es => fun σ m k => rEs Γ E es σ m fun ds m1 => ∀ p, m1 p = none → Γ.ini c (.ref p :: ds) (upd m1 p (.ins c [])) (fun d m2 => d = .non ∧ k (.ref p) m2) (E σ)
  | .mth c n o es => fun σ m k => rE Γ E o σ m fun x m1 => ∃ a fs, x = .ref a ∧ m1 a = some (.ins c fs) ∧ lk fs n = none ∧ rEs Γ E es σ m1 fun ds m2 => Γ.mt c n (.ref a :: ds) m2 k (E σ)
  | .blt b es => fun σ m k => rEs Γ E es σ m fun ds m1 => rBlt Γ.v b ds m1 k
  | .bm b o es => fun σ m k => rE Γ E o σ m fun x m1 => bmOk b x m1 ∧ rEs Γ E es σ m1 fun ds m2 => rBm b x ds m2 k
  | .fld o f => fun σ m k => rE Γ E o σ m fun x m1 => ∃ a c fs v, x = .ref a ∧ m1 a = some (.ins c fs) ∧ lk fs f = some v ∧ Γ.fk c f = true ∧ k v m1
  | .lc vs tg src c elt => fun σ m k => rSrc Γ E src σ m fun g items m1 => items.length ≤ big ∧
      rLc g (rTg tg) (rT Γ (fun _ _ _ => False) c) (rE Γ (fun _ _ _ => False) elt) (swipe σ vs) items [] m1 fun ds m2 => NewLv Γ.v m2 ds k
  | .lrg src => fun σ m k => rSrc Γ E src σ m fun _ items m1 => items.length ≤ big ∧ NewLv Γ.v m1 items k
  | .lvs a => fun σ m k => rE Γ E a σ m fun x m1 => ∃ kvs : List (D × D), dicOf m1 x = some (false, kvs) ∧ NewLv Γ.v m1 (kvs.map (·.2)) k
  | .dd ks xs => fun σ m k => ∀ p, m p = none → rEs Γ E xs σ (upd m p (.dK [])) fun ds m2 => m2 p = some (.dK []) ∧ k (.ref p) (upd m2 p (.dK (mergeD ((ks.map D.str).zip ds))))
  | .dz a b => fun σ m k => rE Γ E a σ m fun x m1 => rE Γ E b σ m1 fun y m2 => ∃ xs ys, tupS x = some xs ∧ dzS m2 y = some ys ∧ xs.all keyK = true ∧ xs.length = ys.length ∧ NewDv Γ.v m2 (mergeD (xs.zip ys)) k
  | .isi2 t1 t2 a => fun σ m k => rE Γ E a σ m fun x m1 => rIsT t1 x m1 fun p => rIsT t2 x m1 fun q => k (.bl (p || q)) m1
  | .dps a => fun σ m k => rE Γ E a σ m fun x m1 => ∃ prs : List (D × D), lstOf m1 x = some (prs.map fun q => D.tup [q.1, q.2]) ∧ (∀ q ∈ prs, keyK q.1 = true) ∧ NewDv Γ.v m1 (mergeD prs) k
  | .mkx c es => fun σ m k => Γ.xc c = true ∧ rEs Γ E es σ m fun ds m1 => k (excD ⟨c, (excF c).zip ds⟩) m1
  | .cmpN _ _ => fun _ _ _ => False
  | .isx ks a => fun σ m k => rE Γ E a σ m fun x m1 => rIsX Γ.xc ks x m1 fun p => k (.bl p) m1
  | .xfld o f => fun σ m k => rE Γ E o σ m fun x m1 => ∃ c fn vs v, x = .exc c fn vs ∧ Γ.xc c = true ∧ f ∈ excF c ∧ lk (fn.zip vs) f = some v ∧ k v m1
  | .sok a => fun σ m k => rE Γ E a σ m fun x m1 => ∃ pr : List (List Int × List Int), lstOf m1 x = some (pr.map encPP) ∧ (∀ q ∈ pr, q.2 ≠ []) ∧ pr.length ≤ big ∧ NewLv Γ.v m1 ((pr.mergeSort leP2).map encPP) k
/-- a chain's tests, from a value on -/
def rCh (Γ : En) (E : XK) : Chn → D → St → Mem → (Bool → Mem → Prop) → Prop
  | .one o e => fun y σ m k => rE Γ E e σ m fun z m1 => rCmp o y z m1 fun q => k q m1
  | .more o e r => fun y σ m k => rE Γ E e σ m fun z m1 => rCmp o y z m1 fun q => (q = true → rCh Γ E r z σ m1 k) ∧ (q = false → k false m1)
/-- a slice's part -/
def rP (Γ : En) (E : XK) : Ex → St → Mem → (Option Int → Mem → Prop) → Prop
  | .part0 => fun _ m k => k none m
  | .var i => fun σ m k => match sget σ i with
    | some (.int j) => k (some j) m
    | _ => False
  | .int i => fun _ m k => k (some i) m
  | .bin o a b => fun σ m k => rE Γ E a σ m fun x m1 => rE Γ E b σ m1 fun y m2 => rBin Γ.v o x y m2 fun d m3 => ∃ j, d = .int j ∧ k (some j) m3
  | .blt b es => fun σ m k => rEs Γ E es σ m fun ds m1 => rBlt Γ.v b ds m1 fun d m3 => ∃ j, d = .int j ∧ k (some j) m3
  | .call f es => fun σ m k => rEs Γ E es σ m fun ds m1 => Γ.fn f ds m1 (fun d m3 => ∃ j, d = .int j ∧ k (some j) m3) (E σ)
  | .neg (.int i) => fun _ m k => k (some (-i)) m
  | .fld o f => fun σ m k => rE Γ E o σ m fun x m1 => ∃ a c fs v, x = .ref a ∧ m1 a = some (.ins c fs) ∧ lk fs f = some v ∧ Γ.fk c f = true ∧ ∃ j, v = .int j ∧ k (some j) m1
  | _ => fun _ _ _ => False
def rEs (Γ : En) (E : XK) : Exs → St → Mem → (List D → Mem → Prop) → Prop
  | .n => fun _ m k => k [] m
  | .c e r => fun σ m k => rE Γ E e σ m fun d m1 => rEs Γ E r σ m1 fun ds m2 => k (d :: ds) m2
/-- a test -/
def rT (Γ : En) (E : XK) : Ex → St → Mem → (Bool → Mem → Prop) → Prop
  | .and a b => fun σ m k => rT Γ E a σ m fun p m1 => (p = true → rT Γ E b σ m1 k) ∧ (p = false → k false m1)
  | .or a b => fun σ m k => rT Γ E a σ m fun p m1 => (p = true → k true m1) ∧ (p = false → rT Γ E b σ m1 k)
  | .not a => fun σ m k => rT Γ E a σ m fun p m1 => k (!p) m1
  | .cmp o a b => fun σ m k => rE Γ E a σ m fun x m1 => rE Γ E b σ m1 fun y m2 => rCmp o x y m2 fun c => k c m2
  | .bl b => fun _ m k => k b m
  | .var i => fun σ m k => match sget σ i with
    | some d => rTru d m fun p => k p m
    | none => False
  | .cmp2 o o' a b c => fun σ m k => rE Γ E a σ m fun x m1 => rE Γ E b σ m1 fun y m2 => rCmp o x y m2 fun p =>
      (p = true → rE Γ E c σ m2 fun z m3 => rCmp o' y z m3 fun q => k q m3) ∧ (p = false → k false m2)
  | .call f es => fun σ m k => rEs Γ E es σ m fun ds m1 => Γ.fn f ds m1 (fun d m3 => rTru d m3 fun p => k p m3) (E σ)
  | .mth c n o es => fun σ m k => rE Γ E o σ m fun x m1 => ∃ a fs, x = .ref a ∧ m1 a = some (.ins c fs) ∧ lk fs n = none ∧ rEs Γ E es σ m1 fun ds m2 => Γ.mt c n (.ref a :: ds) m2 (fun d m3 => rTru d m3 fun p => k p m3) (E σ)
  | .blt b es => fun σ m k => rEs Γ E es σ m fun ds m1 => rBlt Γ.v b ds m1 fun d m3 => rTru d m3 fun p => k p m3
  | .bm b o es => fun σ m k => rE Γ E o σ m fun x m1 => bmOk b x m1 ∧ rEs Γ E es σ m1 fun ds m2 => rBm b x ds m2 fun d m3 => rTru d m3 fun p => k p m3
  | .fld o f => fun σ m k => rE Γ E o σ m fun x m1 => ∃ a c fs v, x = .ref a ∧ m1 a = some (.ins c fs) ∧ lk fs f = some v ∧ Γ.fk c f = true ∧ rTru v m1 fun p => k p m1
  | .ix a i => fun σ m k => rE Γ E a σ m fun x m1 => rE Γ E i σ m1 fun y m2 => rIx x y m2 fun d m3 => rTru d m3 fun p => k p m3
  | .cmpN a ch => fun σ m k => rE Γ E a σ m fun x m1 => rCh Γ E ch x σ m1 k
  | .isi2 t1 t2 a => fun σ m k => rE Γ E a σ m fun x m1 => rIsT t1 x m1 fun p => rIsT t2 x m1 fun q => k (p || q) m1
  | .isx ks a => fun σ m k => rE Γ E a σ m fun x m1 => rIsX Γ.xc ks x m1 fun p => k p m1
  | _ => fun _ _ _ => False
def rSrc (Γ : En) (E : XK) : Src → St → Mem → ((Mem → Prop) → List D → Mem → Prop) → Prop
  | .of e => fun σ m k => rE Γ E e σ m fun x m1 => iter x m1 fun g ds => k g ds m1
  | .rng1 a => fun σ m k => rE Γ E a σ m fun x m1 => ∃ j, x = .int j ∧ i62 j ∧ k gTrue (rangeD 0 1 j.toNat) m1
  | .rng2 a b => fun σ m k => rE Γ E a σ m fun x m1 => rE Γ E b σ m1 fun y m2 => ∃ i j, x = .int i ∧ y = .int j ∧ i62 i ∧ i62 j ∧ k gTrue (rangeD i 1 (j - i).toNat) m2
  | .rng3 a b c => fun σ m k => rE Γ E a σ m fun x m1 => rE Γ E b σ m1 fun y m2 => rE Γ E c σ m2 fun z m3 => ∃ i j, x = .int i ∧ y = .int j ∧ z = .int (-1) ∧ i62 i ∧ i62 j ∧ k gTrue (rangeD i (-1) (i - j).toNat) m3
  | .enum a => fun σ m k => rE Γ E a σ m fun x m1 => (iterL x m1 fun g ds => k g (pairUp 0 ds) m1) ∨ ∃ ds, tupS x = some ds ∧ k gTrue (pairUp 0 ds) m1
  | .zip a b => fun σ m k => rE Γ E a σ m fun x m1 => rE Γ E b σ m1 fun y m2 => (iterL x m2 fun g ds => iterL y m2 fun g' es => k (fun m => g m ∧ g' m) (zipUp ds es) m2) ∨ (∃ ds es, tupS x = some ds ∧ tupS y = some es ∧ k gTrue (zipUp ds es) m2) ∨ (∃ ds, tupS x = some ds ∧ iterL y m2 fun g' es => k (fun m => gTrue m ∧ g' m) (zipUp ds es) m2) ∨ (∃ es, tupS y = some es ∧ iterL x m2 fun g ds => k (fun m => g m ∧ gTrue m) (zipUp ds es) m2)
  | .rev a => fun σ m k => rE Γ E a σ m fun x m1 => (iterL x m1 fun g ds => k g ds.reverse m1) ∨ ∃ ds, tupS x = some ds ∧ k gTrue ds.reverse m1
end

structure Ends where
  nx : St → Mem → Prop
  rt : Kt
  bk : St → Mem → Prop := fun _ _ => False
  ct : St → Mem → Prop := fun _ _ => False
  ex : XK := fun _ _ _ => False
/-- a for's turns -/
def rFor (g : Mem → Prop) (tg : D → St → Mem → (St → Mem → Prop) → Prop) (body : Ends → St → Mem → Prop) (Z : Ends) : List D → St → Mem → Prop
  | [], σ, m => g m ∧ Z.nx σ m
  | d :: ds, σ, m => g m ∧ tg d σ m (body { nx := fun σ1 m1 => ∃ m2, Sub m2 m1 ∧ rFor g tg body Z ds σ1 m2, rt := Z.rt, bk := Z.nx, ct := fun σ1 m1 => ∃ m2, Sub m2 m1 ∧ rFor g tg body Z ds σ1 m2, ex := Z.ex })
/-- a while's turns, n at most -/
def rWhl (c : XK → St → Mem → (Bool → Mem → Prop) → Prop) (body : Ends → St → Mem → Prop) (Z : Ends) : Nat → St → Mem → Prop
  | 0, _, _ => False
  | n + 1, σ, m => c Z.ex σ m fun p m1 => (p = true → body { nx := fun σ1 m2 => ∃ m3, Sub m3 m2 ∧ rWhl c body Z n σ1 m3, rt := Z.rt, bk := Z.nx, ct := fun σ1 m2 => ∃ m3, Sub m3 m2 ∧ rWhl c body Z n σ1 m3, ex := Z.ex } σ m1) ∧ (p = false → Z.nx σ m1)
def rGh : Gst → Ends → St → Mem → Prop
  | .slot i => fun Z σ m => ∃ a o r, sget σ i = some (.ref a) ∧ m a = some o ∧ frzO o = some r ∧ Z.nx (sset σ i r) (del m a)
  | .fld i f => fun Z σ m => ∃ p c fs a o r, sget σ i = some (.ref p) ∧ m p = some (.ins c fs) ∧ lk fs f = some (.ref a) ∧ m a = some o ∧ frzO o = some r ∧ Z.nx σ (upd (del m a) p (.ins c (putF f r fs)))
  | .part i j => fun Z σ m => ∃ ds a o r, sget σ i = some (.tup ds) ∧ ds[j]? = some (.ref a) ∧ m a = some o ∧ frzO o = some r ∧ Z.nx (sset σ i (.tup (ds.set j r))) (del m a)
mutual
/-- the text without the ghosts -/
def erS : Sm → Sm
  | .ite c a b => .ite c (er a) (er b)
  | .whl c b => .whl c (er b)
  | .for_ t s b => .for_ t s (er b)
  | .tri b h => .tri (er b) h
  | .retL _ e => .ret e
  | .iteL _ c a b => .ite c (er a) (er b)
  | s => s
def er : Sms → Sms
  | .n => .n
  | .c s r => match s with
    | .gh _ => er r
    | s => .c (erS s) (er r)
end
/-- slot i's object is only read, all others are hidden -/
def rLk (i : Nat) (σ : St) (m : Mem) (k : St → Prop) : Prop := ∃ a o r, sget σ i = some (.ref a) ∧ m a = some o ∧ frzO o = some r ∧ k (sset σ i r)
def noMem : Mem := fun _ => none
mutual
def rS (Γ : En) : Sm → Ends → St → Mem → Prop
  | .set i e => fun Z σ m => rE (Γ.at i) Z.ex e σ m fun d m1 => Z.nx (sset σ i d) m1
  | .setT t e => fun Z σ m => rE Γ Z.ex e σ m fun d m1 => rTg t d σ m1 Z.nx
  | .setIx o i e => fun Z σ m => rE Γ.ax Z.ex e σ m fun v m1 => rE Γ Z.ex o σ m1 fun x m2 => rE Γ Z.ex i σ m2 fun y m3 => rSet x y v m3 fun m4 => Z.nx σ m4
  | .setF o f e => fun Z σ m => rE (Γ.atF f) Z.ex e σ m fun v m1 => rE Γ Z.ex o σ m1 fun x m2 => ∃ a c fs, x = .ref a ∧ m2 a = some (.ins c fs) ∧ fs.length < 900 ∧ Γ.fk c f = true ∧ Z.nx σ (upd m2 a (.ins c (putF f v fs)))
  | .aug i op e => fun Z σ m => match sget σ i with
    | some x => rE Γ Z.ex e σ m fun y m1 => rBin Γ.v op x y m1 fun d m2 => Z.nx (sset σ i d) m2
    | none => False
  | .augF o f op e => fun Z σ m => rE Γ Z.ex o σ m fun x m1 => ∃ a c fs v, x = .ref a ∧ m1 a = some (.ins c fs) ∧ lk fs f = some v ∧ Γ.fk c f = true ∧ rE Γ Z.ex e σ m1 fun y m2 => rBin Γ.v op v y m2 fun d m3 => ∃ fs', m3 a = some (.ins c fs') ∧ fs'.length < 900 ∧ Z.nx σ (upd m3 a (.ins c (putF f d fs')))
  | .expr e => fun Z σ m => rE Γ.ax Z.ex e σ m fun _ m1 => Z.nx σ m1
  | .ret e => fun Z σ m => rE Γ Z.ex e σ m fun d m1 => if Γ.rz = true then frz d m1 Z.rt else Z.rt d m1
  | .retN => fun Z _ m => Z.rt .non m
  | .ite c a b => fun Z σ m => rT Γ Z.ex c σ m fun p m1 => (p = true → rSs Γ a Z σ m1) ∧ (p = false → rSs Γ b Z σ m1)
  | .whl c b => fun Z σ m => ∃ n, rWhl (fun X => rT Γ X c) (rSs Γ b) Z n σ m
  | .for_ t src b => fun Z σ m => rSrc Γ Z.ex src σ m fun g items m1 => rFor g (rTg t) (rSs Γ b) Z items σ m1
  | .setSl o lo hi e => fun Z σ m => rE Γ.tr Z.ex e σ m fun v m1 => rE Γ Z.ex o σ m1 fun x m2 => rP Γ Z.ex lo σ m2 fun p m3 => rP Γ Z.ex hi σ m3 fun q m4 => ∃ a b xs ys i j, x = .ref a ∧ v = .ref b ∧ m4 a = some (.lst xs) ∧ m4 b = some (.lst ys) ∧ a ≠ b ∧ p = some i ∧ q = some j ∧ 0 ≤ i ∧ i ≤ j ∧ j ≤ xs.length ∧ xs.length + ys.length ≤ big ∧ Z.nx σ (upd m4 a (.lst (xs.take i.toNat ++ ys ++ xs.drop j.toNat)))
  | .swp o i e o' i' e' => fun Z σ m => rE Γ Z.ex e σ m fun v m1 => rE Γ Z.ex e' σ m1 fun w m2 => rE Γ Z.ex o σ m2 fun x m3 => rE Γ Z.ex i σ m3 fun y m4 => rSet x y v m4 fun m5 => rE Γ Z.ex o' σ m5 fun x' m6 => rE Γ Z.ex i' σ m6 fun y' m7 => rSet x' y' w m7 fun m8 => Z.nx σ m8
  | .gh g => rGh g
  | .bad => fun _ _ _ => False
  | .raise c es => fun Z σ m => rEs Γ Z.ex es σ m fun ds m1 => Z.ex σ ⟨c, (excF c).zip ds⟩ m1
  | .tri b h => fun Z σ m => rSs Γ b { nx := Z.nx, rt := Z.rt, bk := Z.bk, ct := Z.ct, ex := fun σ1 e m1 => rHd Γ h Z e σ1 m1 } σ m
  | .retL i e => fun Z σ m => rLk i σ m fun σ1 => rE Γ (fun _ _ _ => False) e σ1 noMem fun d _ => D.noRef d = true ∧ Z.rt d m
  | .iteL i c a b => fun Z σ m => rLk i σ m fun σ1 => rT Γ (fun _ _ _ => False) c σ1 noMem fun p _ => (p = true → rSs Γ a Z σ m) ∧ (p = false → rSs Γ b Z σ m)
  | .pass => fun Z σ m => Z.nx σ m
  | .brk => fun Z σ m => Z.bk σ m
  | .cont => fun Z σ m => Z.ct σ m
def rSs (Γ : En) : Sms → Ends → St → Mem → Prop
  | .n => fun Z σ m => Z.nx σ m
  | .c s r => fun Z σ m => rS Γ s { nx := fun σ1 m1 => rSs Γ r Z σ1 m1, rt := Z.rt, bk := Z.bk, ct := Z.ct, ex := Z.ex } σ m
/-- an exception meets except clauses -/
def rHd (Γ : En) : Hds → Ends → Exc → St → Mem → Prop
  | .n => fun Z e σ m => Z.ex σ e m
  | .c k as b r => fun Z e σ m => Γ.xc e.cls = true ∧ (excSub e.cls k = true → match as with
      | none => rSs Γ b { nx := Z.nx, rt := Z.rt, bk := Z.bk, ct := Z.ct } σ m
      | some i => rSs Γ b { nx := fun σ1 m1 => Z.nx (swipe1 σ1 i) m1, rt := Z.rt, bk := fun σ1 m1 => Z.bk (swipe1 σ1 i) m1, ct := fun σ1 m1 => Z.ct (swipe1 σ1 i) m1 } (sset σ i (excD e)) m) ∧ (excSub e.cls k = false → rHd Γ r Z e σ m)
end
/-- the names' values at a def's entry: its args, then nothing -/
def startD (n : Nat) (ds : List D) : St := ds.map some ++ List.replicate (n - ds.length) none
/-- a def's body of n names keeps a promise -/
def Keeps (Γ : En) (n : Nat) (b : Sms) (sp : Sp) : Prop := ∀ ds m k X, sp ds m k X →
  rSs Γ b { nx := fun _ m1 => ∃ m2, Sub m2 m1 ∧ k .non m2, rt := fun d m1 => ∃ m2, Sub m2 m1 ∧ k d m2, ex := fun _ e m1 => ∃ m2, Sub m2 m1 ∧ X e m2 } (startD n ds) m
end DL

namespace DL
open PySem PySem.Spec PyProof.Rows
open L2 (V Hp HO SqL SqT TE TT TA TS TG TGs Cx Inv PE PT PW PA PS PSs PG PGs RelV Vals WX)

theorem sqt_none {K : PySem.W.Frag} {H : Hp} {a : Addr} {vs : List V} (h : SqT K (fun _ => none) a vs) : SqT K H a vs := by
  rcases h with (h | ⟨o, h⟩) | h
  · cases h
  · cases h
  · exact .inr h
theorem sqt_of {K : PySem.W.Frag} {H : Hp} {a : Addr} {vs : List V} (h : H a = some (.tup vs)) : SqT K H a vs := .inl (.inl h)
/-- a list that is only read -/
def Rol (H : Hp) (a : Addr) (vs : List V) : Prop := ∃ o, H a = some (.frz o (.lst vs))
theorem Rol.sq {K : PySem.W.Frag} {H : Hp} {a : Addr} {vs : List V} (h : Rol H a vs) : SqL K H a vs := by
  obtain ⟨o, h⟩ := h
  exact .inl (.inr ⟨o, h⟩)
/-- the script -/
def Scr (K : PySem.W.Frag) (H : Hp) (a : Addr) (vs : List V) : Prop := Rol H a vs ∨ SqL K (fun _ => none) a vs
theorem Scr.sq {K : PySem.W.Frag} {H : Hp} {a : Addr} {vs : List V} (h : Scr K H a vs) : SqL K H a vs := by
  rcases h with h | (h | ⟨o, h⟩) | h
  · exact h.sq
  · cases h
  · cases h
  · exact .inr h
def keyOf : D → Option L2.Key
  | .int i => some (.inl i)
  | .str s => some (.inr (SX.S s))
  | _ => none
def keysOf : List D → Option (List L2.Key)
  | [] => some []
  | d :: ds => (keyOf d).bind fun k => (keysOf ds).map (k :: ·)
def tkeyOf : D → Option (List L2.Key)
  | .tup ds => keysOf ds
  | _ => none
/-- the classes that a program may have, by their numbers -/
def nmOf (c : Nat) : Str := match c with
  | 0 => "BookError"
  | 1 => "NoText"
  | 2 => "Twice"
  | 3 => "NoName"
  | 4 => "NoCount"
  | 5 => "TooLong"
  | 6 => "TooDeep"
  | 7 => "NoStep"
  | 8 => "NoRow"
  | 20 => "Walk"
  | 21 => "Run"
  | 22 => "Cutter"
  | 23 => "Outside"
  | 24 => "Keeper"
  | 25 => "Mending"
  | 26 => "Order"
  | 27 => "Line"
  | 28 => "Row"
  | 29 => "Row_lines"
  | 30 => "Rows"
  | 31 => "Lines"
  | 32 => "Laying"
  | 33 => "Renewal"
  | 34 => "Causes"
  | 35 => "Desk"
  | _ => ""
/-- the class object of a number: what the module's name is bound to -/
abbrev clA (K : PySem.W.Frag) (c : Nat) : Addr := He.ga K (nmOf c)
/-- an exception's object, its dict known -/
def ExcO (K : PySem.W.Frag) (H : Hp) (a : Addr) (c : Nat) (ws : List (Str × V)) : Prop :=
  ∃ oe u, H a = some (.frz oe u) ∧ oe.cls = .ref (clA K c) ∧ (∃ vs, oe.data = .fields vs) ∧ ((ws = [] ∧ oe.dict = none) ∨ ∃ d od, oe.dict = some d ∧ H d = some (.frz od (.xd ws)))
mutual
def IsV (K : PySem.W.Frag) (H : Hp) : D → V → Prop
  | .non, v => v = .non
  | .bl b, v => v = .bl b
  | .int i, v => v = .int i
  | .str s, v => v = .str (SX.S s)
  | .tup ds, v => ∃ a vs, v = .ref a ∧ H a = some (.tup vs) ∧ IsL K H ds vs
  | .ref a, v => v = .ref a
  | .rol ds, v => ∃ a vs, v = .ref a ∧ Rol H a vs ∧ IsL K H ds vs
  | .scr ns, v => ∃ a, v = .ref a ∧ Scr K H a (ns.map V.int)
  | .ktup ds, v => ∃ a vs, v = .ref a ∧ SqT K (fun _ => none) a vs ∧ IsL K H ds vs
  | .rod false ks vs, v => ∃ (a : Addr) (kl : List L2.Key) (ws : List V) (o : Obj), v = .ref a ∧ ks.map keyOf = kl.map some ∧ IsL K H vs ws ∧ ks.length = ws.length ∧ H a = some (.frz o (.dK (kl.zip ws)))
  | .rod true ks vs, v => ∃ (a : Addr) (kl : List (List L2.Key)) (ws : List V) (o : Obj), v = .ref a ∧ ks.map tkeyOf = kl.map some ∧ IsL K H vs ws ∧ ks.length = ws.length ∧ H a = some (.frz o (.dT (kl.zip ws)))
  | .exc c fn vs, v => ∃ (a : Addr) (ws : List V), v = .ref a ∧ IsL K H vs ws ∧ fn.length = ws.length ∧ ExcO K H a c ((fn.map SX.S).zip ws)
def IsL (K : PySem.W.Frag) (H : Hp) : List D → List V → Prop
  | [], vs => vs = []
  | d :: ds, vs => ∃ v r, vs = v :: r ∧ IsV K H d v ∧ IsL K H ds r
end
/-- tuples stay -/
structure Kp (H H' : Hp) : Prop where
  tup : ∀ a vs, H a = some (.tup vs) → H' a = some (.tup vs)
  frz : ∀ a o u, H a = some (.frz o u) → H' a = some (.frz o u)
theorem Kp.refl (H : Hp) : Kp H H := ⟨fun _ _ h => h, fun _ _ _ h => h⟩
theorem Kp.trans {H H1 H2 : Hp} (a : Kp H H1) (b : Kp H1 H2) : Kp H H2 := ⟨fun x vs h => b.tup x vs (a.tup x vs h), fun x o vs h => b.frz x o vs (a.frz x o vs h)⟩
theorem Rol.kp {H H' : Hp} {a : Addr} {vs : List V} (k : Kp H H') (h : Rol H a vs) : Rol H' a vs := by
  obtain ⟨o, h⟩ := h
  exact ⟨o, k.frz a o _ h⟩
theorem Scr.kp {K : PySem.W.Frag} {H H' : Hp} {a : Addr} {vs : List V} (k : Kp H H') (h : Scr K H a vs) : Scr K H' a vs := by
  rcases h with h | h
  · exact .inl (h.kp k)
  · exact .inr h
theorem ExcO.kp {K : PySem.W.Frag} {H H' : Hp} (k : Kp H H') {a : Addr} {c : Nat} {ws : List (Str × V)} (h : ExcO K H a c ws) : ExcO K H' a c ws := by
  obtain ⟨oe, u, h1, h2, h3, h4⟩ := h
  refine ⟨oe, u, k.frz _ _ _ h1, h2, h3, ?_⟩
  rcases h4 with h4 | ⟨d, od, h5, h6⟩
  · exact .inl h4
  · exact .inr ⟨d, od, h5, k.frz _ _ _ h6⟩
mutual
theorem IsV.kp {K : PySem.W.Frag} {H H' : Hp} (k : Kp H H') : ∀ {d : D} {v : V}, IsV K H d v → IsV K H' d v
  | .non, _, h => h
  | .bl _, _, h => h
  | .int _, _, h => h
  | .str _, _, h => h
  | .ref _, _, h => h
  | .tup _, _, ⟨a, vs, e, t, h⟩ => ⟨a, vs, e, k.tup a vs t, IsL.kp k h⟩
  | .ktup _, _, ⟨a, vs, e, t, h⟩ => ⟨a, vs, e, t, IsL.kp k h⟩
  | .rol _, _, ⟨a, vs, e, t, h⟩ => ⟨a, vs, e, t.kp k, IsL.kp k h⟩
  | .scr _, _, ⟨a, e, t⟩ => ⟨a, e, t.kp k⟩
  | .rod false _ _, _, ⟨a, kl, ws, o, e, t, h, q, z⟩ => ⟨a, kl, ws, o, e, t, IsL.kp k h, q, k.frz _ _ _ z⟩
  | .rod true _ _, _, ⟨a, kl, ws, o, e, t, h, q, z⟩ => ⟨a, kl, ws, o, e, t, IsL.kp k h, q, k.frz _ _ _ z⟩
  | .exc _ _ _, _, ⟨a, ws, e, h, q, z⟩ => ⟨a, ws, e, IsL.kp k h, q, z.kp k⟩
theorem IsL.kp {K : PySem.W.Frag} {H H' : Hp} (k : Kp H H') : ∀ {ds : List D} {vs : List V}, IsL K H ds vs → IsL K H' ds vs
  | [], _, h => h
  | _ :: _, _, ⟨v, r, e, h, t⟩ => ⟨v, r, e, IsV.kp k h, IsL.kp k t⟩
end
theorem IsL.length {K : PySem.W.Frag} {H : Hp} : ∀ {ds : List D} {vs : List V}, IsL K H ds vs → vs.length = ds.length
  | [], _, h => by
    rw [show _ = [] from h]
    rfl
  | _ :: _, _, ⟨v, r, e, h, t⟩ => by rw [e, List.length_cons, List.length_cons, t.length]
theorem IsL.get {K : PySem.W.Frag} {H : Hp} : ∀ {ds : List D} {vs : List V} {i : Nat} {d : D}, IsL K H ds vs → ds[i]? = some d → ∃ v, vs[i]? = some v ∧ IsV K H d v
  | [], _, _, _, _, e => by simp at e
  | x :: xs, _, 0, d, ⟨v, r, e, h, t⟩, q => by
    subst e
    have : x = d := Option.some.inj (by simpa using q)
    subst this
    exact ⟨v, by simp, h⟩
  | x :: xs, _, i + 1, d, ⟨v, r, e, h, t⟩, q => by
    subst e
    obtain ⟨w, a, b⟩ := IsL.get (i := i) t (by simpa using q)
    exact ⟨w, by simpa using a, b⟩
theorem IsL.append {K : PySem.W.Frag} {H : Hp} : ∀ {ds es : List D} {vs ws : List V}, IsL K H ds vs → IsL K H es ws → IsL K H (ds ++ es) (vs ++ ws)
  | [], _, _, _, h, t => by
    rw [show _ = [] from h]
    exact t
  | _ :: _, _, _, _, ⟨v, r, e, h, t⟩, q => by
    subst e
    exact ⟨v, _, rfl, h, IsL.append t q⟩
theorem IsL.drop {K : PySem.W.Frag} {H : Hp} : ∀ {ds : List D} {vs : List V} (n : Nat), IsL K H ds vs → IsL K H (ds.drop n) (vs.drop n)
  | _, _, 0, h => h
  | [], _, n + 1, h => by
    rw [show _ = [] from h]
    rfl
  | _ :: _, _, n + 1, ⟨v, r, e, h, t⟩ => by
    subst e
    exact IsL.drop n t
theorem IsL.take {K : PySem.W.Frag} {H : Hp} : ∀ {ds : List D} {vs : List V} (n : Nat), IsL K H ds vs → IsL K H (ds.take n) (vs.take n)
  | _, _, 0, h => rfl
  | [], _, n + 1, h => by
    rw [show _ = [] from h]
    rfl
  | _ :: _, _, n + 1, ⟨v, r, e, h, t⟩ => by
    subst e
    exact ⟨v, _, rfl, h, IsL.take n t⟩
theorem IsL.set {K : PySem.W.Frag} {H : Hp} {d : D} {v : V} (q : IsV K H d v) : ∀ {ds : List D} {vs : List V} (n : Nat), IsL K H ds vs → IsL K H (ds.set n d) (vs.set n v)
  | [], _, n, h => by
    rw [show _ = [] from h]
    rfl
  | _ :: _, _, 0, ⟨w, r, e, h, t⟩ => by
    subst e
    exact ⟨v, _, rfl, q, t⟩
  | _ :: _, _, n + 1, ⟨w, r, e, h, t⟩ => by
    subst e
    exact ⟨w, _, rfl, h, IsL.set q n t⟩
theorem IsL.ints {K : PySem.W.Frag} {H : Hp} : ∀ ns : List Int, IsL K H (ns.map D.int) (ns.map V.int)
  | [] => rfl
  | n :: ns => ⟨_, _, rfl, rfl, IsL.ints ns⟩

/-- a sequence that never changes, in the heap -/
theorem conS_sq {K : PySem.W.Frag} {H : Hp} {d : D} {ds : List D} {v : V} (e : conS d = some ds) (h : IsV K H d v) : ∃ a vs, v = .ref a ∧ (SqL K H a vs ∨ SqT K H a vs) ∧ IsL K H ds vs := by
  cases d <;> simp only [conS, Option.some.injEq, reduceCtorEq] at e <;> subst e
  · obtain ⟨a, vs, e, t, l⟩ := h
    exact ⟨a, vs, e, .inr (sqt_of t), l⟩
  · obtain ⟨a, vs, e, t, l⟩ := h
    exact ⟨a, vs, e, .inl t.sq, l⟩
  · obtain ⟨a, vs, e, t, l⟩ := h
    exact ⟨a, vs, e, .inr (sqt_none t), l⟩
  · obtain ⟨a, e, t⟩ := h
    exact ⟨a, _, e, .inl t.sq, IsL.ints _⟩
theorem tupS_sq {K : PySem.W.Frag} {H : Hp} {d : D} {ds : List D} {v : V} (e : tupS d = some ds) (h : IsV K H d v) : ∃ a vs, v = .ref a ∧ SqT K H a vs ∧ IsL K H ds vs := by
  cases d <;> simp only [tupS, Option.some.injEq, reduceCtorEq] at e
  · subst e
    obtain ⟨a, vs, e, t, l⟩ := h
    exact ⟨a, vs, e, sqt_of t, l⟩
  · subst e
    obtain ⟨a, vs, e, t, l⟩ := h
    exact ⟨a, vs, e, sqt_none t, l⟩

def IsKs (K : PySem.W.Frag) (H : Hp) : List (D × D) → List (L2.Key × V) → Prop
  | [], ws => ws = []
  | (x, d) :: r, ws => ∃ k v t, ws = (k, v) :: t ∧ keyOf x = some k ∧ IsV K H d v ∧ IsKs K H r t
def IsTs (K : PySem.W.Frag) (H : Hp) : List (D × D) → List (List L2.Key × V) → Prop
  | [], ws => ws = []
  | (x, d) :: r, ws => ∃ k v t, ws = (k, v) :: t ∧ tkeyOf x = some k ∧ IsV K H d v ∧ IsTs K H r t
def IsFs (K : PySem.W.Frag) (H : Hp) : List (List Nat × D) → List (Str × V) → Prop
  | [], ws => ws = []
  | (f, d) :: r, ws => ∃ v t, ws = (SX.S f, v) :: t ∧ IsV K H d v ∧ IsFs K H r t
theorem IsKs.kp {K : PySem.W.Frag} {H H' : Hp} (k : Kp H H') : ∀ {ds : List (D × D)} {ws : List (L2.Key × V)}, IsKs K H ds ws → IsKs K H' ds ws
  | [], _, h => h
  | (_, _) :: _, _, ⟨a, v, t, e, q, h, r⟩ => ⟨a, v, t, e, q, h.kp k, IsKs.kp k r⟩
theorem IsTs.kp {K : PySem.W.Frag} {H H' : Hp} (k : Kp H H') : ∀ {ds : List (D × D)} {ws : List (List L2.Key × V)}, IsTs K H ds ws → IsTs K H' ds ws
  | [], _, h => h
  | (_, _) :: _, _, ⟨a, v, t, e, q, h, r⟩ => ⟨a, v, t, e, q, h.kp k, IsTs.kp k r⟩
theorem IsFs.kp {K : PySem.W.Frag} {H H' : Hp} (k : Kp H H') : ∀ {ds : List (List Nat × D)} {ws : List (Str × V)}, IsFs K H ds ws → IsFs K H' ds ws
  | [], _, h => h
  | (_, _) :: _, _, ⟨v, t, e, h, r⟩ => ⟨v, t, e, h.kp k, IsFs.kp k r⟩

def RepO (cl : Nat → Addr) (K : PySem.W.Frag) (H : Hp) (a : Addr) : MO → Prop
  | .lst ds => ∃ vs, H a = some (.lst vs) ∧ IsL K H ds vs
  | .dK kvs => ∃ ws, H a = some (.dK ws) ∧ IsKs K H kvs ws
  | .dT kvs => ∃ ws, H a = some (.dT ws) ∧ IsTs K H kvs ws
  | .ins c fs => ∃ dx ws, H a = some (.ins (cl c) dx ws) ∧ IsFs K H fs ws
def Rep (cl : Nat → Addr) (K : PySem.W.Frag) (H : Hp) (m : Mem) : Prop := ∀ a o, m a = some o → RepO cl K H a o
/-- what is not told of stays, and is not told of afterwards -/
structure Ext (H : Hp) (m : Mem) (H' : Hp) (m' : Mem) : Prop where
  keep : ∀ a o, H a = some o → m a = none → H' a = some o
  new : ∀ a, m a = none → H a ≠ none → m' a = none
theorem Ext.refl (H : Hp) (m : Mem) : Ext H m H m := ⟨fun _ _ h _ => h, fun _ h _ => h⟩
theorem Ext.trans {H H1 H2 : Hp} {m m1 m2 : Mem} (a : Ext H m H1 m1) (b : Ext H1 m1 H2 m2) : Ext H m H2 m2 where
  keep := fun x o h n => b.keep x o (a.keep x o h n) (a.new x n (by rw [h]; exact fun z => by cases z))
  new := fun x n h => by
    cases e : H x with
    | none => exact absurd e h
    | some o => exact b.new x (a.new x n h) (by rw [a.keep x o e n]; exact fun z => by cases z)
section
variable {cl : Nat → Addr} {K : PySem.W.Frag} {H H' : Hp} {m m' : Mem} {a p : Addr}
theorem Rep.at (r : Rep cl K H m) {o : MO} (e : m a = some o) : ∃ u, H a = some u ∧ (∀ ts, u ≠ .tup ts) ∧ ∀ o' ts, u ≠ .frz o' ts := by
  have q := r a o e
  cases o with
  | lst ds =>
    obtain ⟨_, z, _⟩ := q
    exact ⟨_, z, (fun _ h => nomatch h), fun _ _ h => nomatch h⟩
  | dK kvs =>
    obtain ⟨_, z, _⟩ := q
    exact ⟨_, z, (fun _ h => nomatch h), fun _ _ h => nomatch h⟩
  | dT kvs =>
    obtain ⟨_, z, _⟩ := q
    exact ⟨_, z, (fun _ h => nomatch h), fun _ _ h => nomatch h⟩
  | ins c fs =>
    obtain ⟨_, _, z, _⟩ := q
    exact ⟨_, z, (fun _ h => nomatch h), fun _ _ h => nomatch h⟩
theorem Rep.free (r : Rep cl K H m) (h : H a = none) : m a = none := by
  cases e : m a with
  | none => rfl
  | some o =>
    obtain ⟨u, z, _⟩ := r.at e
    rw [h] at z
    cases z
theorem Rep.notup (r : Rep cl K H m) {vs : List V} (h : H a = some (.tup vs)) : m a = none := by
  cases e : m a with
  | none => rfl
  | some o =>
    obtain ⟨u, z, y, _⟩ := r.at e
    rw [h] at z
    cases z
    exact absurd rfl (y vs)
theorem Rep.nofrz (r : Rep cl K H m) {o : Obj} {vs : HO} (h : H a = some (.frz o vs)) : m a = none := by
  cases e : m a with
  | none => rfl
  | some o' =>
    obtain ⟨u, z, _, y⟩ := r.at e
    rw [h] at z
    cases z
    exact absurd rfl (y o vs)
theorem Rep.kp (r : Rep cl K H m) (e : Ext H m H' m') : Kp H H' := ⟨fun a vs h => e.keep a _ h (r.notup h), fun a o u h => e.keep a _ h (r.nofrz h)⟩
theorem Rep.sub (r : Rep cl K H m) (s : Sub m' m) : Rep cl K H m' := fun a o e => r a o (s a o e)
theorem Ext.sub {m1 : Mem} (e : Ext H m H' m1) (s : Sub m' m1) : Ext H m H' m' := ⟨e.keep, fun a n h => by
  cases q : m' a with
  | none => rfl
  | some o =>
    have := e.new a n h
    rw [s a o q] at this
    cases this⟩
theorem RepO.kp (k : Kp H H') {o : MO} (h : RepO cl K H a o) (e : H' a = H a) : RepO cl K H' a o := by
  cases o with
  | lst ds =>
    obtain ⟨vs, z, q⟩ := h
    exact ⟨vs, e.trans z, q.kp k⟩
  | dK kvs =>
    obtain ⟨vs, z, q⟩ := h
    exact ⟨vs, e.trans z, q.kp k⟩
  | dT kvs =>
    obtain ⟨vs, z, q⟩ := h
    exact ⟨vs, e.trans z, q.kp k⟩
  | ins c fs =>
    obtain ⟨dx, vs, z, q⟩ := h
    exact ⟨dx, vs, e.trans z, q.kp k⟩
theorem kp_new {p : Addr} {o : HO} (h : H p = none) : Kp H (L2.upd H p o) := ⟨fun a vs q => by rw [L2.upd_ne (L2.ne_of_none q h)]; exact q, fun a u vs q => by rw [L2.upd_ne (L2.ne_of_none q h)]; exact q⟩
/-- an object that is new, told of or not -/
theorem Rep.new (r : Rep cl K H m) {p : Addr} {o : HO} {u : MO} (h : H p = none) (q : RepO cl K (L2.upd H p o) p u) : Rep cl K (L2.upd H p o) (upd m p u) := fun a w e => by
  by_cases z : a = p
  · subst z
    rw [upd_same] at e
    cases e
    exact q
  · rw [upd_ne z] at e
    exact (r a w e).kp (kp_new h) (L2.upd_ne z)
theorem Rep.hid (r : Rep cl K H m) {p : Addr} {o : HO} (h : H p = none) : Rep cl K (L2.upd H p o) m := fun a w e => by
  have z : a ≠ p := fun z => by
    subst z
    rw [r.free h] at e
    cases e
  exact (r a w e).kp (kp_new h) (L2.upd_ne z)
theorem Ext.tell {p : Addr} {o : HO} {u : MO} (h : H p = none) : Ext H m (L2.upd H p o) (upd m p u) where
  keep := fun a w e _ => by
    rw [L2.upd_ne (L2.ne_of_none e h)]
    exact e
  new := fun a n e => by
    rw [upd_ne]
    · exact n
    · exact fun z => e (by rw [z, h])
theorem Ext.hid {p : Addr} {o : HO} (h : H p = none) : Ext H m (L2.upd H p o) m where
  keep := fun a w e _ => by
    rw [L2.upd_ne (L2.ne_of_none e h)]
    exact e
  new := fun a n e => n
theorem kp_mut {p : Addr} {o u : HO} (h : H p = some u) (h1 : ∀ ts, u ≠ .tup ts) (h2 : ∀ o' ts, u ≠ .frz o' ts) : Kp H (L2.upd H p o) := ⟨fun a vs q => by
  rw [L2.upd_ne]
  · exact q
  · rintro rfl
    rw [h] at q
    cases q
    exact h1 vs rfl, fun a u vs q => by
  rw [L2.upd_ne]
  · exact q
  · rintro rfl
    rw [h] at q
    cases q
    exact h2 _ _ rfl⟩
/-- an object that is told of is changed -/
theorem Rep.mut (r : Rep cl K H m) {p : Addr} {o : HO} {u u' : MO} (h : m p = some u') (q : RepO cl K (L2.upd H p o) p u) : Rep cl K (L2.upd H p o) (upd m p u) := fun a w e => by
  obtain ⟨v, z, y1, y2⟩ := r.at h
  by_cases z' : a = p
  · subst z'
    rw [upd_same] at e
    cases e
    exact q
  · rw [upd_ne z'] at e
    exact (r a w e).kp (kp_mut z y1 y2) (L2.upd_ne z')
theorem Ext.mut {p : Addr} {o : HO} {u u' : MO} (h : m p = some u') : Ext H m (L2.upd H p o) (upd m p u) where
  keep := fun a w e n => by
    rw [L2.upd_ne]
    · exact e
    · rintro rfl
      rw [h] at n
      cases n
  new := fun a n e => by
    rw [upd_ne]
    · exact n
    · rintro rfl
      rw [h] at n
      cases n
end
section
variable {K : PySem.W.Frag} {H : Hp}
theorem isKs_split : ∀ {kvs : List (D × D)} {ws : List (L2.Key × V)}, IsKs K H kvs ws → ∃ (kl : List L2.Key) (us : List V), ws = kl.zip us ∧ (kvs.map (·.1)).map keyOf = kl.map some ∧ IsL K H (kvs.map (·.2)) us ∧ (kvs.map (·.1)).length = us.length
  | [], _, h => ⟨[], [], h, rfl, rfl, rfl⟩
  | (x, d) :: r, _, ⟨k, v, t, e, q, h, z⟩ => by
    obtain ⟨kl, us, e1, e2, e3, e4⟩ := isKs_split z
    exact ⟨k :: kl, v :: us, by rw [e, e1]; rfl, by simp only [List.map_cons, q, e2], ⟨v, us, rfl, h, e3⟩, congrArg (· + 1) e4⟩
theorem isTs_split : ∀ {kvs : List (D × D)} {ws : List (List L2.Key × V)}, IsTs K H kvs ws → ∃ (kl : List (List L2.Key)) (us : List V), ws = kl.zip us ∧ (kvs.map (·.1)).map tkeyOf = kl.map some ∧ IsL K H (kvs.map (·.2)) us ∧ (kvs.map (·.1)).length = us.length
  | [], _, h => ⟨[], [], h, rfl, rfl, rfl⟩
  | (x, d) :: r, _, ⟨k, v, t, e, q, h, z⟩ => by
    obtain ⟨kl, us, e1, e2, e3, e4⟩ := isTs_split z
    exact ⟨k :: kl, v :: us, by rw [e, e1]; rfl, by simp only [List.map_cons, q, e2], ⟨v, us, rfl, h, e3⟩, congrArg (· + 1) e4⟩
theorem isKs_zip : ∀ {ks vs : List D} {kl : List L2.Key} {us : List V}, ks.map keyOf = kl.map some → IsL K H vs us → ks.length = us.length → IsKs K H (ks.zip vs) (kl.zip us)
  | [], _, kl, us, e, _, _ => by
    cases kl with
    | nil => rfl
    | cons k kl => cases e
  | x :: ks, vs, kl, us, e, l, q => by
    cases us with
    | nil => cases q
    | cons u us =>
      cases vs with
      | nil => exact absurd (show (u :: us) = [] from l) (by simp)
      | cons d vs =>
        obtain ⟨v0, t, e2, h, z⟩ := l
        have e3 : u = v0 ∧ us = t := by simpa using e2
        obtain ⟨e3, e4⟩ := e3
        subst e3 e4
        cases kl with
        | nil => cases e
        | cons k kl =>
          simp only [List.map_cons, List.cons.injEq] at e
          exact ⟨k, u, _, rfl, e.1, h, isKs_zip e.2 z (Nat.succ.inj q)⟩
theorem isTs_zip : ∀ {ks vs : List D} {kl : List (List L2.Key)} {us : List V}, ks.map tkeyOf = kl.map some → IsL K H vs us → ks.length = us.length → IsTs K H (ks.zip vs) (kl.zip us)
  | [], _, kl, us, e, _, _ => by
    cases kl with
    | nil => rfl
    | cons k kl => cases e
  | x :: ks, vs, kl, us, e, l, q => by
    cases us with
    | nil => cases q
    | cons u us =>
      cases vs with
      | nil => exact absurd (show (u :: us) = [] from l) (by simp)
      | cons d vs =>
        obtain ⟨v0, t, e2, h, z⟩ := l
        have e3 : u = v0 ∧ us = t := by simpa using e2
        obtain ⟨e3, e4⟩ := e3
        subst e3 e4
        cases kl with
        | nil => cases e
        | cons k kl =>
          simp only [List.map_cons, List.cons.injEq] at e
          exact ⟨k, u, _, rfl, e.1, h, isTs_zip e.2 z (Nat.succ.inj q)⟩
variable {cl : Nat → Addr} {m : Mem}
/-- a list as the list rules ask it -/
theorem lstOf_rd {x : D} {v : V} {ds : List D} (hr : Rep cl K H m) (e : lstOf m x = some ds) (hx : IsV K H x v) : ∃ a vs, v = .ref a ∧ L2.Rd H a (.lst vs) ∧ IsL K H ds vs := by
  cases x <;> first | cases e; done | skip
  · cases hx
    rename_i a
    unfold lstOf at e
    cases em : m a with
    | none => simp only [em, reduceCtorEq] at e
    | some o =>
      simp only [em] at e
      cases o with
      | lst es =>
        cases e
        obtain ⟨vs, z, l⟩ := hr a _ em
        exact ⟨a, vs, rfl, .inl z, l⟩
      | _ => cases e
  · cases e
    obtain ⟨a, vs, e, ⟨o, t⟩, l⟩ := hx
    exact ⟨a, vs, e, .inr ⟨o, t⟩, l⟩
theorem lstOf_is {x : D} {v : V} {ds : List D} (hr : Rep cl K H m) (e : lstOf m x = some ds) (hx : IsV K H x v) : ∃ a vs, v = .ref a ∧ SqL K H a vs ∧ IsL K H ds vs := by
  cases x <;> first | cases e; done | skip
  · cases hx
    rename_i a
    unfold lstOf at e
    cases em : m a with
    | none => simp only [em, reduceCtorEq] at e
    | some o =>
      simp only [em] at e
      cases o with
      | lst es =>
        cases e
        obtain ⟨vs, z, l⟩ := hr a _ em
        exact ⟨a, vs, rfl, SqL.of z, l⟩
      | _ => cases e
  · cases e
    obtain ⟨a, vs, e, t, l⟩ := hx
    exact ⟨a, vs, e, t.sq, l⟩
theorem seqOf_is {x : D} {v : V} {ds : List D} (hr : Rep cl K H m) (e : seqOf m x = some ds) (hx : IsV K H x v) : ∃ a vs, v = .ref a ∧ (SqL K H a vs ∨ SqT K H a vs) ∧ IsL K H ds vs := by
  unfold seqOf at e
  split at e
  · rename_i es ec
    cases e
    exact conS_sq ec hx
  · obtain ⟨a, vs, e1, z, l⟩ := lstOf_is hr e hx
    exact ⟨a, vs, e1, .inl z, l⟩
theorem dicK_is {x : D} {v : V} {kvs : List (D × D)} (hr : Rep cl K H m) (e : dicOf m x = some (false, kvs)) (hx : IsV K H x v) : ∃ a ws, v = .ref a ∧ L2.Rd H a (.dK ws) ∧ IsKs K H kvs ws := by
  cases x <;> first | cases e; done | skip
  · cases hx
    rename_i a
    unfold dicOf at e
    cases em : m a with
    | none => simp only [em, reduceCtorEq] at e
    | some o =>
      simp only [em] at e
      cases o with
      | dK es =>
        cases e
        obtain ⟨vs, z, l⟩ := hr a _ em
        exact ⟨a, vs, rfl, .inl z, l⟩
      | _ => cases e
  · rename_i t ks vs
    cases e
    obtain ⟨a, kl, ws, o, e1, e2, l, q, z⟩ := hx
    exact ⟨a, _, e1, .inr ⟨o, z⟩, isKs_zip e2 l q⟩
theorem dicT_is {x : D} {v : V} {kvs : List (D × D)} (hr : Rep cl K H m) (e : dicOf m x = some (true, kvs)) (hx : IsV K H x v) : ∃ a ws, v = .ref a ∧ L2.Rd H a (.dT ws) ∧ IsTs K H kvs ws := by
  cases x <;> first | cases e; done | skip
  · cases hx
    rename_i a
    unfold dicOf at e
    cases em : m a with
    | none => simp only [em, reduceCtorEq] at e
    | some o =>
      simp only [em] at e
      cases o with
      | dT es =>
        cases e
        obtain ⟨vs, z, l⟩ := hr a _ em
        exact ⟨a, vs, rfl, .inl z, l⟩
      | _ => cases e
  · rename_i t ks vs
    cases e
    obtain ⟨a, kl, ws, o, e1, e2, l, q, z⟩ := hx
    exact ⟨a, _, e1, .inr ⟨o, z⟩, isTs_zip e2 l q⟩
end
end DL

namespace DL
open PySem PySem.Spec PyProof.Rows
open L2 (V Hp HO SqL SqT TE TT TA TS TG TGs Cx Inv PE PT PW PA PS PSs PG PGs RelV Vals WX OpR UnR CallR IxR SlR MtR)

structure StR (K : PySem.W.Frag) (H : Hp) (σv : L2.St) (σ : St) : Prop where
  len : σv.length = σ.length
  at_ : ∀ i d, sget σ i = some d → ∃ v, σv[i]? = some (some v) ∧ IsV K H d v
theorem sget_lt : ∀ {σ : St} {i : Nat} {d : D}, sget σ i = some d → i < σ.length
  | [], _, _, h => by cases h
  | _ :: _, 0, _, _ => Nat.zero_lt_succ _
  | _ :: r, i + 1, d, h => Nat.succ_lt_succ (sget_lt (σ := r) h)
theorem sset_length : ∀ (σ : St) (i : Nat) (d : D), (sset σ i d).length = σ.length
  | [], _, _ => rfl
  | _ :: _, 0, _ => rfl
  | _ :: r, i + 1, d => congrArg (· + 1) (sset_length r i d)
theorem swipe1_length : ∀ (σ : St) (i : Nat), (swipe1 σ i).length = σ.length
  | [], _ => rfl
  | _ :: _, 0 => rfl
  | _ :: r, i + 1 => congrArg (· + 1) (swipe1_length r i)
theorem swipe_length (σ : St) : ∀ vs : List Nat, (swipe σ vs).length = σ.length
  | [] => rfl
  | v :: vs => (swipe1_length _ v).trans (swipe_length σ vs)
theorem sget_sset : ∀ {σ : St} {i j : Nat} {d e : D}, sget (sset σ i d) j = some e → (j = i ∧ e = d ∧ i < σ.length) ∨ (j ≠ i ∧ sget σ j = some e)
  | [], _, _, _, _, h => by cases h
  | _ :: _, 0, 0, d, e, h => .inl ⟨rfl, (Option.some.inj h).symm, Nat.zero_lt_succ _⟩
  | _ :: _, 0, j + 1, d, e, h => .inr ⟨fun z => (by cases z), h⟩
  | o :: _, i + 1, 0, d, e, h => .inr ⟨fun z => (by cases z), h⟩
  | _ :: r, i + 1, j + 1, d, e, h => by
    rcases sget_sset (σ := r) h with ⟨a, b, c⟩ | ⟨a, b⟩
    · exact .inl ⟨congrArg (· + 1) a, b, Nat.succ_lt_succ c⟩
    · exact .inr ⟨fun z => a (Nat.succ.inj z), b⟩
theorem sget_swipe1 : ∀ {σ : St} {i j : Nat} {e : D}, sget (swipe1 σ i) j = some e → j ≠ i ∧ sget σ j = some e
  | [], _, _, _, h => by cases h
  | _ :: _, 0, 0, e, h => by cases h
  | _ :: _, 0, j + 1, e, h => ⟨fun z => (by cases z), h⟩
  | o :: _, i + 1, 0, e, h => ⟨fun z => (by cases z), h⟩
  | _ :: r, i + 1, j + 1, e, h => by
    obtain ⟨a, b⟩ := sget_swipe1 (σ := r) h
    exact ⟨fun z => a (Nat.succ.inj z), b⟩
section
variable {K : PySem.W.Frag} {H H' : Hp} {σv : L2.St} {σ : St}
theorem StR.kp (k : Kp H H') (r : StR K H σv σ) : StR K H' σv σ := ⟨r.len, fun i d h => by
  obtain ⟨v, a, b⟩ := r.at_ i d h
  exact ⟨v, a, b.kp k⟩⟩
theorem StR.set (r : StR K H σv σ) {d : D} {v : V} (h : IsV K H d v) (i : Nat) : StR K H (σv.set i (some v)) (sset σ i d) := ⟨by rw [List.length_set, sset_length, r.len], fun j e q => by
  rcases sget_sset q with ⟨a, b, c⟩ | ⟨a, b⟩
  · subst a b
    exact ⟨v, List.getElem?_set_self (by rw [r.len]; exact c), h⟩
  · obtain ⟨w, x, y⟩ := r.at_ j e b
    exact ⟨w, by rw [List.getElem?_set_ne (Ne.symm a)]; exact x, y⟩⟩
theorem StR.wipe1 (r : StR K H σv σ) (i : Nat) : StR K H (σv.set i none) (swipe1 σ i) := ⟨by rw [List.length_set, swipe1_length, r.len], fun j e q => by
  obtain ⟨a, b⟩ := sget_swipe1 q
  obtain ⟨w, x, y⟩ := r.at_ j e b
  exact ⟨w, by rw [List.getElem?_set_ne (Ne.symm a)]; exact x, y⟩⟩
theorem StR.wipe (r : StR K H σv σ) : ∀ vs : List Nat, StR K H (L2.wipe σv vs) (swipe σ vs)
  | [] => r
  | v :: vs => (StR.wipe r vs).wipe1 v
end

/-- an exception in flight: its class, its own dict -/
def IsX (cl : Nat → Addr) (K : PySem.W.Frag) (H : Hp) (e : Exc) (cls : Value) (dd : Option Addr) : Prop :=
  cls = .ref (cl e.cls) ∧ ((e.fs = [] ∧ dd = none) ∨ ∃ d ws od, dd = some d ∧ H d = some (.frz od (.xd ws)) ∧ IsFs K H e.fs ws)
section
variable (cl : Nat → Addr) (K : PySem.W.Frag) (W : WX)
structure PostX (H : Hp) (m : Mem) (E : XK) : Prop where
  ex : ∀ σ' σv' e m' cls dd H', E σ' e m' → StR K H' σv' σ' → IsX cl K H' e cls dd → Rep cl K H' m' → Ext H m H' m' → W cls dd σv' H'
structure Post {α β : Type} (R : Hp → α → β → Prop) (H : Hp) (m : Mem) (E : XK) (k : α → Mem → Prop) (Q : β → Hp → Prop) : Prop where
  ok : ∀ d m' v H', k d m' → R H' d v → Rep cl K H' m' → Ext H m H' m' → Q v H'
  ex : PostX cl K W H m E
abbrev Rd (α : Type) : Type := XK → St → Mem → (α → Mem → Prop) → Prop
def Lift {α β : Type} (R : Hp → α → β → Prop) (t : Rd α) : L2.St → Hp → (β → Hp → Prop) → Prop := fun σv H Q =>
  ∃ σ m k E, StR K H σv σ ∧ Rep cl K H m ∧ t E σ m k ∧ Post cl K W R H m E k Q
end
abbrev RV (K : PySem.W.Frag) : Hp → D → V → Prop := fun H d v => IsV K H d v
abbrev RL (K : PySem.W.Frag) : Hp → List D → List V → Prop := fun H d v => IsL K H d v
abbrev RB : Hp → Bool → Bool → Prop := fun _ a b => a = b
abbrev RO : Hp → Option Int → Option Int → Prop := fun _ a b => a = b
section
variable {cl : Nat → Addr} {K : PySem.W.Frag} {W : WX} {α β γ δ : Type} {R : Hp → α → β → Prop} {S : Hp → γ → δ → Prop} {H H1 : Hp} {m m1 : Mem} {E : XK} {k : α → Mem → Prop} {Q : β → Hp → Prop} {σv : L2.St}
theorem PostX.step (p : PostX cl K W H m E) (e : Ext H m H1 m1) : PostX cl K W H1 m1 E := ⟨fun σ' σv' x m' cls dd H' a b c d f => p.ex σ' σv' x m' cls dd H' a b c d (e.trans f)⟩
theorem Post.step (p : Post cl K W R H m E k Q) (e : Ext H m H1 m1) : Post cl K W R H1 m1 E k Q := ⟨fun d m' v H' a b c f => p.ok d m' v H' a b c (e.trans f), p.ex.step e⟩
/-- first t, then u at what it gave -/
theorem Lift.bind {t : Rd γ} {u : γ → Rd α} (h : Lift cl K W R (fun E σ m k => t E σ m fun x m1 => u x E σ m1 k) σv H Q) :
    Lift cl K W S t σv H (fun v H1 => Kp H H1 ∧ ∃ x, S H1 x v ∧ Lift cl K W R (u x) σv H1 Q) := by
  obtain ⟨σ, m, k, E, hs, hr, ht, p⟩ := h
  exact ⟨σ, m, _, E, hs, hr, ht, ⟨fun d m' v H' q s r e => ⟨hr.kp e, d, s, σ, m', k, E, hs.kp (hr.kp e), r, q, p.step e⟩, p.ex⟩⟩
/-- nothing is done: the end -/
theorem Lift.pure {x : α} {v : β} (h : Lift cl K W R (fun _ _ m k => k x m) σv H Q) (r : ∀ m : Mem, R H x v) : Q v H := by
  obtain ⟨σ, m, k, E, hs, hr, ht, p⟩ := h
  exact p.ok _ _ _ _ ht (r m) hr (Ext.refl H m)
/-- a reading that asks more -/
theorem Lift.imp {t u : Rd α} (i : ∀ E σ m k, t E σ m k → u E σ m k) (h : Lift cl K W R t σv H Q) : Lift cl K W R u σv H Q := by
  obtain ⟨σ, m, k, E, hs, hr, ht, p⟩ := h
  exact ⟨σ, m, k, E, hs, hr, i _ _ _ _ ht, p⟩
/-- a value is turned into another form -/
theorem Lift.map {S : Hp → γ → δ → Prop} {t : Rd α} {f : α → γ} {g : β → δ} {Q : δ → Hp → Prop} (h : Lift cl K W S (fun E σ m k => t E σ m fun x m1 => k (f x) m1) σv H Q) (hf : ∀ H x v, R H x v → S H (f x) (g v)) :
    Lift cl K W R t σv H (fun v H1 => Q (g v) H1) := by
  obtain ⟨σ, m, k, E, hs, hr, ht, p⟩ := h
  exact ⟨σ, m, _, E, hs, hr, ht, ⟨fun d m' v H' q s r e => p.ok _ _ _ _ q (hf _ _ _ s) r e, p.ex⟩⟩
end
section
variable {X : Cx}
theorem pe_imp {e : Expr} {t t' : TE} (h : PE X e t) (i : ∀ σ H Q, t' σ H Q → t σ H Q) : PE X e t' := ⟨fun pins s σ H Q I q => h.run pins s σ H Q I (i _ _ _ q)⟩
theorem pt_imp {e : Expr} {t t' : TT} (h : PT X e t) (i : ∀ σ H Q, t' σ H Q → t σ H Q) : PT X e t' := ⟨fun pins s σ H Q I q => h.run pins s σ H Q I (i _ _ _ q)⟩
theorem pw_imp {e : Expr} {t t' : TT} (h : PW X e t) (i : ∀ σ H Q, t' σ H Q → t σ H Q) : PW X e t' := ⟨fun w pins s σ H Q I q => h.run w pins s σ H Q I (i _ _ _ q)⟩
theorem pa_imp {e : List Expr} {t t' : TA} (h : PA X e t) (i : ∀ σ H Q, t' σ H Q → t σ H Q) : PA X e t' := ⟨fun pos pins s σ H Q I q => h.run pos pins s σ H Q I (i _ _ _ q)⟩
theorem ps_imp {e : Stmt} {t t' : TS} (h : PS X e t) (i : ∀ σ H Q, t' σ H Q → t σ H Q) : PS X e t' := ⟨fun pins s σ H Q I q => h.run pins s σ H Q I (i _ _ _ q)⟩
theorem pss_imp {e : List Stmt} {t t' : TS} (h : PSs X e t) (i : ∀ σ H Q, t' σ H Q → t σ H Q) : PSs X e t' := ⟨fun pins s σ H Q I q => h.run pins s σ H Q I (i _ _ _ q)⟩
end

/-- what is wanted of a value, or of it when its object is only read from now on -/
def FQ (Q : V → Hp → Prop) : V → Hp → Prop := fun v H' => Q v H' ∨ ∃ d w, v = .ref d ∧ H' d = some w ∧ L2.Mut (some w) ∧ ∀ od, Q v (L2.upd H' d (.frz od w))
theorem ep_fz {X : Cx} {pins : List (Addr × Obj)} {σ : L2.St} {Q : V → Hp → Prop} {u : Value} {s : Shared} (h : L2.EP X pins σ (FQ Q) u s) : L2.EP X pins σ Q u s := by
  obtain ⟨v, H', I, r, q | ⟨d, w, e, hd, mu, q⟩⟩ := h
  · exact ⟨v, H', I, r, q⟩
  · obtain ⟨od, I'⟩ := I.lock hd mu
    exact ⟨v, _, I', r, q od⟩
theorem thn_fz {X : Cx} {pins : List (Addr × Obj)} {σ : L2.St} {Q : V → Hp → Prop} {t : Sem Value} {s : Shared} (h : wpAny (model X.prog X.w) X.A t (L2.EP X pins σ (FQ Q)) X.xe s) : wpAny (model X.prog X.w) X.A t (L2.EP X pins σ Q) X.xe s := L2.thn h fun _ _ => ep_fz
theorem pe_frz {X : Cx} {e : Expr} {t : TE} (h : PE X e t) : PE X e fun σ H Q => t σ H (FQ Q) := ⟨fun pins s σ H Q I q => thn_fz (h.run pins s σ H _ I q)⟩
theorem mut_of_rep {cl : Nat → Addr} {K : PySem.W.Frag} {H : Hp} {m : Mem} {a : Addr} {o : MO} (r : Rep cl K H m) (e : m a = some o) {d : D} (f : frzO o = some d) :
    ∃ w, H a = some w ∧ L2.Mut (some w) ∧ ∀ od, IsV K (L2.upd H a (.frz od w)) d (.ref a) ∧ Rep cl K (L2.upd H a (.frz od w)) (del m a) ∧ Ext H m (L2.upd H a (.frz od w)) (del m a) := by
  have rest : ∀ (w : HO) (od : Obj), H a = some w → (∀ ts, w ≠ .tup ts) → (∀ o' ts, w ≠ .frz o' ts) → Rep cl K (L2.upd H a (.frz od w)) (del m a) ∧ Ext H m (L2.upd H a (.frz od w)) (del m a) := fun w od hw h1 h2 => by
    refine ⟨fun b u q => ?_, ⟨fun b u q n => ?_, fun b n q => ?_⟩⟩
    · unfold del at q
      split at q
      · cases q
      · rename_i z
        exact (r b u q).kp (kp_mut hw h1 h2) (L2.upd_ne z)
    · rw [L2.upd_ne]
      · exact q
      · rintro rfl
        rw [e] at n
        cases n
    · unfold del
      split
      · rfl
      · exact n
  cases o with
  | lst ds =>
    cases f
    obtain ⟨vs, z, l⟩ := r a _ e
    exact ⟨_, z, trivial, fun od => ⟨⟨a, vs, rfl, ⟨od, L2.upd_same⟩, l.kp (kp_mut z (fun _ h => nomatch h) fun _ _ h => nomatch h)⟩, rest _ od z (fun _ h => nomatch h) fun _ _ h => nomatch h⟩⟩
  | dK kvs =>
    cases f
    obtain ⟨ws, z, l⟩ := r a _ e
    obtain ⟨kl, us, e1, e2, e3, e4⟩ := isKs_split (l.kp (kp_mut (o := .frz default (.dK ws)) z (fun _ h => nomatch h) fun _ _ h => nomatch h))
    refine ⟨_, z, trivial, fun od => ⟨?_, rest _ od z (fun _ h => nomatch h) fun _ _ h => nomatch h⟩⟩
    obtain ⟨kl, us, e1, e2, e3, e4⟩ := isKs_split (l.kp (kp_mut (o := .frz od (.dK ws)) z (fun _ h => nomatch h) fun _ _ h => nomatch h))
    exact ⟨a, kl, us, od, rfl, e2, e3, e4, by rw [L2.upd_same, e1]⟩
  | dT kvs =>
    cases f
    obtain ⟨ws, z, l⟩ := r a _ e
    refine ⟨_, z, trivial, fun od => ⟨?_, rest _ od z (fun _ h => nomatch h) fun _ _ h => nomatch h⟩⟩
    obtain ⟨kl, us, e1, e2, e3, e4⟩ := isTs_split (l.kp (kp_mut (o := .frz od (.dT ws)) z (fun _ h => nomatch h) fun _ _ h => nomatch h))
    exact ⟨a, kl, us, od, rfl, e2, e3, e4, by rw [L2.upd_same, e1]⟩
  | ins c fs => cases f
/-- what follows a value that may be only read from now on -/
theorem fz_ok {cl : Nat → Addr} {K : PySem.W.Frag} {H0 H : Hp} {m0 m : Mem} {k : Kt} {d : D} {v : V} {Q : V → Hp → Prop} (z : Fz k d m) (hd : IsV K H d v) (r : Rep cl K H m) (e : Ext H0 m0 H m)
    (p : ∀ d' m' v' H', k d' m' → IsV K H' d' v' → Rep cl K H' m' → Ext H0 m0 H' m' → Q v' H') : FQ Q v H := by
  rcases z with z | ⟨a, o, d', rfl, ea, f, z⟩
  · exact .inl (p _ _ _ _ z hd r e)
  · cases hd
    obtain ⟨w, hw, mu, q⟩ := mut_of_rep r ea f
    exact .inr ⟨a, w, rfl, hw, mu, fun od => p _ _ _ _ z (q od).1 (q od).2.1 (e.trans (q od).2.2)⟩
/-- a statement, an object only read from there on -/
theorem ps_frz {X : Cx} {st : Stmt} {t : TS} (h : PS X st t) : PS X st fun D σ H => t { D with nx := fun σ' H' => D.nx σ' H' ∨ ∃ d w, H' d = some w ∧ L2.Mut (some w) ∧ ∀ od, D.nx σ' (L2.upd H' d (.frz od w)) } σ H := by
  refine ⟨fun pins s σ H D I q => L2.thn (h.run pins s σ H _ I q) fun f s1 hp => ?_⟩
  cases f with
  | next =>
    obtain ⟨σ', H', I', q | ⟨d, w, hd, mu, q⟩⟩ := hp
    · exact ⟨σ', H', I', q⟩
    · obtain ⟨od, I2⟩ := I'.lock hd mu
      exact ⟨σ', _, I2, q od⟩
  | brk => exact hp
  | cont => exact hp
  | ret v => exact hp
theorem del_upd {m : Mem} {p : Nat} {o : MO} (h : m p = none) : del (upd m p o) p = m := by
  funext b
  unfold del upd
  by_cases e : b = p
  · rw [if_pos e, e, h]
  · rw [if_neg e, if_neg e]
/-- a new list, as an object or only to be read -/
theorem newL_fz {m : Mem} {ds : List D} {k : Kt} (h : NewL m ds k) {p : Nat} (hp : m p = none) : Fz k (.ref p) (upd m p (.lst ds)) := by
  rcases h with h | h
  · exact .inl (h p hp)
  · exact .inr ⟨p, _, _, rfl, upd_same, rfl, by rw [del_upd hp]; exact h⟩
theorem newD_fz {m : Mem} {kvs : List (D × D)} {k : Kt} (h : NewD m kvs k) {p : Nat} (hp : m p = none) : Fz k (.ref p) (upd m p (.dK kvs)) := by
  rcases h with h | h
  · exact .inl (h p hp)
  · exact .inr ⟨p, _, _, rfl, upd_same, rfl, by rw [del_upd hp]; exact h⟩
theorem newL_ok {cl : Nat → Addr} {K : PySem.W.Frag} {H0 H : Hp} {m0 m : Mem} {k : Kt} {ds : List D} {vs : List V} {p : Addr} {Q : V → Hp → Prop} (z : NewL m ds k) (hp : H p = none) (l : IsL K H ds vs) (r : Rep cl K H m) (e : Ext H0 m0 H m)
    (ok : ∀ d' m' v' H', k d' m' → IsV K H' d' v' → Rep cl K H' m' → Ext H0 m0 H' m' → Q v' H') : FQ Q (.ref p) (L2.upd H p (.lst vs)) :=
  fz_ok (newL_fz z (r.free hp)) rfl (r.new hp ⟨vs, L2.upd_same, l.kp (kp_new hp)⟩) (e.trans (Ext.tell hp)) ok
theorem newD_ok {cl : Nat → Addr} {K : PySem.W.Frag} {H0 H : Hp} {m0 m : Mem} {k : Kt} {kvs : List (D × D)} {ws : List (L2.Key × V)} {p : Addr} {Q : V → Hp → Prop} (z : NewD m kvs k) (hp : H p = none) (l : IsKs K H kvs ws) (r : Rep cl K H m) (e : Ext H0 m0 H m)
    (ok : ∀ d' m' v' H', k d' m' → IsV K H' d' v' → Rep cl K H' m' → Ext H0 m0 H' m' → Q v' H') : FQ Q (.ref p) (L2.upd H p (.dK ws)) :=
  fz_ok (newD_fz z (r.free hp)) rfl (r.new hp ⟨ws, L2.upd_same, l.kp (kp_new hp)⟩) (e.trans (Ext.tell hp)) ok
section
variable (cl : Nat → Addr) (K : PySem.W.Frag)
/-- what a reading by values asks, at values of the heap -/
def LOp (r : D → D → Mem → Kt → Prop) : L2.R2 := fun v w H Q => ∃ x y m k, IsV K H x v ∧ IsV K H y w ∧ Rep cl K H m ∧ r x y m k ∧ ∀ d m' u H', k d m' → IsV K H' d u → Rep cl K H' m' → Ext H m H' m' → Q u H'
end
theorem big_le {n : Nat} (h : n ≤ big) : n ≤ sizeLine := by
  have e : sizeLine = 16777216 := sizeLine_eq
  unfold big at h
  omega
theorem lop_of_lift {cl : Nat → Addr} {K : PySem.W.Frag} {W : WX} {r : D → D → Mem → Kt → Prop} {σv : L2.St} {H : Hp} {Q : V → Hp → Prop} {x y : D} {v w : V} (hx : IsV K H x v) (hy : IsV K H y w)
    (h : Lift cl K W (RV K) (fun _ _ m k => r x y m k) σv H Q) : LOp cl K r v w H Q := by
  obtain ⟨σ, m, k, E, hs, hr, ht, p⟩ := h
  exact ⟨x, y, m, k, hx, hy, hr, ht, p.ok⟩
theorem isV_ref {K : PySem.W.Frag} {H : Hp} {a : Addr} {v : V} (h : IsV K H (.ref a) v) : v = .ref a := h
section
variable {X : Cx} {cl : Nat → Addr} {bv : Bool}
theorem S_app (a b : List Nat) : SX.S a ++ SX.S b = SX.S (a ++ b) := SX.S_cat a b
/-- two lists, perhaps only read, behind one another -/
theorem op_catR : OpR X (binaryOp .Add) fun x y H Q => ∃ l b xs zs, x = V.ref l ∧ y = V.ref b ∧ L2.Rd H l (.lst xs) ∧ L2.Rd H b (.lst zs) ∧ xs.length + zs.length ≤ sizeLine ∧ ∀ p, H p = none → Q (.ref p) (L2.upd H p (.lst (xs ++ zs))) := by
  intro pins s σ H x y v u Q I rx ry h
  obtain ⟨l, b, xs, zs, rfl, rfl, hH, hB, hz, q⟩ := h
  cases rx
  cases ry
  obtain ⟨z, its, n, r, e⟩ := hH.ok I.hok
  obtain ⟨z2, its2, n2, r2, e2⟩ := hB.ok I.hok
  have hl := r.length
  have hl2 := r2.length
  refine PySem.P.add_list e e2 ?_ (by rw [List.size_toArray, List.size_toArray]; omega)
  have ea : its.toArray ++ its2.toArray = (its ++ its2).toArray := by simp
  rw [ea]
  exact ⟨.ref _, _, I.lnew (t' := s.toks) (r.append r2) (by rw [List.length_append]; omega), rfl, q _ I.fresh⟩
theorem op_addD : OpR X (binaryOp .Add) (LOp cl X.K (rBin bv .add)) := by
  intro pins s σ H v w vu wu Q I rv rw h
  obtain ⟨x, y, m, k, hx, hy, hr, ht, p⟩ := h
  cases x <;> cases y <;> try exact ht.elim
  · rename_i i j
    cases hx
    cases hy
    exact L2.op_add pins s σ H _ _ vu wu Q I rv rw ⟨i, j, rfl, rfl, p _ _ _ _ ht rfl hr (Ext.refl H m)⟩
  · rename_i a b
    cases hx
    cases hy
    obtain ⟨hl, ht⟩ := ht
    exact L2.op_add_str pins s σ H _ _ vu wu Q I rv rw ⟨_, _, rfl, rfl, by rw [SX.S_len, SX.S_len]; exact big_le hl, by rw [S_app]; exact p _ _ _ _ ht rfl hr (Ext.refl H m)⟩
  · rename_i a b
    obtain ⟨a', vs, rfl, ta, la⟩ := hx
    obtain ⟨b', ws, rfl, tb, lb⟩ := hy
    obtain ⟨hl, ht⟩ := ht
    refine L2.op_catA pins s σ H _ _ vu wu Q I rv rw ⟨a', b', vs, ws, rfl, rfl, sqt_of ta, sqt_of tb, by rw [la.length, lb.length]; exact big_le hl, fun e => ?_, fun e e2 => ?_, fun e e2 q hq => ?_⟩
    · refine p _ _ _ _ ht ⟨b', ws, rfl, tb, ?_⟩ hr (Ext.refl H m)
      have e3 : a = [] := List.eq_nil_of_length_eq_zero (by rw [← la.length, e]; rfl)
      rw [e3]
      exact lb
    · refine p _ _ _ _ ht ⟨a', vs, rfl, ta, ?_⟩ hr (Ext.refl H m)
      have e3 : b = [] := List.eq_nil_of_length_eq_zero (by rw [← lb.length, e2]; rfl)
      rw [e3, List.append_nil]
      exact la
    · exact p _ _ _ _ ht ⟨q, vs ++ ws, rfl, L2.upd_same, (la.kp (kp_new hq)).append (lb.kp (kp_new hq))⟩ (hr.hid hq) (Ext.hid hq)
  all_goals
    obtain ⟨xs, ys, ha, hb, hl, ht⟩ := ht
    obtain ⟨a, vs, ea, za, la⟩ := lstOf_rd hr ha hx
    obtain ⟨b, ws, eb, zb, lb⟩ := lstOf_rd hr hb hy
    subst ea eb
    exact thn_fz (op_catR pins s σ H _ _ vu wu (FQ Q) I rv rw ⟨a, b, vs, ws, rfl, rfl, za, zb, by rw [la.length, lb.length]; exact big_le hl, fun q hq => newL_ok ht.or hq (la.append lb) hr (Ext.refl H m) p⟩)
theorem op_subD : OpR X (binaryOp .Sub) (LOp cl X.K (rBin bv .sub)) := by
  intro pins s σ H v w vu wu Q I rv rw h
  obtain ⟨x, y, m, k, hx, hy, hr, ht, p⟩ := h
  cases x <;> cases y <;> try exact ht.elim
  rename_i i j
  cases hx
  cases hy
  exact L2.op_sub pins s σ H _ _ vu wu Q I rv rw ⟨i, j, rfl, rfl, p _ _ _ _ ht rfl hr (Ext.refl H m)⟩
theorem op_fdivD : OpR X (binaryOp .FloorDiv) (LOp cl X.K (rBin bv .fdiv)) := by
  intro pins s σ H v w vu wu Q I rv rw h
  obtain ⟨x, y, m, k, hx, hy, hr, ht, p⟩ := h
  cases x <;> cases y <;> try exact ht.elim
  rename_i i j
  cases hx
  cases hy
  obtain ⟨⟨h1, h2⟩, ht⟩ := ht
  refine L2.op_fdivW pins s σ H _ _ vu wu Q I rv rw ⟨i, j, rfl, rfl, L2.wide_div (b := 200) h1 ?_ (by decide) (by decide), p _ _ _ _ ht rfl hr (Ext.refl H m)⟩
  have e : (2 : Int) ^ 200 = ((2 ^ 200 : Nat) : Int) := by decide
  rw [e] at h2
  omega
theorem op_modD : OpR X (binaryOp .Mod) (LOp cl X.K (rBin bv .mod)) := by
  intro pins s σ H v w vu wu Q I rv rw h
  obtain ⟨x, y, m, k, hx, hy, hr, ht, p⟩ := h
  cases x <;> cases y <;> try exact ht.elim
  rename_i i j
  cases hx
  cases hy
  obtain ⟨h1, ht⟩ := ht
  exact L2.op_mod pins s σ H _ _ vu wu Q I rv rw ⟨i, j, rfl, rfl, h1, p _ _ _ _ ht rfl hr (Ext.refl H m)⟩
theorem op_powD : OpR X (binaryOp .Pow) (LOp cl X.K (rBin bv .pow)) := by
  intro pins s σ H v w vu wu Q I rv rw h
  obtain ⟨x, y, m, k, hx, hy, hr, ht, p⟩ := h
  cases x <;> cases y <;> try exact ht.elim
  rename_i i j
  cases hx
  cases hy
  obtain ⟨⟨⟨h1, h2⟩, h3⟩, ht⟩ := ht
  exact L2.op_pow pins s σ H _ _ vu wu Q I rv rw ⟨i, j, rfl, rfl, ⟨h1, h2, h3⟩, p _ _ _ _ ht rfl hr (Ext.refl H m)⟩
end
theorem pt_lock {X : Cx} {e : Expr} {t : TT} (h : PT X e t) : PT X e fun σ H Q => ∃ d u, H d = some u ∧ L2.Mut (some u) ∧ ∀ od, t σ (L2.upd H d (.frz od u)) fun v H' => H' d = some (.frz od u) ∧ Q v (L2.upd H' d u) := by
  refine ⟨fun pins s σ H Q I hw => ?_⟩
  obtain ⟨d, u, hd, mu, hw⟩ := hw
  obtain ⟨od, I1⟩ := I.lock hd mu
  refine L2.thn (h.run pins s σ _ _ I1 (hw od)) fun v s1 hp => ?_
  obtain ⟨H1, I2, e2, q⟩ := hp
  exact ⟨_, I2.unlock e2 (I.nofrz hd mu), q⟩
mutual
theorem isV_tups {K : PySem.W.Frag} {H H' : Hp} (k : ∀ a vs, H a = some (.tup vs) → H' a = some (.tup vs)) : ∀ {d : D} {v : V}, D.noRef d = true → IsV K H d v → IsV K H' d v
  | .non, _, _, h => h
  | .bl _, _, _, h => h
  | .int _, _, _, h => h
  | .str _, _, _, h => h
  | .ref _, _, n, _ => by cases n
  | .tup ds, _, n, ⟨a, vs, e, t, h⟩ => ⟨a, vs, e, k a vs t, isL_tups k (show D.noRefs ds = true from n) h⟩
  | .ktup _, _, n, _ => by cases n
  | .rol _, _, n, _ => by cases n
  | .scr _, _, n, _ => by cases n
  | .rod _ _ _, _, n, _ => by cases n
  | .exc _ _ _, _, n, _ => by cases n
theorem isL_tups {K : PySem.W.Frag} {H H' : Hp} (k : ∀ a vs, H a = some (.tup vs) → H' a = some (.tup vs)) : ∀ {ds : List D} {vs : List V}, D.noRefs ds = true → IsL K H ds vs → IsL K H' ds vs
  | [], _, _, h => h
  | d :: ds, _, n, ⟨v, r, e, h, t⟩ => by
    rw [D.noRefs, Bool.and_eq_true] at n
    exact ⟨v, r, e, isV_tups k n.1 h, isL_tups k n.2 t⟩
end
/-- the heap behind the lock -/
theorem lk_ok {cl : Nat → Addr} {K : PySem.W.Frag} {H H' : Hp} {m m' : Mem} {a : Addr} {o : MO} {od : Obj} {w : HO} (hr : Rep cl K H m) (e2 : m a = some o) (hw : H a = some w) (ex : Ext (L2.upd H a (.frz od w)) noMem H' m') :
    H' a = some (.frz od w) ∧ Rep cl K (L2.upd H' a w) m ∧ Ext H m (L2.upd H' a w) m ∧ (∀ b vs, H' b = some (.tup vs) → L2.upd H' a w b = some (.tup vs)) := by
  have ha := ex.keep a _ L2.upd_same rfl
  have all : ∀ b u, H b = some u → L2.upd H' a w b = some u := fun b u h => by
    by_cases z : b = a
    · subst z
      rw [hw] at h
      cases h
      exact L2.upd_same
    · rw [L2.upd_ne z]
      exact ex.keep b u (by rw [L2.upd_ne z]; exact h) rfl
  have kp : Kp H (L2.upd H' a w) := ⟨fun b vs h => all b _ h, fun b u x h => all b _ h⟩
  refine ⟨ha, fun b u h => ?_, ⟨fun b u h _ => all b u h, fun b h _ => h⟩, fun b vs h => ?_⟩
  · obtain ⟨x, hx, _⟩ := hr.at h
    exact (hr b u h).kp kp (by rw [all b x hx, hx])
  · rw [L2.upd_ne]
    · exact h
    · rintro rfl
      rw [ha] at h
      cases h
theorem lk_st {cl : Nat → Addr} {K : PySem.W.Frag} {H : Hp} {m : Mem} {σv : L2.St} {σ : St} {i : Nat} {a : Addr} {o : MO} {r : D} {od : Obj} {w : HO} (hs : StR K H σv σ) (hr : Rep cl K H m) (e1 : sget σ i = some (.ref a)) (iv : IsV K (L2.upd H a (.frz od w)) r (.ref a)) (ex : Ext H m (L2.upd H a (.frz od w)) (del m a)) : StR K (L2.upd H a (.frz od w)) σv (sset σ i r) := by
  have hs2 := hs.kp (hr.kp ex)
  obtain ⟨v, ev, hv⟩ := hs.at_ i _ e1
  cases hv
  have := hs2.set iv i
  have e4 : σv.set i (some (V.ref a)) = σv := by
    apply List.ext_getElem?
    intro j
    by_cases hj : i = j
    · subst hj
      rw [ev, List.getElem?_set_self (List.getElem?_eq_some_iff.mp ev).1]
    · rw [List.getElem?_set_ne hj]
  rw [e4] at this
  exact this
end DL

namespace DL
open PySem PySem.Spec PyProof.Rows
open L2 (V Hp HO SqL SqT TE TT TA TS TG TGs Cx Inv PE PT PW PA PS PSs PG PGs RelV Vals WX OpR UnR CallR IxR SlR MtR)
section
variable {X : Cx} {cl : Nat → Addr} {bv : Bool}
theorem isL_rep {K : PySem.W.Frag} {H : Hp} {ds : List D} {vs : List V} (l : IsL K H ds vs) : ∀ n, IsL K H (List.replicate n ds).flatten (List.replicate n vs).flatten
  | 0 => rfl
  | n + 1 => by
    rw [List.replicate_succ, List.replicate_succ, List.flatten_cons, List.flatten_cons]
    exact l.append (isL_rep l n)
theorem op_mulD : OpR X (binaryOp .Mult) (LOp cl X.K (rBin bv .mul)) := by
  intro pins s σ H v w vu wu Q I rv rw h
  obtain ⟨x, y, m, k, hx, hy, hr, ht, p⟩ := h
  cases x <;> cases y <;> try exact ht.elim
  · rename_i i j
    cases hx
    cases hy
    obtain ⟨h1, ht⟩ := ht
    exact L2.op_mul pins s σ H _ _ vu wu Q I rv rw ⟨i, j, rfl, rfl, h1, p _ _ _ _ ht rfl hr (Ext.refl H m)⟩
  · rename_i a j
    cases hx
    cases hy
    obtain ⟨c, rfl, h0, h1, ht⟩ := ht
    obtain ⟨t, rfl⟩ := rv
    obtain ⟨u, rfl⟩ := rw
    refine PySem.SB.mul (PyProof.Rows.mulOk_of 1 1000000 (by rw [SX.S_len]; exact Nat.le_refl _) (by simpa using h1) (by omega) (by decide) (by decide)) fun t' k' => ⟨.str (PySem.Txt.mul (SX.S [c]) j), H, I.tok k', ⟨t', rfl⟩, p _ _ _ _ ht ?_ hr (Ext.refl H m)⟩
    show V.str _ = V.str _
    rw [SX.S_tl (Txt.mul (SX.S [c]) j) |>.symm, PyProof.Rows.mul_one_list]
  · rename_i a j
    cases hx
    cases hy
    obtain ⟨ds, ea, ⟨h0, h1⟩, hl, ht⟩ := ht
    obtain ⟨vs, z, l⟩ := hr a _ ea
    exact thn_fz (L2.op_rep pins s σ H _ _ vu wu (FQ Q) I rv rw ⟨a, j, vs, rfl, rfl, z, by omega, by omega, by rw [l.length]; exact big_le hl, fun q hq => newL_ok ht.or hq (isL_rep l _) hr (Ext.refl H m) p⟩)
end
mutual
def toPy : D → PyData
  | .non => .none
  | .bl b => .bool b
  | .int i => .int i
  | .str s => .str (SX.S s)
  | .tup ds => .tuple (toPys ds)
  | .ref _ => .none
  | .rol ds => .list (toPys ds)
  | .ktup ds => .tuple (toPys ds)
  | .rod _ _ _ => .none
  | .exc _ _ _ => .none
  | .scr _ => .none
def toPys : List D → List PyData
  | [] => []
  | d :: ds => toPy d :: toPys ds
end
mutual
theorem dp_plain {K : PySem.W.Frag} {H : Hp} : ∀ {n : Nat} {d : D} {v : V}, D.plain n d = true → IsV K H d v → L2.Dp K H v (toPy d)
  | _, .non, _, _, h => by cases h; exact .non
  | _, .bl b, _, _, h => by cases h; exact .bl b
  | _, .int i, _, _, h => by cases h; exact .int i
  | _, .str s, _, _, h => by cases h; exact .str _
  | 0, .tup ds, _, p, _ => by simp [D.plain] at p
  | n + 1, .tup ds, _, p, h => by
    obtain ⟨a, vs, e, t, l⟩ := h
    subst e
    exact .tup (sqt_of t) (dp_plains (n := n) (by simpa [D.plain] using p) l)
  | 0, .rol ds, _, p, _ => by simp [D.plain] at p
  | n + 1, .rol ds, _, p, h => by
    obtain ⟨a, vs, e, t, l⟩ := h
    subst e
    exact .lst t.sq (dp_plains (n := n) (by simpa [D.plain] using p) l)
  | 0, .ktup ds, _, p, _ => by simp [D.plain] at p
  | n + 1, .ktup ds, _, p, h => by
    obtain ⟨a, vs, e, t, l⟩ := h
    subst e
    exact .tup (sqt_none t) (dp_plains (n := n) (by simpa [D.plain] using p) l)
  | _, .ref _, _, p, _ => by simp [D.plain] at p
  | _, .rod _ _ _, _, p, _ => by simp [D.plain] at p
  | _, .exc _ _ _, _, p, _ => by simp [D.plain] at p
  | _, .scr _, _, p, _ => by simp [D.plain] at p
theorem dp_plains {K : PySem.W.Frag} {H : Hp} : ∀ {n : Nat} {ds : List D} {vs : List V}, D.plains n ds = true → IsL K H ds vs → L2.DpAll K H vs (toPys ds)
  | _, [], _, _, h => by
    rw [show _ = [] from h]
    exact .nil
  | n, d :: ds, _, p, h => by
    obtain ⟨v, r, e, q, l⟩ := h
    subst e
    obtain ⟨p1, p2⟩ := Bool.and_eq_true_iff.mp (show (D.plain n d && D.plains n ds) = true by simpa [D.plains] using p)
    exact .cons (dp_plain p1 q) (dp_plains p2 l)
end
theorem strOk_S {s : List Nat} (h : s.all (· < 1114112) = true) : PySem.PyData.strOk (SX.S s) = true := by
  show Array.all _ _ = true
  rw [← Array.all_toList]
  simpa using h
mutual
theorem lay_plain : ∀ {n : Nat} {d : D}, D.plain n d = true → (toPy d).canLay0 = true ∧ (toPy d).depth ≤ n + 1
  | _, .non, _ => ⟨rfl, Nat.zero_le _⟩
  | _, .bl b, _ => ⟨rfl, Nat.zero_le _⟩
  | _, .int i, _ => ⟨rfl, Nat.zero_le _⟩
  | _, .str s, p => ⟨by
      show PyData.canLay0 (.str (SX.S s)) = true
      unfold PyData.canLay0
      exact strOk_S (by simpa [D.plain] using p), Nat.zero_le _⟩
  | 0, .tup ds, p => by simp [D.plain] at p
  | n + 1, .tup ds, p => by
    obtain ⟨a, b⟩ := lay_plains (n := n) (ds := ds) (by simpa [D.plain] using p)
    refine ⟨?_, ?_⟩
    · show PyData.canLay0 (.tuple (toPys ds)) = true
      unfold PyData.canLay0
      exact a
    · show PyData.depth (.tuple (toPys ds)) ≤ _
      unfold PyData.depth
      omega
  | 0, .rol ds, p => by simp [D.plain] at p
  | n + 1, .rol ds, p => by
    obtain ⟨a, b⟩ := lay_plains (n := n) (ds := ds) (by simpa [D.plain] using p)
    refine ⟨?_, ?_⟩
    · show PyData.canLay0 (.list (toPys ds)) = true
      unfold PyData.canLay0
      exact a
    · show PyData.depth (.list (toPys ds)) ≤ _
      unfold PyData.depth
      omega
  | 0, .ktup ds, p => by simp [D.plain] at p
  | n + 1, .ktup ds, p => by
    obtain ⟨a, b⟩ := lay_plains (n := n) (ds := ds) (by simpa [D.plain] using p)
    refine ⟨?_, ?_⟩
    · show PyData.canLay0 (.tuple (toPys ds)) = true
      unfold PyData.canLay0
      exact a
    · show PyData.depth (.tuple (toPys ds)) ≤ _
      unfold PyData.depth
      omega
  | _, .ref _, p => by simp [D.plain] at p
  | _, .rod _ _ _, p => by simp [D.plain] at p
  | _, .exc _ _ _, p => by simp [D.plain] at p
  | _, .scr _, p => by simp [D.plain] at p
theorem lay_plains : ∀ {n : Nat} {ds : List D}, D.plains n ds = true → PyData.canLayAll0 (toPys ds) = true ∧ PyData.depthAll (toPys ds) ≤ n + 1
  | _, [], _ => ⟨rfl, Nat.zero_le _⟩
  | n, d :: ds, p => by
    obtain ⟨p1, p2⟩ := Bool.and_eq_true_iff.mp (show (D.plain n d && D.plains n ds) = true by simpa [D.plains] using p)
    obtain ⟨a, b⟩ := lay_plain p1
    obtain ⟨c, e⟩ := lay_plains p2
    refine ⟨?_, ?_⟩
    · show PyData.canLayAll0 (toPy d :: toPys ds) = true
      unfold PyData.canLayAll0
      rw [a, c]
      rfl
    · show PyData.depthAll (toPy d :: toPys ds) ≤ _
      unfold PyData.depthAll
      omega
end
theorem shaped_of {d : PyData} (h : d.canLay0 = true ∧ d.depth ≤ 64) : SeqAt.shaped d = true := Bool.and_eq_true_iff.mpr ⟨h.1, decide_eq_true h.2⟩
theorem S_beq (a b : List Nat) : (SX.S a == SX.S b) = (a == b) := SX.S_beq a b
mutual
theorem eqv_toPy : ∀ {n k : Nat} {x y : D}, D.plain n x = true → D.plain k y = true → PyData.eqv (toPy x) (toPy y) = D.eqv x y
  | _, _, .ref _, _, p, _ => by simp [D.plain] at p
  | _, _, .rod _ _ _, _, p, _ => by simp [D.plain] at p
  | _, _, .exc _ _ _, _, p, _ => by simp [D.plain] at p
  | _, _, .scr _, _, p, _ => by simp [D.plain] at p
  | _, _, .non, .ref _, _, p => by simp [D.plain] at p
  | _, _, .non, .rod _ _ _, _, p => by simp [D.plain] at p
  | _, _, .non, .exc _ _ _, _, p => by simp [D.plain] at p
  | _, _, .non, .scr _, _, p => by simp [D.plain] at p
  | _, _, .bl _, .ref _, _, p => by simp [D.plain] at p
  | _, _, .bl _, .rod _ _ _, _, p => by simp [D.plain] at p
  | _, _, .bl _, .exc _ _ _, _, p => by simp [D.plain] at p
  | _, _, .bl _, .scr _, _, p => by simp [D.plain] at p
  | _, _, .int _, .ref _, _, p => by simp [D.plain] at p
  | _, _, .int _, .rod _ _ _, _, p => by simp [D.plain] at p
  | _, _, .int _, .exc _ _ _, _, p => by simp [D.plain] at p
  | _, _, .int _, .scr _, _, p => by simp [D.plain] at p
  | _, _, .str _, .ref _, _, p => by simp [D.plain] at p
  | _, _, .str _, .rod _ _ _, _, p => by simp [D.plain] at p
  | _, _, .str _, .exc _ _ _, _, p => by simp [D.plain] at p
  | _, _, .str _, .scr _, _, p => by simp [D.plain] at p
  | _, _, .tup _, .ref _, _, p => by simp [D.plain] at p
  | _, _, .tup _, .rod _ _ _, _, p => by simp [D.plain] at p
  | _, _, .tup _, .exc _ _ _, _, p => by simp [D.plain] at p
  | _, _, .tup _, .scr _, _, p => by simp [D.plain] at p
  | _, _, .ktup _, .ref _, _, p => by simp [D.plain] at p
  | _, _, .ktup _, .rod _ _ _, _, p => by simp [D.plain] at p
  | _, _, .ktup _, .exc _ _ _, _, p => by simp [D.plain] at p
  | _, _, .ktup _, .scr _, _, p => by simp [D.plain] at p
  | _, _, .rol _, .ref _, _, p => by simp [D.plain] at p
  | _, _, .rol _, .rod _ _ _, _, p => by simp [D.plain] at p
  | _, _, .rol _, .exc _ _ _, _, p => by simp [D.plain] at p
  | _, _, .rol _, .scr _, _, p => by simp [D.plain] at p
  | _, _, .non, .non, _, _ => rfl
  | _, _, .non, .bl _, _, _ => rfl
  | _, _, .non, .int _, _, _ => rfl
  | _, _, .non, .str _, _, _ => rfl
  | _, _, .non, .tup _, _, _ => rfl
  | _, _, .non, .ktup _, _, _ => rfl
  | _, _, .non, .rol _, _, _ => rfl
  | _, _, .bl _, .non, _, _ => rfl
  | _, _, .bl _, .bl _, _, _ => rfl
  | _, _, .bl _, .int _, _, _ => rfl
  | _, _, .bl _, .str _, _, _ => rfl
  | _, _, .bl _, .tup _, _, _ => rfl
  | _, _, .bl _, .ktup _, _, _ => rfl
  | _, _, .bl _, .rol _, _, _ => rfl
  | _, _, .int _, .non, _, _ => rfl
  | _, _, .int _, .bl _, _, _ => rfl
  | _, _, .int _, .int _, _, _ => rfl
  | _, _, .int _, .str _, _, _ => rfl
  | _, _, .int _, .tup _, _, _ => rfl
  | _, _, .int _, .ktup _, _, _ => rfl
  | _, _, .int _, .rol _, _, _ => rfl
  | _, _, .str _, .non, _, _ => rfl
  | _, _, .str _, .bl _, _, _ => rfl
  | _, _, .str _, .int _, _, _ => rfl
  | _, _, .str a, .str b, _, _ => by
    show PyData.eqv (.str (SX.S a)) (.str (SX.S b)) = D.eqv (.str a) (.str b)
    unfold PyData.eqv D.eqv
    exact S_beq a b
  | _, _, .str _, .tup _, _, _ => rfl
  | _, _, .str _, .ktup _, _, _ => rfl
  | _, _, .str _, .rol _, _, _ => rfl
  | _, _, .tup _, .non, _, _ => rfl
  | _, _, .tup _, .bl _, _, _ => rfl
  | _, _, .tup _, .int _, _, _ => rfl
  | _, _, .tup _, .str _, _, _ => rfl
  | 0, _, .tup _, .tup _, p, _ => by simp [D.plain] at p
  | _, 0, .tup _, .tup _, _, p => by simp [D.plain] at p
  | n + 1, k + 1, .tup xs, .tup ys, p, q => by
    show PyData.eqv (.tuple (toPys xs)) (.tuple (toPys ys)) = D.eqv (.tup xs) (.tup ys)
    unfold PyData.eqv D.eqv
    exact eqv_toPys (n := n) (k := k) (by simpa [D.plain] using p) (by simpa [D.plain] using q)
  | 0, _, .tup _, .ktup _, p, _ => by simp [D.plain] at p
  | _, 0, .tup _, .ktup _, _, p => by simp [D.plain] at p
  | n + 1, k + 1, .tup xs, .ktup ys, p, q => by
    show PyData.eqv (.tuple (toPys xs)) (.tuple (toPys ys)) = D.eqv (.tup xs) (.ktup ys)
    unfold PyData.eqv D.eqv
    exact eqv_toPys (n := n) (k := k) (by simpa [D.plain] using p) (by simpa [D.plain] using q)
  | _, _, .tup _, .rol _, _, _ => rfl
  | _, _, .ktup _, .non, _, _ => rfl
  | _, _, .ktup _, .bl _, _, _ => rfl
  | _, _, .ktup _, .int _, _, _ => rfl
  | _, _, .ktup _, .str _, _, _ => rfl
  | 0, _, .ktup _, .tup _, p, _ => by simp [D.plain] at p
  | _, 0, .ktup _, .tup _, _, p => by simp [D.plain] at p
  | n + 1, k + 1, .ktup xs, .tup ys, p, q => by
    show PyData.eqv (.tuple (toPys xs)) (.tuple (toPys ys)) = D.eqv (.ktup xs) (.tup ys)
    unfold PyData.eqv D.eqv
    exact eqv_toPys (n := n) (k := k) (by simpa [D.plain] using p) (by simpa [D.plain] using q)
  | 0, _, .ktup _, .ktup _, p, _ => by simp [D.plain] at p
  | _, 0, .ktup _, .ktup _, _, p => by simp [D.plain] at p
  | n + 1, k + 1, .ktup xs, .ktup ys, p, q => by
    show PyData.eqv (.tuple (toPys xs)) (.tuple (toPys ys)) = D.eqv (.ktup xs) (.ktup ys)
    unfold PyData.eqv D.eqv
    exact eqv_toPys (n := n) (k := k) (by simpa [D.plain] using p) (by simpa [D.plain] using q)
  | _, _, .ktup _, .rol _, _, _ => rfl
  | _, _, .rol _, .non, _, _ => rfl
  | _, _, .rol _, .bl _, _, _ => rfl
  | _, _, .rol _, .int _, _, _ => rfl
  | _, _, .rol _, .str _, _, _ => rfl
  | _, _, .rol _, .tup _, _, _ => rfl
  | _, _, .rol _, .ktup _, _, _ => rfl
  | 0, _, .rol _, .rol _, p, _ => by simp [D.plain] at p
  | _, 0, .rol _, .rol _, _, p => by simp [D.plain] at p
  | n + 1, k + 1, .rol xs, .rol ys, p, q => by
    show PyData.eqv (.list (toPys xs)) (.list (toPys ys)) = D.eqv (.rol xs) (.rol ys)
    unfold PyData.eqv D.eqv
    exact eqv_toPys (n := n) (k := k) (by simpa [D.plain] using p) (by simpa [D.plain] using q)
theorem eqv_toPys : ∀ {n k : Nat} {xs ys : List D}, D.plains n xs = true → D.plains k ys = true → PyData.eqvAll (toPys xs) (toPys ys) = D.eqvs xs ys
  | _, _, [], [], _, _ => rfl
  | _, _, [], _ :: _, _, _ => rfl
  | _, _, _ :: _, [], _, _ => rfl
  | n, k, x :: xs, y :: ys, p, q => by
    obtain ⟨p1, p2⟩ := Bool.and_eq_true_iff.mp (show (D.plain n x && D.plains n xs) = true by simpa [D.plains] using p)
    obtain ⟨q1, q2⟩ := Bool.and_eq_true_iff.mp (show (D.plain k y && D.plains k ys) = true by simpa [D.plains] using q)
    show PyData.eqvAll (toPy x :: toPys xs) (toPy y :: toPys ys) = D.eqvs (x :: xs) (y :: ys)
    unfold PyData.eqvAll D.eqvs
    rw [eqv_toPy p1 q1, eqv_toPys p2 q2]
end
mutual
def fPy : F → PyData
  | .non => .none
  | .bl b => .bool b
  | .int i => .int i
  | .str s => .str (SX.S s)
  | .tup ds => .tuple (fPys ds)
  | .lst ds => .list (fPys ds)
def fPys : List F → List PyData
  | [] => []
  | d :: ds => fPy d :: fPys ds
end
mutual
theorem eqv_fPy : ∀ {x y : F}, PyData.eqv (fPy x) (fPy y) = F.eqv x y
  | .non, .non => rfl
  | .non, .bl _ => rfl
  | .non, .int _ => rfl
  | .non, .str _ => rfl
  | .non, .tup _ => rfl
  | .non, .lst _ => rfl
  | .bl _, .non => rfl
  | .bl _, .bl _ => rfl
  | .bl _, .int _ => rfl
  | .bl _, .str _ => rfl
  | .bl _, .tup _ => rfl
  | .bl _, .lst _ => rfl
  | .int _, .non => rfl
  | .int _, .bl _ => rfl
  | .int _, .int _ => rfl
  | .int _, .str _ => rfl
  | .int _, .tup _ => rfl
  | .int _, .lst _ => rfl
  | .str _, .non => rfl
  | .str _, .bl _ => rfl
  | .str _, .int _ => rfl
  | .str a, .str b => by
    show PyData.eqv (.str (SX.S a)) (.str (SX.S b)) = F.eqv (.str a) (.str b)
    unfold PyData.eqv F.eqv
    exact S_beq a b
  | .str _, .tup _ => rfl
  | .str _, .lst _ => rfl
  | .tup _, .non => rfl
  | .tup _, .bl _ => rfl
  | .tup _, .int _ => rfl
  | .tup _, .str _ => rfl
  | .tup _, .lst _ => rfl
  | .lst _, .non => rfl
  | .lst _, .bl _ => rfl
  | .lst _, .int _ => rfl
  | .lst _, .str _ => rfl
  | .lst _, .tup _ => rfl
  | .tup xs, .tup ys => by
    show PyData.eqv (.tuple (fPys xs)) (.tuple (fPys ys)) = F.eqv (.tup xs) (.tup ys)
    unfold PyData.eqv F.eqv
    exact eqv_fPys
  | .lst xs, .lst ys => by
    show PyData.eqv (.list (fPys xs)) (.list (fPys ys)) = F.eqv (.lst xs) (.lst ys)
    unfold PyData.eqv F.eqv
    exact eqv_fPys
theorem eqv_fPys : ∀ {xs ys : List F}, PyData.eqvAll (fPys xs) (fPys ys) = F.eqvs xs ys
  | [], [] => rfl
  | [], _ :: _ => rfl
  | _ :: _, [] => rfl
  | x :: xs, y :: ys => by
    show PyData.eqvAll (fPy x :: fPys xs) (fPy y :: fPys ys) = F.eqvs (x :: xs) (y :: ys)
    unfold PyData.eqvAll F.eqvs
    rw [eqv_fPy, eqv_fPys]
end
section
variable {cl : Nat → Addr} {K : PySem.W.Frag} {H : Hp} {m : Mem}
mutual
theorem dp_opn (r : Rep cl K H m) : ∀ {n : Nat} {d : D} {f : F} {v : V}, Opn m n d f → IsV K H d v → L2.Dp K H v (fPy f) ∧ (fPy f).canLay0 = true ∧ (fPy f).depth ≤ n + 1
  | n, .non, f, _, o, h => by
    cases f <;> first | exact (show False by simpa [Opn] using o).elim | skip
    cases h
    exact ⟨.non, rfl, Nat.zero_le _⟩
  | n, .bl b, f, _, o, h => by
    cases f <;> first | exact (show False by simpa [Opn] using o).elim | skip
    cases h
    rw [show b = _ by simpa [Opn] using o]
    exact ⟨.bl _, rfl, Nat.zero_le _⟩
  | n, .int b, f, _, o, h => by
    cases f <;> first | exact (show False by simpa [Opn] using o).elim | skip
    cases h
    rw [show b = _ by simpa [Opn] using o]
    exact ⟨.int _, rfl, Nat.zero_le _⟩
  | n, .str b, f, _, o, h => by
    cases f <;> first | exact (show False by simpa [Opn] using o).elim | skip
    rename_i c
    cases h
    have o' : b = c ∧ b.all (· < 1114112) = true := by simpa [Opn] using o
    obtain ⟨e, q⟩ := o'
    subst e
    refine ⟨.str _, ?_, Nat.zero_le _⟩
    show PyData.canLay0 (.str (SX.S b)) = true
    unfold PyData.canLay0
    exact strOk_S q
  | 0, .tup ds, f, _, o, h => by
    cases f <;> exact (show False by simpa [Opn] using o).elim
  | n + 1, .tup ds, f, _, o, h => by
    cases f <;> first | exact (show False by simpa [Opn] using o).elim | skip
    rename_i fs
    obtain ⟨a, vs, e, t, l⟩ := h
    subst e
    obtain ⟨q1, q2, q3⟩ := dp_opns r (n := n) (ds := ds) (fs := fs) (by simpa [Opn] using o) l
    refine ⟨.tup (sqt_of t) q1, ?_, ?_⟩
    · show PyData.canLay0 (.tuple (fPys fs)) = true
      unfold PyData.canLay0
      exact q2
    · show PyData.depth (.tuple (fPys fs)) ≤ _
      unfold PyData.depth
      omega
  | 0, .ref a, f, _, o, h => by
    cases f <;> exact (show False by simpa [Opn] using o).elim
  | n + 1, .ref a, f, _, o, h => by
    cases f <;> first | exact (show False by simpa [Opn] using o).elim | skip
    rename_i fs
    cases h
    obtain ⟨ds, e, q⟩ : ∃ ds, m a = some (.lst ds) ∧ Opns m n ds fs := by simpa [Opn] using o
    obtain ⟨vs, z, l⟩ := r a _ e
    obtain ⟨q1, q2, q3⟩ := dp_opns r (n := n) q l
    refine ⟨.lst (SqL.of z) q1, ?_, ?_⟩
    · show PyData.canLay0 (.list (fPys fs)) = true
      unfold PyData.canLay0
      exact q2
    · show PyData.depth (.list (fPys fs)) ≤ _
      unfold PyData.depth
      omega
  | n, .rod _ _ _, f, _, o, _ => by
    cases f <;> exact (show False by simpa [Opn] using o).elim
  | n, .exc _ _ _, f, _, o, _ => by
    cases f <;> exact (show False by simpa [Opn] using o).elim
  | n, .scr _, f, _, o, _ => by
    cases f <;> exact (show False by simpa [Opn] using o).elim
  | 0, .rol ds, f, _, o, h => by
    cases f <;> exact (show False by simpa [Opn] using o).elim
  | n + 1, .rol ds, f, _, o, h => by
    cases f <;> first | exact (show False by simpa [Opn] using o).elim | skip
    rename_i fs
    obtain ⟨a, vs, e, t, l⟩ := h
    subst e
    obtain ⟨q1, q2, q3⟩ := dp_opns r (n := n) (ds := ds) (fs := fs) (by simpa [Opn] using o) l
    refine ⟨.lst t.sq q1, ?_, ?_⟩
    · show PyData.canLay0 (.list (fPys fs)) = true
      unfold PyData.canLay0
      exact q2
    · show PyData.depth (.list (fPys fs)) ≤ _
      unfold PyData.depth
      omega
  | 0, .ktup ds, f, _, o, h => by
    cases f <;> exact (show False by simpa [Opn] using o).elim
  | n + 1, .ktup ds, f, _, o, h => by
    cases f <;> first | exact (show False by simpa [Opn] using o).elim | skip
    rename_i fs
    obtain ⟨a, vs, e, t, l⟩ := h
    subst e
    obtain ⟨q1, q2, q3⟩ := dp_opns r (n := n) (ds := ds) (fs := fs) (by simpa [Opn] using o) l
    refine ⟨.tup (sqt_none t) q1, ?_, ?_⟩
    · show PyData.canLay0 (.tuple (fPys fs)) = true
      unfold PyData.canLay0
      exact q2
    · show PyData.depth (.tuple (fPys fs)) ≤ _
      unfold PyData.depth
      omega
theorem dp_opns (r : Rep cl K H m) : ∀ {n : Nat} {ds : List D} {fs : List F} {vs : List V}, Opns m n ds fs → IsL K H ds vs → L2.DpAll K H vs (fPys fs) ∧ PyData.canLayAll0 (fPys fs) = true ∧ PyData.depthAll (fPys fs) ≤ n + 1
  | _, [], fs, _, o, h => by
    cases fs with
    | nil =>
      rw [show _ = [] from h]
      exact ⟨.nil, rfl, Nat.zero_le _⟩
    | cons f fs => exact (show False by simpa [Opns] using o).elim
  | n, d :: ds, fs, _, o, h => by
    cases fs with
    | nil => exact (show False by simpa [Opns] using o).elim
    | cons f fs =>
      obtain ⟨v, t, e, q, l⟩ := h
      subst e
      obtain ⟨o1, o2⟩ : Opn m n d f ∧ Opns m n ds fs := by simpa [Opns] using o
      obtain ⟨a1, a2, a3⟩ := dp_opn r o1 q
      obtain ⟨b1, b2, b3⟩ := dp_opns r o2 l
      refine ⟨.cons a1 b1, ?_, ?_⟩
      · show PyData.canLayAll0 (fPy f :: fPys fs) = true
        unfold PyData.canLayAll0
        rw [a2, b2]
        rfl
      · show PyData.depthAll (fPy f :: fPys fs) ≤ _
        unfold PyData.depthAll
        omega
end
end
/-- a comparison's reading by values, as LOp's -/
def cV (r : D → D → Mem → (Bool → Prop) → Prop) : D → D → Mem → Kt → Prop := fun x y m k => r x y m fun c => k (.bl c) m
section
variable {X : Cx} {cl : Nat → Addr} {bv : Bool}
theorem S_list (a : List Nat) : (SX.S a).cps.toList = a := by simp
theorem intsOf_is {K : PySem.W.Frag} {H : Hp} : ∀ {ds : List D} {bs : List Int} {vs : List V}, intsOf ds = some bs → IsL K H ds vs → vs = bs.map V.int
  | [], _, _, e, l => by cases e; exact l
  | .int b :: r, _, _, e, l => by
    obtain ⟨v, t, e1, h, l⟩ := l
    obtain ⟨cs, e2, e3⟩ := Option.map_eq_some_iff.mp e
    subst e3 e1
    cases h
    rw [intsOf_is e2 l]
    rfl
  | .non :: _, _, _, e, _ => by cases e
  | .bl _ :: _, _, _, e, _ => by cases e
  | .str _ :: _, _, _, e, _ => by cases e
  | .tup _ :: _, _, _, e, _ => by cases e
  | .ref _ :: _, _, _, e, _ => by cases e
  | .rol _ :: _, _, _, e, _ => by cases e
  | .ktup _ :: _, _, _, e, _ => by cases e
  | .rod _ _ _ :: _, _, _, e, _ => by cases e
  | .exc _ _ _ :: _, _, _, e, _ => by cases e
  | .scr _ :: _, _, _, e, _ => by cases e
theorem lexLt_lt : ∀ a b : List Int, HT.lexLt a b = decide (a < b)
  | [], [] => by simp [HT.lexLt]
  | [], _ :: _ => by simp [HT.lexLt]
  | _ :: _, [] => by simp [HT.lexLt]
  | x :: xs, y :: ys => by
    rw [HT.lexLt_cons, lexLt_lt xs ys]
    by_cases h : x = y
    · subst h
      rw [if_pos rfl]
      simp
    · rw [if_neg h]
      simp [List.cons_lt_cons_iff, h]
theorem op_ltDl (hu : X.A.units < cLine) : OpR X (compareOp .Lt) (LOp cl X.K (cV (rCmp .lt))) := by
  intro pins s σ H v w vu wu Q I rv rw h
  obtain ⟨x, y, m, k, hx, hy, hr, ht, p⟩ := h
  cases x <;> cases y <;> try exact ht.elim
  · rename_i i j
    cases hx
    cases hy
    exact L2.op_lt pins s σ H _ _ vu wu Q I rv rw ⟨i, j, rfl, rfl, p _ _ _ _ ht rfl hr (Ext.refl H m)⟩
  · rename_i i j
    cases hx
    cases hy
    exact L2.op_lt_str pins s σ H _ _ vu wu Q I rv rw ⟨_, _, rfl, rfl, p _ _ _ _ ht rfl hr (Ext.refl H m)⟩
  · rename_i a b
    obtain ⟨p', q', e1, e2, ht⟩ := ht
    obtain ⟨ta, vs, rfl, t1, l1⟩ := hx
    obtain ⟨tb, ws, rfl, t2, l2⟩ := hy
    rw [intsOf_is e1 l1] at t1
    rw [intsOf_is e2 l2] at t2
    refine L2.op_ltT hu pins s σ H _ _ vu wu Q I rv rw ⟨ta, tb, p', q', rfl, rfl, sqt_of t1, sqt_of t2, ?_⟩
    rw [lexLt_lt]
    exact p _ _ _ _ ht rfl hr (Ext.refl H m)
theorem op_gtDl : OpR X (compareOp .Gt) (LOp cl X.K (cV (rCmp .gt))) := by
  intro pins s σ H v w vu wu Q I rv rw h
  obtain ⟨x, y, m, k, hx, hy, hr, ht, p⟩ := h
  cases x <;> cases y <;> try exact ht.elim
  · rename_i i j
    cases hx
    cases hy
    exact L2.op_gt pins s σ H _ _ vu wu Q I rv rw ⟨i, j, rfl, rfl, p _ _ _ _ ht rfl hr (Ext.refl H m)⟩
  · rename_i i j
    cases hx
    cases hy
    exact L2.op_gt_str pins s σ H _ _ vu wu Q I rv rw ⟨_, _, rfl, rfl, p _ _ _ _ ht rfl hr (Ext.refl H m)⟩
theorem op_leDl : OpR X (compareOp .LtE) (LOp cl X.K (cV (rCmp .le))) := by
  intro pins s σ H v w vu wu Q I rv rw h
  obtain ⟨x, y, m, k, hx, hy, hr, ht, p⟩ := h
  cases x <;> cases y <;> try exact ht.elim
  · rename_i i j
    cases hx
    cases hy
    exact L2.op_le pins s σ H _ _ vu wu Q I rv rw ⟨i, j, rfl, rfl, p _ _ _ _ ht rfl hr (Ext.refl H m)⟩
  · rename_i i j
    cases hx
    cases hy
    exact L2.op_le_str pins s σ H _ _ vu wu Q I rv rw ⟨_, _, rfl, rfl, p _ _ _ _ ht rfl hr (Ext.refl H m)⟩
theorem op_geDl : OpR X (compareOp .GtE) (LOp cl X.K (cV (rCmp .ge))) := by
  intro pins s σ H v w vu wu Q I rv rw h
  obtain ⟨x, y, m, k, hx, hy, hr, ht, p⟩ := h
  cases x <;> cases y <;> try exact ht.elim
  · rename_i i j
    cases hx
    cases hy
    exact L2.op_ge pins s σ H _ _ vu wu Q I rv rw ⟨i, j, rfl, rfl, p _ _ _ _ ht rfl hr (Ext.refl H m)⟩
  · rename_i i j
    cases hx
    cases hy
    exact L2.op_ge_str pins s σ H _ _ vu wu Q I rv rw ⟨_, _, rfl, rfl, p _ _ _ _ ht rfl hr (Ext.refl H m)⟩
def isNon : D → Bool
  | .non => true
  | _ => false
theorem is_cases {x y : D} {k : Bool → Prop} (h : rIs x y k) : (y = .non ∧ k (isNon x)) ∨ ∃ a b, x = .bl a ∧ y = .bl b ∧ k (decide (a = b)) := by
  cases x <;> cases y <;> first
    | exact .inl ⟨rfl, h⟩
    | exact .inr ⟨_, _, rfl, rfl, h⟩
    | exact h.elim
theorem non_dec {K : PySem.W.Frag} {H : Hp} {x : D} {v : V} (h : IsV K H x v) : decide (v = V.non) = isNon x := by
  cases x with
  | non => cases h; rfl
  | bl b => cases h; rfl
  | int i => cases h; rfl
  | str s => cases h; rfl
  | ref a => cases h; rfl
  | rod t ks vs => cases t <;> (obtain ⟨a, kl, ws, o, e, _⟩ := h; subst e; rfl)
  | exc c fn vs => obtain ⟨a, ws, e, _⟩ := h; subst e; rfl
  | scr ns => obtain ⟨a, e, _⟩ := h; subst e; rfl
  | tup ds => obtain ⟨a, vs, e, _⟩ := h; subst e; rfl
  | rol ds => obtain ⟨a, vs, e, _⟩ := h; subst e; rfl
  | ktup ds => obtain ⟨a, vs, e, _⟩ := h; subst e; rfl
theorem op_isDl : OpR X (compareOp .Is) (LOp cl X.K (cV (rCmp .is))) := by
  intro pins s σ H v w vu wu Q I rv rw h
  obtain ⟨x, y, m, k, hx, hy, hr, ht, p⟩ := h
  rcases is_cases (show rIs x y fun c => k (.bl c) m from ht) with ⟨rfl, ht2⟩ | ⟨a, b, rfl, rfl, ht2⟩
  · cases hy
    refine L2.op_isN pins s σ H _ _ vu wu Q I rv rw ⟨rfl, ?_⟩
    rw [non_dec hx]
    exact p _ _ _ _ ht2 rfl hr (Ext.refl H m)
  · cases hx
    cases hy
    exact L2.op_isBl pins s σ H _ _ vu wu Q I rv rw ⟨a, b, rfl, rfl, p _ _ _ _ ht2 rfl hr (Ext.refl H m)⟩
theorem op_isnotDl : OpR X (compareOp .IsNot) (LOp cl X.K (cV (rCmp .isnot))) := by
  intro pins s σ H v w vu wu Q I rv rw h
  obtain ⟨x, y, m, k, hx, hy, hr, ht, p⟩ := h
  rcases is_cases (show rIs x y fun c => k (.bl (!c)) m from ht) with ⟨rfl, ht2⟩ | ⟨a, b, rfl, rfl, ht2⟩
  · cases hy
    refine L2.op_notN pins s σ H _ _ vu wu Q I rv rw ⟨rfl, ?_⟩
    rw [non_dec hx]
    exact p _ _ _ _ ht2 rfl hr (Ext.refl H m)
  · cases hx
    cases hy
    exact L2.op_notBl pins s σ H _ _ vu wu Q I rv rw ⟨a, b, rfl, rfl, p _ _ _ _ ht2 rfl hr (Ext.refl H m)⟩
end
end DL

namespace DLS
open PySem PySem.SeqAt
open AutoSeq1 (wpAny_loadPart')
open MeetsSeq MeetsSeq2 MeetsSeq3 SeqRoads2
section
variable {prog : Program} {w : World}
theorem tuple_neIn (l b : Addr) (items items2 : Array Value) (n n2 : Nat) (dd dd2 : Option Addr) (sl sl2 : Array (Option Value)) (e : Nat → Bool) :
    MeetsIn prog w (Builtin.«tuple.__ne__» ⟨[.ref l, .ref b], []⟩)
      (fun A R s => s.heap.get? l = some { cls := .type "tuple", dict := dd, data := .seq items n, slots := sl } ∧ s.heap.get? b = some { cls := .type "tuple", dict := dd2, data := .seq items2 n2, slots := sl2 } ∧
        (∀ j (h1 : j < items.size) (h2 : j < items2.size), EqIn prog w A.in1 s items[j] items2[j] (e j)) ∧
        R (.ok (.ret (.bool (!((List.range (min items.size items2.size)).all e && items.size == items2.size))))) s) :=
  .of_wp fun A R s h => by
    obtain ⟨hp, g, d, tk, os⟩ := s; obtain ⟨hl, hb, he, h⟩ := h
    have f2 := AutoSeq1.sub_tuple_tuple
    have hZ : (items.toList.zip items2.toList).length = min items.size items2.size := by simp
    wp_walk using wpAny_loadPart' hl, wpAny_loadPart' hb, wpAny_forIn_list _ (fun rest b s' => b.1 = none ∧ s' = ⟨hp, g, d, tk, os⟩ ∧ ∃ i, rest = (items.toList.zip items2.toList).drop i ∧
      R (.ok (.ret (.bool (!(((List.range (min items.size items2.size)).drop i).all e && items.size == items2.size))))) ⟨hp, g, d, tk, os⟩) _
    case turn =>
      rintro ⟨y, x⟩ rest b s' ⟨hb', rfl, i, hz, hR⟩
      have hlt : i < (items.toList.zip items2.toList).length := by
        rcases Nat.lt_or_ge i (items.toList.zip items2.toList).length with h' | h'
        · exact h'
        · rw [List.drop_of_length_le h'] at hz; cases hz
      have hm : i < min items.size items2.size := hZ ▸ hlt
      have h1 : i < items.size := Nat.lt_of_lt_of_le hm (Nat.min_le_left _ _)
      have h2 : i < items2.size := Nat.lt_of_lt_of_le hm (Nat.min_le_right _ _)
      rw [List.drop_eq_getElem_cons hlt] at hz
      injection hz with hyx hrest
      have hy : y = items[i] := by have := congrArg Prod.fst hyx; simpa using this
      have hx : x = items2[i] := by have := congrArg Prod.snd hyx; simpa using this
      subst hy hx
      have hd : (List.range (min items.size items2.size)).drop i = i :: (List.range (min items.size items2.size)).drop (i + 1) := by simp [List.drop_eq_getElem_cons, hm]
      rw [hd, List.all_cons] at hR
      refine wpAny_bind (he i h1 h2 _ _ ?_)
      cases hy : e i with
      | true =>
        rw [hy] at hR
        wp_walk
        exact ⟨rfl, rfl, i + 1, hrest, by simpa using hR⟩
      | false =>
        rw [hy] at hR
        wp_walk
        exact ⟨_, rfl, by simpa using hR⟩
    case fin =>
      rintro ⟨b1, b2⟩ s' ⟨hb', rfl, i, hz, hR⟩
      simp only at hb'
      subst hb'
      have hge : min items.size items2.size ≤ i := by
        rcases Nat.lt_or_ge i (items.toList.zip items2.toList).length with h' | h'
        · rw [List.drop_eq_getElem_cons h'] at hz; cases hz
        · exact hZ ▸ h'
      rw [List.drop_of_length_le (by simpa using hge)] at hR
      wp_walk
      exact ⟨_, rfl, by simpa [Builtin.Tuple.tupleCompareSizes, bne] using hR⟩
    case h =>
      exact ⟨rfl, rfl, 0, rfl, by simpa using h⟩

end
section
variable {prog : Program} {w : World} {A : Around} {s : Shared}
theorem rcNeIn_tuples {E : Value → Shared → Prop} {l b : Addr} {items items2 : Array Value} {e : Nat → Bool} {Q : Value → Shared → Prop} (hl : s.heap.IsTuple l items) (hb : s.heap.IsTuple b items2) (hu : A.units < cLine)
    (he : ∀ j (h1 : j < items.size) (h2 : j < items2.size), EqIn prog w A.in1 s items[j] items2[j] (e j)) (h : Q (.bool (!((List.range (min items.size items2.size)).all e && items.size == items2.size))) s) :
    wpAny (model prog w) A (richCompare .NotEq (.ref l) (.ref b)) Q E s := by
  obtain ⟨⟨cls, dd, data, sl⟩, ho, hc, n, hd⟩ := id hl
  obtain ⟨⟨cls2, dd2, data2, sl2⟩, ho2, hc2, n2, hd2⟩ := id hb
  simp only at hc hd hc2 hd2
  subst hc hd hc2 hd2
  exact wpAny_richCompare_same_room (T := "tuple") (op := .NotEq) ⟨_, ho, rfl⟩ ⟨_, ho2, rfl⟩ F.slot_tuple_ne (call_meetsIn F.slot_tuple_ne ⟨_, ho, rfl⟩ F.entry_tuple_ne (F.args_tuple_ne_2 _ _) (tuple_neIn l b items items2 n n2 dd dd2 sl sl2 e)
    ⟨ho, ho2, he, show Value.bool (!((List.range (min items.size items2.size)).all e && items.size == items2.size)) ≠ Value.notImplemented ∧ Q (.bool (!((List.range (min items.size items2.size)).all e && items.size == items2.size))) s from ⟨(fun x => nomatch x), h⟩⟩) hu
end
end DLS
namespace DL
open PySem PySem.Spec PyProof.Rows
open L2 (V Hp HO SqL SqT TE TT TA TS TG TGs Cx Inv PE PT PW PA PS PSs PG PGs RelV Vals WX OpR UnR CallR IxR SlR MtR)

theorem S_eq_iff {a b : List Nat} : SX.S a = SX.S b ↔ a = b := ⟨SX.S_inj, fun h => by rw [h]⟩
theorem eqv_key {x y : D} {k l : L2.Key} (hx : keyOf x = some k) (hy : keyOf y = some l) : D.eqv x y = decide (k = l) := by
  cases x <;> cases y <;> simp only [keyOf, Option.some.injEq, reduceCtorEq] at hx hy
  · subst hx hy
    rw [L2.key_ll]
    rfl
  · subst hx hy
    rw [L2.key_lr]
    rfl
  · subst hx hy
    rw [L2.key_rl]
    rfl
  · subst hx hy
    rw [L2.key_rr]
    rename_i a b
    show (a == b) = decide (SX.S a = SX.S b)
    rw [Bool.eq_iff_iff]
    simp [S_eq_iff]
theorem eqvs_keys : ∀ {xs ys : List D} {ks ls : List L2.Key}, keysOf xs = some ks → keysOf ys = some ls → D.eqvs xs ys = decide (ks = ls)
  | [], [], _, _, hx, hy => by
    cases hx
    cases hy
    rfl
  | [], y :: ys, _, _, hx, hy => by
    cases hx
    obtain ⟨l, _, h2⟩ := Option.bind_eq_some_iff.mp hy
    obtain ⟨r, _, h3⟩ := Option.map_eq_some_iff.mp h2
    subst h3
    rfl
  | x :: xs, [], _, _, hx, hy => by
    cases hy
    obtain ⟨l, _, h2⟩ := Option.bind_eq_some_iff.mp hx
    obtain ⟨r, _, h3⟩ := Option.map_eq_some_iff.mp h2
    subst h3
    rfl
  | x :: xs, y :: ys, _, _, hx, hy => by
    obtain ⟨k, a1, h2⟩ := Option.bind_eq_some_iff.mp hx
    obtain ⟨r, a2, h3⟩ := Option.map_eq_some_iff.mp h2
    obtain ⟨l, b1, i2⟩ := Option.bind_eq_some_iff.mp hy
    obtain ⟨t, b2, i3⟩ := Option.map_eq_some_iff.mp i2
    subst h3 i3
    show (D.eqv x y && D.eqvs xs ys) = _
    rw [eqv_key a1 b1, eqvs_keys a2 b2]
    simp
theorem eqv_tkey {x y : D} {k l : List L2.Key} (hx : tkeyOf x = some k) (hy : tkeyOf y = some l) : D.eqv x y = decide (k = l) := by
  cases x <;> cases y <;> simp only [tkeyOf, reduceCtorEq] at hx hy
  exact eqvs_keys hx hy
theorem keyK_some {x : D} (h : keyK x = true) : ∃ k, keyOf x = some k := by
  cases x <;> first | exact ⟨_, rfl⟩ | cases h
theorem keysK_some : ∀ {xs : List D}, xs.all keyK = true → ∃ ks, keysOf xs = some ks
  | [], _ => ⟨[], rfl⟩
  | x :: xs, h => by
    rw [List.all_cons, Bool.and_eq_true] at h
    obtain ⟨k, e⟩ := keyK_some h.1
    obtain ⟨ks, e2⟩ := keysK_some h.2
    exact ⟨k :: ks, by unfold keysOf; rw [e, e2]; rfl⟩
theorem keyT_some {x : D} (h : keyT x = true) : ∃ k, tkeyOf x = some k := by
  cases x with
  | tup ds => exact keysK_some h
  | _ => cases h
section
variable {K : PySem.W.Frag} {H : Hp}
theorem keyV {x : D} {k : L2.Key} {v : V} (h : keyOf x = some k) (hx : IsV K H x v) : v = L2.kV k := by
  cases x <;> simp only [keyOf, Option.some.injEq, reduceCtorEq] at h
  · subst h
    exact hx
  · subst h
    exact hx
theorem keysV : ∀ {xs : List D} {ks : List L2.Key} {vs : List V}, keysOf xs = some ks → IsL K H xs vs → vs = ks.map L2.kV
  | [], _, _, h, hx => by
    cases h
    exact hx
  | x :: xs, _, _, h, hx => by
    obtain ⟨v, r, e, q, l⟩ := hx
    obtain ⟨k, a1, h2⟩ := Option.bind_eq_some_iff.mp h
    obtain ⟨ks, a2, h3⟩ := Option.map_eq_some_iff.mp h2
    subst h3 e
    rw [keyV a1 q, keysV a2 l]
    rfl
theorem isKs_get {x : D} {k : L2.Key} (hx : keyOf x = some k) : ∀ {kvs : List (D × D)} {ws : List (L2.Key × V)}, IsKs K H kvs ws →
    (L2.valV ws k).isSome = hasKey kvs x ∧ (∀ d, getKey kvs x = some d → ∃ v, L2.valV ws k = some v ∧ IsV K H d v) ∧ (getKey kvs x = none → L2.valV ws k = none)
  | [], _, h => by
    rw [show _ = [] from h]
    exact ⟨rfl, fun d e => (by cases e), fun _ => rfl⟩
  | (y, d) :: r, _, h => by
    obtain ⟨l, v, t, e, hy, hv, ht⟩ := h
    subst e
    have q := eqv_key hy hx
    obtain ⟨i1, i2, i3⟩ := isKs_get hx ht
    by_cases z : l = k
    · have q2 : D.eqv y x = true := q.trans (decide_eq_true z)
      refine ⟨?_, fun d' e => ?_, fun e => ?_⟩
      · rw [L2.valV_pos z]
        show true = ((D.eqv y x) || hasKey r x)
        rw [q2]
        rfl
      · have e' : getKey ((y, d) :: r) x = some d := by simp [getKey, List.find?_cons, q2]
        rw [e'] at e
        cases e
        exact ⟨v, L2.valV_pos z, hv⟩
      · have e' : getKey ((y, d) :: r) x = some d := by simp [getKey, List.find?_cons, q2]
        rw [e'] at e
        cases e
    · have q2 : D.eqv y x = false := q.trans (decide_eq_false z)
      have g : getKey ((y, d) :: r) x = getKey r x := by simp [getKey, List.find?_cons, q2]
      refine ⟨?_, fun d' e => ?_, fun e => ?_⟩
      · rw [L2.valV_neg z, i1]
        show hasKey r x = ((D.eqv y x) || hasKey r x)
        rw [q2]
        rfl
      · rw [g] at e
        obtain ⟨v', a, b⟩ := i2 d' e
        exact ⟨v', (L2.valV_neg z).trans a, b⟩
      · rw [g] at e
        exact (L2.valV_neg z).trans (i3 e)
theorem isTs_get {x : D} {k : List L2.Key} (hx : tkeyOf x = some k) : ∀ {kvs : List (D × D)} {ws : List (List L2.Key × V)}, IsTs K H kvs ws →
    (L2.valV ws k).isSome = hasKey kvs x ∧ (∀ d, getKey kvs x = some d → ∃ v, L2.valV ws k = some v ∧ IsV K H d v) ∧ (getKey kvs x = none → L2.valV ws k = none)
  | [], _, h => by
    rw [show _ = [] from h]
    exact ⟨rfl, fun d e => (by cases e), fun _ => rfl⟩
  | (y, d) :: r, _, h => by
    obtain ⟨l, v, t, e, hy, hv, ht⟩ := h
    subst e
    have q := eqv_tkey hy hx
    obtain ⟨i1, i2, i3⟩ := isTs_get hx ht
    by_cases z : l = k
    · have q2 : D.eqv y x = true := q.trans (decide_eq_true z)
      refine ⟨?_, fun d' e => ?_, fun e => ?_⟩
      · rw [L2.valV_pos z]
        show true = ((D.eqv y x) || hasKey r x)
        rw [q2]
        rfl
      · have e' : getKey ((y, d) :: r) x = some d := by simp [getKey, List.find?_cons, q2]
        rw [e'] at e
        cases e
        exact ⟨v, L2.valV_pos z, hv⟩
      · have e' : getKey ((y, d) :: r) x = some d := by simp [getKey, List.find?_cons, q2]
        rw [e'] at e
        cases e
    · have q2 : D.eqv y x = false := q.trans (decide_eq_false z)
      have g : getKey ((y, d) :: r) x = getKey r x := by simp [getKey, List.find?_cons, q2]
      refine ⟨?_, fun d' e => ?_, fun e => ?_⟩
      · rw [L2.valV_neg z, i1]
        show hasKey r x = ((D.eqv y x) || hasKey r x)
        rw [q2]
        rfl
      · rw [g] at e
        obtain ⟨v', a, b⟩ := i2 d' e
        exact ⟨v', (L2.valV_neg z).trans a, b⟩
      · rw [g] at e
        exact (L2.valV_neg z).trans (i3 e)
theorem isKs_len : ∀ {kvs : List (D × D)} {ws : List (L2.Key × V)}, IsKs K H kvs ws → ws.length = kvs.length
  | [], _, h => by
    rw [show _ = [] from h]
    rfl
  | (y, d) :: r, _, h => by
    obtain ⟨l, v, t, e, hy, hv, ht⟩ := h
    subst e
    exact congrArg (· + 1) (isKs_len ht)
theorem isTs_len : ∀ {kvs : List (D × D)} {ws : List (List L2.Key × V)}, IsTs K H kvs ws → ws.length = kvs.length
  | [], _, h => by
    rw [show _ = [] from h]
    rfl
  | (y, d) :: r, _, h => by
    obtain ⟨l, v, t, e, hy, hv, ht⟩ := h
    subst e
    exact congrArg (· + 1) (isTs_len ht)
theorem isKs_app : ∀ {kvs : List (D × D)} {ws : List (L2.Key × V)} {more : List (D × D)} {ms : List (L2.Key × V)}, IsKs K H kvs ws → IsKs K H more ms → IsKs K H (kvs ++ more) (ws ++ ms)
  | [], _, _, _, h, q => by
    rw [show _ = [] from h]
    exact q
  | (y, d) :: r, _, _, _, h, q => by
    obtain ⟨l, v, t, e, hy, hv, ht⟩ := h
    subst e
    exact ⟨l, v, _, rfl, hy, hv, isKs_app ht q⟩
theorem isTs_app : ∀ {kvs : List (D × D)} {ws : List (List L2.Key × V)} {more : List (D × D)} {ms : List (List L2.Key × V)}, IsTs K H kvs ws → IsTs K H more ms → IsTs K H (kvs ++ more) (ws ++ ms)
  | [], _, _, _, h, q => by
    rw [show _ = [] from h]
    exact q
  | (y, d) :: r, _, _, _, h, q => by
    obtain ⟨l, v, t, e, hy, hv, ht⟩ := h
    subst e
    exact ⟨l, v, _, rfl, hy, hv, isTs_app ht q⟩
theorem isKs_map {x d' : D} {k : L2.Key} {v' : V} (hx : keyOf x = some k) (hd : IsV K H d' v') : ∀ {kvs : List (D × D)} {ws : List (L2.Key × V)}, IsKs K H kvs ws →
    IsKs K H (kvs.map fun q => if D.eqv q.1 x then (q.1, d') else q) (ws.map fun kv => if kv.1 = k then (kv.1, v') else kv)
  | [], _, h => by
    rw [show _ = [] from h]
    rfl
  | (y, d) :: r, _, h => by
    obtain ⟨l, v, t, e, hy, hv, ht⟩ := h
    subst e
    have q := eqv_key hy hx
    have i := isKs_map hx hd ht
    rw [List.map_cons, List.map_cons]
    by_cases z : l = k
    · have q2 : D.eqv y x = true := q.trans (decide_eq_true z)
      rw [if_pos q2, if_pos z]
      exact ⟨l, v', _, rfl, hy, hd, i⟩
    · have q2 : ¬ D.eqv y x = true := by
        rw [q.trans (decide_eq_false z)]
        exact Bool.false_ne_true
      rw [if_neg q2, if_neg z]
      exact ⟨l, v, _, rfl, hy, hv, i⟩
theorem isTs_map {x d' : D} {k : List L2.Key} {v' : V} (hx : tkeyOf x = some k) (hd : IsV K H d' v') : ∀ {kvs : List (D × D)} {ws : List (List L2.Key × V)}, IsTs K H kvs ws →
    IsTs K H (kvs.map fun q => if D.eqv q.1 x then (q.1, d') else q) (ws.map fun kv => if kv.1 = k then (kv.1, v') else kv)
  | [], _, h => by
    rw [show _ = [] from h]
    rfl
  | (y, d) :: r, _, h => by
    obtain ⟨l, v, t, e, hy, hv, ht⟩ := h
    subst e
    have q := eqv_tkey hy hx
    have i := isTs_map hx hd ht
    rw [List.map_cons, List.map_cons]
    by_cases z : l = k
    · have q2 : D.eqv y x = true := q.trans (decide_eq_true z)
      rw [if_pos q2, if_pos z]
      exact ⟨l, v', _, rfl, hy, hd, i⟩
    · have q2 : ¬ D.eqv y x = true := by
        rw [q.trans (decide_eq_false z)]
        exact Bool.false_ne_true
      rw [if_neg q2, if_neg z]
      exact ⟨l, v, _, rfl, hy, hv, i⟩
theorem isKs_put {x d : D} {k : L2.Key} {v : V} {kvs : List (D × D)} {ws : List (L2.Key × V)} (hx : keyOf x = some k) (hd : IsV K H d v) (h : IsKs K H kvs ws) : IsKs K H (putKey kvs x d) (L2.putK ws k v) := by
  have e : (ws.any fun kv => decide (kv.1 = k)) = hasKey kvs x := (L2.valV_any k ws).trans (isKs_get hx h).1
  unfold putKey L2.putK
  rw [e]
  split
  · exact isKs_map hx hd h
  · exact isKs_app h ⟨k, v, [], rfl, hx, hd, rfl⟩
theorem isTs_put {x d : D} {k : List L2.Key} {v : V} {kvs : List (D × D)} {ws : List (List L2.Key × V)} (hx : tkeyOf x = some k) (hd : IsV K H d v) (h : IsTs K H kvs ws) : IsTs K H (putKey kvs x d) (L2.putK ws k v) := by
  have e : (ws.any fun kv => decide (kv.1 = k)) = hasKey kvs x := (L2.valV_any k ws).trans (isTs_get hx h).1
  unfold putKey L2.putK
  rw [e]
  split
  · exact isTs_map hx hd h
  · exact isTs_app h ⟨k, v, [], rfl, hx, hd, rfl⟩
end

section
variable {X : Cx} {cl : Nat → Addr}
theorem isKs_mem {K : PySem.W.Frag} {H : Hp} : ∀ {kvs : List (D × D)} {ws : List (L2.Key × V)}, IsKs K H kvs ws → ∀ {p : L2.Key × V}, p ∈ ws → ∃ d dd, (d, dd) ∈ kvs ∧ keyOf d = some p.1 ∧ IsV K H dd p.2
  | [], _, h, _, hp => by
    rw [show _ = [] from h] at hp
    cases hp
  | (x, d) :: r, _, ⟨k, v, t, e, q, h, z⟩, p, hp => by
    subst e
    rcases List.mem_cons.mp hp with e | e
    · subst e
      exact ⟨x, d, List.mem_cons_self .., q, h⟩
    · obtain ⟨d', dd, h1, h2, h3⟩ := isKs_mem z e
      exact ⟨d', dd, List.mem_cons_of_mem _ h1, h2, h3⟩
theorem ks_mem {K : PySem.W.Frag} {H : Hp} {kvs : List (D × D)} {ws : List (L2.Key × V)} {us : List (L2.Key × Value)} (l : IsKs K H kvs ws) (r : L2.KV ws us) {k : L2.Key} {u : Value} (h : (k, u) ∈ us) : ∃ d dd v, (d, dd) ∈ kvs ∧ keyOf d = some k ∧ IsV K H dd v ∧ RelV v u := by
  have key : ∃ p ∈ ws, p.1 = k ∧ RelV p.2 u := by
    unfold L2.KV at r
    clear l
    induction r with
    | nil => cases h
    | @cons a b as bs h1 _ ih =>
      rcases List.mem_cons.mp h with e | e
      · subst e
        exact ⟨a, List.mem_cons_self .., h1.1, h1.2⟩
      · obtain ⟨p, h3, h4⟩ := ih e
        exact ⟨p, List.mem_cons_of_mem _ h3, h4⟩
  obtain ⟨p, hp, e, rv⟩ := key
  obtain ⟨d, dd, h1, h2, h3⟩ := isKs_mem l hp
  exact ⟨d, dd, p.2, h1, by rw [h2, e], h3, rv⟩
theorem ks_val {K : PySem.W.Frag} {H : Hp} {x : D} {k : L2.Key} (hx : keyOf x = some k) {kvs : List (D × D)} {ws : List (L2.Key × V)} (l : IsKs K H kvs ws) {d : D} (g : getKey kvs x = some d) : ∃ v, L2.valV ws k = some v ∧ IsV K H d v := by
  exact (isKs_get hx l).2.1 d g
theorem flat_same {K : PySem.W.Frag} {H : Hp} {x : D} {v w : V} (f : D.flat x = true) (hv : IsV K H x v) (hw : IsV K H x w) : v = w ∧ L2.flatB v = true := by
  cases x <;> simp only [D.flat, Bool.false_eq_true] at f <;> cases hv <;> cases hw <;> exact ⟨rfl, rfl⟩
theorem tree_list {prog : Program} {w : World} {s : Shared} {n : Nat} {a b : Addr} {us ws : List Value} (ha : s.heap.IsList a us.toArray) (hb : s.heap.IsList b ws.toArray) (hl : us.length = ws.length)
    (t : ∀ j (h1 : j < us.length) (h2 : j < ws.length), PySem.W.EqTree prog w s n us[j] ws[j] true) : PySem.W.EqTree prog w s (n + 1) (.ref a) (.ref b) true := by
  by_cases e : a = b
  · rw [e]
    exact .same
  · have q := PySem.W.EqTree.lists (prog := prog) (w := w) (e := fun _ => true) e ha hb (by simpa using hl) (fun j h1 h2 => by simpa using t j (by simpa using h1) (by simpa using h2))
    rw [show ((List.range us.toArray.size).all fun _ => true) = true from List.all_eq_true.mpr fun _ _ => rfl] at q
    exact q
theorem tree_tup {prog : Program} {w : World} {s : Shared} {n : Nat} {a b : Addr} {us ws : List Value} (ha : s.heap.IsTuple a us.toArray) (hb : s.heap.IsTuple b ws.toArray) (hl : us.length = ws.length)
    (t : ∀ j (h1 : j < us.length) (h2 : j < ws.length), PySem.W.EqTree prog w s n us[j] ws[j] true) : PySem.W.EqTree prog w s (n + 1) (.ref a) (.ref b) true := by
  by_cases e : a = b
  · rw [e]
    exact .same
  · have q := PySem.W.EqTree.tuples (prog := prog) (w := w) (e := fun _ => true) e ha hb (fun j h1 h2 => by simpa using t j (by simpa using h1) (by simpa using h2))
    rw [show ((List.range (min us.toArray.size ws.toArray.size)).all fun _ => true) = true from List.all_eq_true.mpr fun _ _ => rfl, Bool.true_and] at q
    have e2 : (us.toArray.size == ws.toArray.size) = true := by simpa using hl
    rw [e2] at q
    exact q
theorem alike_tree {pins : List (Addr × Obj)} {s : Shared} {σ : L2.St} {H : Hp} {m : Mem} (I : Inv X pins σ H s) (hr : Rep cl X.K H m) : ∀ (n : Nat) (x y : D) (v w : V) (vu wu : Value), alike m n x y → IsV X.K H x v → IsV X.K H y w → RelV v vu → RelV w wu → PySem.W.EqTree X.prog X.w s n vu wu true
  | 0, _, _, _, _, _, _, h, _, _, _, _ => (show False from h).elim
  | n + 1, x, y, v, w, vu, wu, h, hx, hy, rv, rw => by
    have items : ∀ (xs ys : List D) (vs ws : List V) (us zs : List Value), IsL X.K H xs vs → IsL X.K H ys ws → Vals vs us → Vals ws zs → (∀ i a b, xs[i]? = some a → ys[i]? = some b → alike m n a b) →
        ∀ j (h1 : j < us.length) (h2 : j < zs.length), PySem.W.EqTree X.prog X.w s n us[j] zs[j] true := fun xs ys vs ws us zs lx ly r1 r2 q j h1 h2 => by
      have e1 : j < xs.length := by rw [← lx.length, r1.length]; exact h1
      have e2 : j < ys.length := by rw [← ly.length, r2.length]; exact h2
      obtain ⟨a, a1, a2⟩ := lx.get (List.getElem?_eq_getElem e1)
      obtain ⟨b, b1, b2⟩ := ly.get (List.getElem?_eq_getElem e2)
      obtain ⟨u, u1, u2⟩ := r1.get a1
      obtain ⟨z, z1, z2⟩ := r2.get b1
      have g1 : us[j] = u := by rw [List.getElem?_eq_getElem h1] at u1; exact Option.some.inj u1
      have g2 : zs[j] = z := by rw [List.getElem?_eq_getElem h2] at z1; exact Option.some.inj z1
      rw [g1, g2]
      exact alike_tree I hr n _ _ _ _ _ _ (q j _ _ (List.getElem?_eq_getElem e1) (List.getElem?_eq_getElem e2)) a2 b2 u2 z2
    rcases h with ⟨rfl, f⟩ | ⟨xs, ys, e1, e2, hl, q⟩ | ⟨xs, ys, e1, e2, hl, q⟩ | ⟨xs, ys, e1, e2, hl, q⟩
    · obtain ⟨rfl, f2⟩ := flat_same f hx hy
      exact .leaf fun A _ => L2.eqAt_same rv rw f2
    · obtain ⟨a, vs, rfl, z1, l1⟩ := lstOf_is hr e1 hx
      obtain ⟨b, ws, rfl, z2, l2⟩ := lstOf_is hr e2 hy
      cases rv
      cases rw
      obtain ⟨us, r1, p1, _⟩ := I.list z1
      obtain ⟨zs, r2, p2, _⟩ := I.list z2
      exact tree_list p1.isList p2.isList (by rw [← r1.length, ← r2.length, l1.length, l2.length]; exact hl) (items xs ys vs ws us zs l1 l2 r1 r2 q)
    · obtain ⟨a, vs, rfl, z1, l1⟩ := tupS_sq e1 hx
      obtain ⟨b, ws, rfl, z2, l2⟩ := tupS_sq e2 hy
      cases rv
      cases rw
      obtain ⟨us, r1, p1, _⟩ := I.tuple z1
      obtain ⟨zs, r2, p2, _⟩ := I.tuple z2
      exact tree_tup (show s.heap.IsTuple a us.toArray from p1) (show s.heap.IsTuple b zs.toArray from p2) (by rw [← r1.length, ← r2.length, l1.length, l2.length]; exact hl) (items xs ys vs ws us zs l1 l2 r1 r2 q)
    · obtain ⟨a, vs, rfl, z1, l1⟩ := dicK_is hr e1 hx
      obtain ⟨b, ws, rfl, z2, l2⟩ := dicK_is hr e2 hy
      cases rv
      cases rw
      obtain ⟨_, ha, us, r1, p1⟩ := L2.dk_rd I.hok z1
      obtain ⟨_, hb, zs, r2, p2⟩ := L2.dk_rd I.hok z2
      by_cases eab : a = b
      · rw [eab]
        exact .same
      have len : us.length = zs.length := by rw [← r1.length, ← r2.length, isKs_len l1, isKs_len l2]; exact hl
      have hit : ∀ k u, (k, u) ∈ us → ∃ z, valueAt zs k = some z ∧ PySem.W.EqTree X.prog X.w s n u z true := fun k u hm => by
        obtain ⟨d, dd, v1, hd, hk, hv, rv1⟩ := ks_mem l1 r1 hm
        obtain ⟨_, d2, g, al⟩ := q _ hd
        obtain ⟨v2, g1, g2⟩ := ks_val hk l2 g
        have rr : L2.RelO (some v2) (valueAt zs k) := by rw [← g1]; exact r2.val k
        obtain ⟨z, hz, rz⟩ := rr.some_of
        exact ⟨z, hz, alike_tree I hr n _ _ _ _ _ _ al hv g2 rv1 rz⟩
      have t := PySem.W.EqTree.dicts (prog := X.prog) (w := X.w) (knd := L2.mixKind X.prog X.w) (n := n) (e := fun _ => true) eab ha hb p1 p2 fun k u z hm hz => by
        obtain ⟨z', hz', t⟩ := hit k u hm
        rw [hz] at hz'
        cases hz'
        exact t
      have e : (us.length == zs.length && us.all fun p => (valueAt zs p.1).isSome && true) = true := by
        rw [len]
        simp only [BEq.rfl, Bool.true_and, Bool.and_true, List.all_eq_true]
        intro p hp
        obtain ⟨z, hz, _⟩ := hit p.1 p.2 hp
        rw [hz]
        rfl
      rw [e] at t
      exact t
/-- what is alike is equal -/
def rAl (cl : Nat → Addr) (K : PySem.W.Frag) : L2.R2 := fun v w H Q => ∃ x y m, IsV K H x v ∧ IsV K H y w ∧ Rep cl K H m ∧ alike m 92 x y ∧ Q (.bl true) H
theorem flat_plain {x : D} (f : D.flat x = true) (n : Nat) : D.plain n x = true ∧ D.eqv x x = true := by
  cases x <;> simp only [D.flat, Bool.false_eq_true] at f <;> refine ⟨?_, ?_⟩ <;> first | (cases n <;> rfl) | rfl | (cases n <;> exact f) | (simp [D.eqv])
theorem op_alike (hu : X.A.units + 94 < cLine) : OpR X (compareOp .Eq) (rAl cl X.K) := by
  intro pins s σ H v w vu wu Q I rv rw h
  obtain ⟨x, y, m, hx, hy, hr, h, q⟩ := h
  have hl62 : ∀ i a b (xs ys : List D) (vs ws : List V) (us zs : List Value), IsL X.K H xs vs → IsL X.K H ys ws → Vals vs us → Vals ws zs → xs[i]? = some a → ys[i]? = some b → alike m 91 a b → ∀ (h1 : i < us.length) (h2 : i < zs.length), PySem.W.EqTree X.prog X.w s 91 us[i] zs[i] true := fun i a b xs ys vs ws us zs lx ly r1 r2 ea eb al h1 h2 => by
    obtain ⟨a', a1, a2⟩ := lx.get ea
    obtain ⟨b', b1, b2⟩ := ly.get eb
    obtain ⟨u, u1, u2⟩ := r1.get a1
    obtain ⟨z, z1, z2⟩ := r2.get b1
    have g1 : us[i] = u := by rw [List.getElem?_eq_getElem h1] at u1; exact Option.some.inj u1
    have g2 : zs[i] = z := by rw [List.getElem?_eq_getElem h2] at z1; exact Option.some.inj z1
    rw [g1, g2]
    exact alike_tree I hr 91 _ _ _ _ _ _ al a2 b2 u2 z2
  rcases h with ⟨rfl, f⟩ | ⟨xs, ys, e1, e2, hl, q0⟩ | ⟨xs, ys, e1, e2, hl, q0⟩ | ⟨xs, ys, e1, e2, hl, q0⟩
  · obtain ⟨p1, p2⟩ := flat_plain f 60
    obtain ⟨a1, a2⟩ := lay_plain p1
    refine L2.op_eqD (by omega) pins s σ H _ _ vu wu Q I rv rw ⟨_, _, dp_plain p1 hx, dp_plain p1 hy, shaped_of ⟨a1, by omega⟩, shaped_of ⟨a1, by omega⟩, ?_⟩
    rw [eqv_toPy p1 p1, p2]
    exact q
  · obtain ⟨a, vs, rfl, z1, l1⟩ := lstOf_is hr e1 hx
    obtain ⟨b, ws, rfl, z2, l2⟩ := lstOf_is hr e2 hy
    cases rv
    cases rw
    obtain ⟨us, r1, p1, _⟩ := I.list z1
    obtain ⟨zs, r2, p2, _⟩ := I.list z2
    have len : us.length = zs.length := by rw [← r1.length, ← r2.length, l1.length, l2.length]; exact hl
    refine PySem.W.eq_listsT (e := fun _ => true) (n := 91) p1.isList p2.isList (by simpa using len) (fun j h1 h2 => ?_) (by omega) ?_
    · have h1' : j < us.length := by simpa using h1
      have h2' : j < zs.length := by simpa using h2
      have e3 : j < xs.length := by rw [← l1.length, r1.length]; exact h1'
      have e4 : j < ys.length := by rw [← l2.length, r2.length]; exact h2'
      simpa using hl62 j _ _ xs ys vs ws us zs l1 l2 r1 r2 (List.getElem?_eq_getElem e3) (List.getElem?_eq_getElem e4) (q0 j _ _ (List.getElem?_eq_getElem e3) (List.getElem?_eq_getElem e4)) h1' h2'
    · rw [show ((List.range us.toArray.size).all fun _ => true) = true from List.all_eq_true.mpr fun _ _ => rfl]
      exact ⟨.bl true, H, I, rfl, q⟩
  · obtain ⟨a, vs, rfl, z1, l1⟩ := tupS_sq e1 hx
    obtain ⟨b, ws, rfl, z2, l2⟩ := tupS_sq e2 hy
    cases rv
    cases rw
    obtain ⟨us, r1, p1, _⟩ := I.tuple z1
    obtain ⟨zs, r2, p2, _⟩ := I.tuple z2
    have len : us.length = zs.length := by rw [← r1.length, ← r2.length, l1.length, l2.length]; exact hl
    refine PySem.W.eq_tuplesT (e := fun _ => true) (n := 91) (show s.heap.IsTuple a us.toArray from p1) (show s.heap.IsTuple b zs.toArray from p2) (fun j h1 h2 => ?_) (by omega) ?_
    · have h1' : j < us.length := by simpa using h1
      have h2' : j < zs.length := by simpa using h2
      have e3 : j < xs.length := by rw [← l1.length, r1.length]; exact h1'
      have e4 : j < ys.length := by rw [← l2.length, r2.length]; exact h2'
      simpa using hl62 j _ _ xs ys vs ws us zs l1 l2 r1 r2 (List.getElem?_eq_getElem e3) (List.getElem?_eq_getElem e4) (q0 j _ _ (List.getElem?_eq_getElem e3) (List.getElem?_eq_getElem e4)) h1' h2'
    · have e5 : (us.toArray.size == zs.toArray.size) = true := by simpa using len
      rw [show ((List.range (min us.toArray.size zs.toArray.size)).all fun _ => true) = true from List.all_eq_true.mpr fun _ _ => rfl, e5]
      exact ⟨.bl true, H, I, rfl, q⟩
  · obtain ⟨a, vs, rfl, z1, l1⟩ := dicK_is hr e1 hx
    obtain ⟨b, ws, rfl, z2, l2⟩ := dicK_is hr e2 hy
    cases rv
    cases rw
    obtain ⟨_, ha, us, r1, p1⟩ := L2.dk_rd I.hok z1
    obtain ⟨_, hb, zs, r2, p2⟩ := L2.dk_rd I.hok z2
    have len : us.length = zs.length := by rw [← r1.length, ← r2.length, isKs_len l1, isKs_len l2]; exact hl
    have hit : ∀ k u, (k, u) ∈ us → ∃ z, valueAt zs k = some z ∧ PySem.W.EqTree X.prog X.w s 91 u z true := fun k u hm => by
      obtain ⟨d, dd, v1, hd, hk, hv, rv1⟩ := ks_mem l1 r1 hm
      obtain ⟨_, d2, g, al⟩ := q0 _ hd
      obtain ⟨v2, g1, g2⟩ := ks_val hk l2 g
      have rr : L2.RelO (some v2) (valueAt zs k) := by rw [← g1]; exact r2.val k
      obtain ⟨z, hz, rz⟩ := rr.some_of
      exact ⟨z, hz, alike_tree I hr 91 _ _ _ _ _ _ al hv g2 rv1 rz⟩
    refine PySem.W.eq_dictsT (knd := L2.mixKind X.prog X.w) (n := 91) (e := fun _ => true) ha hb p1 p2 (fun k u z hm hz => ?_) (by omega) ?_
    · obtain ⟨z', hz', t⟩ := hit k u hm
      rw [hz] at hz'
      cases hz'
      exact t
    · have e : (us.length == zs.length && us.all fun p => (valueAt zs p.1).isSome && true) = true := by
        rw [len]
        simp only [BEq.rfl, Bool.true_and, Bool.and_true, List.all_eq_true]
        intro p hp
        obtain ⟨z, hz, _⟩ := hit p.1 p.2 hp
        rw [hz]
        rfl
      rw [e]
      exact ⟨.bl true, H, I, rfl, q⟩
def rUn (cl : Nat → Addr) (K : PySem.W.Frag) : L2.R2 := fun v w H Q => ∃ x y m, IsV K H x v ∧ IsV K H y w ∧ Rep cl K H m ∧ alikeF m x y ∧ Q (.bl false) H
theorem op_unlike (hu : X.A.units + 64 < cLine) : OpR X (compareOp .NotEq) (rUn cl X.K) := by
  intro pins s σ H v w vu wu Q I rv rw h
  obtain ⟨x, y, m, hx, hy, hr, ⟨xs, ys, e1, e2, hl, q0⟩, q⟩ := h
  obtain ⟨a, vs, rfl, z1, l1⟩ := dicK_is hr e1 hx
  obtain ⟨b, ws, rfl, z2, l2⟩ := dicK_is hr e2 hy
  cases rv
  cases rw
  obtain ⟨_, ha, us, r1, p1⟩ := L2.dk_rd I.hok z1
  obtain ⟨_, hb, zs, r2, p2⟩ := L2.dk_rd I.hok z2
  have len : us.length = zs.length := by rw [← r1.length, ← r2.length, isKs_len l1, isKs_len l2]; exact hl
  refine PySem.W.keq_ne (knd := L2.mixKind X.prog X.w) (r := true) ha hb p1 p2 (by omega) (fun _ => L2.hits_all r2 r1 fun p hp => ?_) (L2.fin_bl I q (by simp [len]))
  obtain ⟨d, dd, hd, hk, hv⟩ := isKs_mem l1 hp
  obtain ⟨_, f, g⟩ := q0 _ hd
  obtain ⟨v2, g1, g2⟩ := ks_val hk l2 g
  obtain ⟨e3, e4⟩ := flat_same f hv g2
  exact ⟨by rw [g1, e3], e4⟩
def rUnT (cl : Nat → Addr) (K : PySem.W.Frag) : L2.R2 := fun v w H Q => ∃ x y m, IsV K H x v ∧ IsV K H y w ∧ Rep cl K H m ∧ alikeT m x y ∧ Q (.bl false) H
theorem op_unlikeT (hu : X.A.units + 94 < cLine) : OpR X (compareOp .NotEq) (rUnT cl X.K) := by
  intro pins s σ H v w vu wu Q I rv rw h
  obtain ⟨x, y, m, hx, hy, hr, ⟨xs, ys, e1, e2, hl, q0⟩, q⟩ := h
  obtain ⟨a, vs, rfl, z1, l1⟩ := tupS_sq e1 hx
  obtain ⟨b, ws, rfl, z2, l2⟩ := tupS_sq e2 hy
  cases rv
  cases rw
  obtain ⟨us, r1, p1, _⟩ := I.tuple z1
  obtain ⟨zs, r2, p2, _⟩ := I.tuple z2
  have len : us.length = zs.length := by rw [← r1.length, ← r2.length, l1.length, l2.length]; exact hl
  have tree : ∀ j (h1 : j < us.length) (h2 : j < zs.length), PySem.W.EqTree X.prog X.w s 91 us[j] zs[j] true := fun j h1 h2 => by
    have e3 : j < xs.length := by rw [← l1.length, r1.length]; exact h1
    have e4 : j < ys.length := by rw [← l2.length, r2.length]; exact h2
    obtain ⟨a', a1, a2⟩ := l1.get (List.getElem?_eq_getElem e3)
    obtain ⟨b', b1, b2⟩ := l2.get (List.getElem?_eq_getElem e4)
    obtain ⟨u, u1, u2⟩ := r1.get a1
    obtain ⟨z, z1, z2⟩ := r2.get b1
    have g1 : us[j] = u := by rw [List.getElem?_eq_getElem h1] at u1; exact Option.some.inj u1
    have g2 : zs[j] = z := by rw [List.getElem?_eq_getElem h2] at z1; exact Option.some.inj z1
    rw [g1, g2]
    exact alike_tree I hr 91 _ _ _ _ _ _ (q0 j _ _ (List.getElem?_eq_getElem e3) (List.getElem?_eq_getElem e4)) a2 b2 u2 z2
  refine DLS.rcNeIn_tuples (e := fun _ => true) (show s.heap.IsTuple a us.toArray from p1) (show s.heap.IsTuple b zs.toArray from p2) (by omega) (fun j h1 h2 => ?_) ?_
  · have h1' : j < us.length := by simpa using h1
    have h2' : j < zs.length := by simpa using h2
    have := (tree j h1' h2').at X.A.in1 (by show X.A.units + 1 + 91 < cLine; omega)
    simpa using this
  · have e5 : (us.toArray.size == zs.toArray.size) = true := by simpa using len
    rw [show ((List.range (min us.toArray.size zs.toArray.size)).all fun _ => true) = true from List.all_eq_true.mpr fun _ _ => rfl, e5]
    exact ⟨.bl false, H, I, rfl, q⟩
theorem op_eqDl (hu : X.A.units + 94 < cLine) : OpR X (compareOp .Eq) (LOp cl X.K (cV (rCmp .eq))) := by
  intro pins s σ H v w vu wu Q I rv rw h
  obtain ⟨x, y, m, k, hx, hy, hr, ht, p⟩ := h
  rcases ht with ⟨p1, p2, ht⟩ | ⟨f, g, o1, o2, ht⟩ | ⟨al, ht⟩
  · obtain ⟨a1, a2⟩ := lay_plain p1
    obtain ⟨b1, b2⟩ := lay_plain p2
    obtain ⟨as, r1⟩ := L2.Dp.reads I _ _ vu (dp_plain p1 hx) rv
    obtain ⟨bs, r2⟩ := L2.Dp.reads I _ _ wu (dp_plain p2 hy) rw
    refine SeqAt.compareEq_reads r1 r2 a1 b1 (by omega) ⟨.bl _, H, I, rfl, ?_⟩
    rw [eqv_toPy p1 p2]
    exact p _ _ _ _ ht rfl hr (Ext.refl H m)
  · obtain ⟨a0, a1, a2⟩ := dp_opn hr o1 hx
    obtain ⟨b0, b1, b2⟩ := dp_opn hr o2 hy
    obtain ⟨as, r1⟩ := L2.Dp.reads I _ _ vu a0 rv
    obtain ⟨bs, r2⟩ := L2.Dp.reads I _ _ wu b0 rw
    refine SeqAt.compareEq_reads r1 r2 a1 b1 (by omega) ⟨.bl _, H, I, rfl, ?_⟩
    rw [eqv_fPy]
    exact p _ _ _ _ ht rfl hr (Ext.refl H m)
  · exact op_alike hu pins s σ H v w vu wu _ I rv rw ⟨x, y, m, hx, hy, hr, al, p _ _ _ _ ht rfl hr (Ext.refl H m)⟩
theorem op_neDl (hu : X.A.units + 94 < cLine) : OpR X (compareOp .NotEq) (LOp cl X.K (cV (rCmp .ne))) := by
  intro pins s σ H v w vu wu Q I rv rw h
  obtain ⟨x, y, m, k, hx, hy, hr, ht, p⟩ := h
  rcases ht with ⟨p1, p2, ht⟩ | ⟨f, g, o1, o2, ht⟩ | ⟨al, ht⟩ | ⟨al, ht⟩
  · obtain ⟨a1, a2⟩ := lay_plain p1
    obtain ⟨b1, b2⟩ := lay_plain p2
    obtain ⟨as, r1⟩ := L2.Dp.reads I _ _ vu (dp_plain p1 hx) rv
    obtain ⟨bs, r2⟩ := L2.Dp.reads I _ _ wu (dp_plain p2 hy) rw
    refine SeqAt.compareNe_reads r1 r2 a1 b1 (by omega) ⟨.bl _, H, I, rfl, ?_⟩
    rw [eqv_toPy p1 p2]
    exact p _ _ _ _ ht rfl hr (Ext.refl H m)
  · obtain ⟨a0, a1, a2⟩ := dp_opn hr o1 hx
    obtain ⟨b0, b1, b2⟩ := dp_opn hr o2 hy
    obtain ⟨as, r1⟩ := L2.Dp.reads I _ _ vu a0 rv
    obtain ⟨bs, r2⟩ := L2.Dp.reads I _ _ wu b0 rw
    refine SeqAt.compareNe_reads r1 r2 a1 b1 (by omega) ⟨.bl _, H, I, rfl, ?_⟩
    rw [eqv_fPy]
    exact p _ _ _ _ ht rfl hr (Ext.refl H m)
  · exact op_unlike (by omega) pins s σ H v w vu wu _ I rv rw ⟨x, y, m, hx, hy, hr, al, p _ _ _ _ ht rfl hr (Ext.refl H m)⟩
  · exact op_unlikeT hu pins s σ H v w vu wu _ I rv rw ⟨x, y, m, hx, hy, hr, al, p _ _ _ _ ht rfl hr (Ext.refl H m)⟩
end
theorem flat_V {K : PySem.W.Frag} {H : Hp} {x : D} {v : V} (f : D.flat x = true) (h : IsV K H x v) : L2.flatV v = true := by
  cases x <;> simp only [D.flat, Bool.false_eq_true] at f <;> (cases h; rfl)
theorem eqV_D {K : PySem.W.Frag} {H : Hp} {x y : D} {v w : V} (fx : D.flat x = true) (fy : D.flat y = true) (hx : IsV K H x v) (hy : IsV K H y w) : L2.eqV v w = D.eqv x y := by
  cases x <;> simp only [D.flat, Bool.false_eq_true] at fx <;> cases y <;> simp only [D.flat, Bool.false_eq_true] at fy <;> cases hx <;> cases hy <;> first
    | rfl
    | exact S_beq _ _
theorem inV_D {K : PySem.W.Frag} {H : Hp} {x : D} {v : V} (fx : D.flat x = true) (hx : IsV K H x v) : ∀ {ds : List D} {vs : List V}, ds.all D.flat = true → IsL K H ds vs → vs.all L2.flatV = true ∧ L2.inV v vs = ds.any fun y => D.eqv y x
  | [], _, _, h => by
    rw [show _ = [] from h]
    exact ⟨rfl, rfl⟩
  | y :: ys, _, f, h => by
    obtain ⟨w, r, e, hy, l⟩ := h
    subst e
    rw [List.all_cons, Bool.and_eq_true] at f
    obtain ⟨a, b⟩ := inV_D fx hx f.2 l
    refine ⟨?_, ?_⟩
    · rw [List.all_cons, flat_V f.1 hy, a]
      rfl
    · show (L2.eqV w v || L2.inV v r) = _
      rw [b, eqV_D f.1 fx hy hx]
      rfl
theorem any_toPys {n k : Nat} {x : D} (p : D.plain n x = true) : ∀ {ds : List D}, D.plains k ds = true → ((toPys ds).any fun z => PyData.eqv z (toPy x)) = ds.any fun y => D.eqv y x
  | [], _ => rfl
  | y :: ys, q => by
    obtain ⟨q1, q2⟩ := Bool.and_eq_true_iff.mp (show (D.plain k y && D.plains k ys) = true by simpa [D.plains] using q)
    show (PyData.eqv (toPy y) (toPy x) || (toPys ys).any fun z => PyData.eqv z (toPy x)) = _
    rw [eqv_toPy q1 p, any_toPys p q2]
    rfl
/-- in: what it asks, one way or the other -/
inductive InW (cl : Nat → Addr) (K : PySem.W.Frag) (H : Hp) (m : Mem) : D → D → V → V → Bool → Prop where
  | sign (c : Nat) (t : List Nat) : InW cl K H m (.str [c]) (.str t) (.str (SX.S [c])) (.str (SX.S t)) (decide (c ∈ t))
  | seq {x y : D} {v w : V} {b : Bool} (h : ∃ p xs, w = .ref p ∧ (SqL K H p xs ∨ SqT K H p xs) ∧ L2.flatV v = true ∧ xs.all L2.flatV = true ∧ L2.inV v xs = b) : InW cl K H m x y v w b
  | data {x y : D} {v w : V} {b : Bool} (h : ∃ d ds, L2.Dp K H v d ∧ L2.Dp K H w (.list ds) ∧ SeqAt.shaped d = true ∧ SeqAt.shaped (.list ds) = true ∧ (ds.any fun z => PyData.eqv z d) = b) : InW cl K H m x y v w b
  | dict {x y : D} {v w : V} {b : Bool} (h : ∃ a o, w = .ref a ∧ L2.DGet H a v o ∧ o.isSome = b) : InW cl K H m x y v w b
theorem in_dic {cl : Nat → Addr} {K : PySem.W.Frag} {H : Hp} {m : Mem} {x y : D} {v w : V} {b : Bool} {kvs : List (D × D)} (hx : IsV K H x v) (hy : IsV K H y w) (hr : Rep cl K H m) (e : dicOf m y = some (b, kvs)) (h : (if b then keyT x else keyK x) = true) :
    ∃ a o, w = .ref a ∧ L2.DGet H a v o ∧ o.isSome = hasKey kvs x ∧ (∀ d, getKey kvs x = some d → ∃ v, o = some v ∧ IsV K H d v) ∧ (getKey kvs x = none → o = none) := by
  cases b with
  | false =>
    obtain ⟨a, ws, ew, rd, l⟩ := dicK_is hr e hy
    obtain ⟨kx, ek⟩ := keyK_some h
    obtain ⟨i1, i2, i3⟩ := isKs_get ek l
    refine ⟨a, L2.valV ws kx, ew, ?_, i1, i2, i3⟩
    rw [keyV ek hx]
    exact .inl ⟨ws, kx, rd, rfl, rfl⟩
  | true =>
    obtain ⟨a, ws, ew, rd, l⟩ := dicT_is hr e hy
    obtain ⟨kx, ek⟩ := keyT_some h
    obtain ⟨i1, i2, i3⟩ := isTs_get ek l
    cases x with
    | tup xs =>
      obtain ⟨b, vs, eb, tb, lb⟩ := hx
      have ev := keysV (show keysOf xs = some kx from ek) lb
      subst eb
      exact ⟨a, L2.valV ws kx, ew, .inr ⟨ws, kx, b, rd, rfl, by rw [tb, ev], rfl⟩, i1, i2, i3⟩
    | _ => cases h
theorem tupS_seq {m : Mem} {y : D} {ds : List D} (h : tupS y = none) (e : seqOf m y = some ds) : lstOf m y = some ds ∨ ∃ ns, y = .scr ns ∧ ds = ns.map .int := by
  unfold seqOf at e
  cases y <;> first | exact .inl e | cases h; done | (cases e; exact .inl rfl) | (cases e; exact .inr ⟨_, rfl, rfl⟩)
theorem in_cases {cl : Nat → Addr} {K : PySem.W.Frag} {H : Hp} {m : Mem} {x y : D} {v w : V} {k : Bool → Prop} (hx : IsV K H x v) (hy : IsV K H y w) (hr : Rep cl K H m) (h : rIn x y m k) : ∃ b, InW cl K H m x y v w b ∧ k b := by
  have rest : (match seqOf m y with
    | some ds => ((D.flat x = true ∧ ds.all D.flat = true) ∨ (tupS y = none ∧ D.plain 50 x = true ∧ D.plains 50 ds = true)) ∧ k (ds.any fun y => D.eqv y x)
    | none => match dicOf m y with
      | some (false, kvs) => keyK x = true ∧ k (hasKey kvs x)
      | some (true, kvs) => keyT x = true ∧ k (hasKey kvs x)
      | none => False) → ∃ b, InW cl K H m x y v w b ∧ k b := fun h => by
    cases es : seqOf m y with
    | some ds =>
      rw [es] at h
      obtain ⟨f, q⟩ := h
      obtain ⟨a, vs, e, t, l⟩ := seqOf_is hr es hy
      rcases f with ⟨f1, f2⟩ | ⟨ht, p1, p2⟩
      · obtain ⟨i1, i2⟩ := inV_D f1 hx f2 l
        exact ⟨_, .seq ⟨a, vs, e, t, flat_V f1 hx, i1, i2⟩, q⟩
      · have tl : ∃ vs, SqL K H a vs ∧ IsL K H ds vs := by
          rcases tupS_seq ht es with e1 | ⟨ns, e1, e2⟩
          · obtain ⟨a', vs', e', z, l'⟩ := lstOf_is hr e1 hy
            rw [e] at e'
            cases e'
            exact ⟨vs', z, l'⟩
          · subst e1 e2
            obtain ⟨a', e', z⟩ := hy
            rw [e] at e'
            cases e'
            exact ⟨_, z.sq, IsL.ints _⟩
        obtain ⟨vs, z, l⟩ := tl
        subst e
        obtain ⟨a1, a2⟩ := lay_plain p1
        obtain ⟨b1, b2⟩ := lay_plains p2
        refine ⟨_, .data ⟨toPy x, toPys ds, dp_plain p1 hx, .lst z (dp_plains p2 l), shaped_of ⟨a1, by omega⟩, shaped_of ⟨?_, ?_⟩, any_toPys p1 p2⟩, q⟩
        · unfold PyData.canLay0
          exact b1
        · unfold PyData.depth
          omega
    | none =>
      rw [es] at h
      cases ed : dicOf m y with
      | none =>
        rw [ed] at h
        exact h.elim
      | some q =>
        obtain ⟨b, kvs⟩ := q
        rw [ed] at h
        cases b with
        | false =>
          obtain ⟨a, o, e1, e2, e3, _⟩ := in_dic hx hy hr ed h.1
          exact ⟨_, .dict ⟨a, o, e1, e2, e3⟩, h.2⟩
        | true =>
          obtain ⟨a, o, e1, e2, e3, _⟩ := in_dic hx hy hr ed h.1
          exact ⟨_, .dict ⟨a, o, e1, e2, e3⟩, h.2⟩
  cases y with
  | str t =>
    obtain ⟨c, e, q⟩ := h
    subst e
    cases hx
    cases hy
    exact ⟨_, .sign c t, q⟩
  | _ => exact rest h
section
variable {X : Cx} {cl : Nat → Addr}
theorem op_inDl (hu : X.A.units + 65 < cLine) : OpR X (compareOp .In) (LOp cl X.K (cV (rCmp .isin))) := by
  intro pins s σ H v w vu wu Q I rv rw h
  obtain ⟨x, y, m, k, hx, hy, hr, ht, p⟩ := h
  obtain ⟨b, hb, ht⟩ := in_cases hx hy hr (show rIn x y m fun c => k (.bl c) m from ht)
  have fin : Q (.bl b) H := p _ _ _ _ ht rfl hr (Ext.refl H m)
  cases hb with
  | sign c t =>
    refine L2.op_in_sign pins s σ H _ _ vu wu Q I rv rw ⟨c, _, rfl, rfl, ?_⟩
    rw [S_list]
    exact fin
  | seq h =>
    obtain ⟨q, xs, e, hs, f1, f2, e2⟩ := h
    exact L2.op_in_seq pins s σ H _ _ vu wu Q I rv rw ⟨q, xs, e, hs, f1, f2, by rw [e2]; exact fin⟩
  | data h =>
    obtain ⟨d, ds, d1, d2, s1, s2, e2⟩ := h
    exact L2.op_inD hu pins s σ H _ _ vu wu Q I rv rw ⟨d, ds, d1, d2, s1, s2, by rw [e2]; exact fin⟩
  | dict h =>
    obtain ⟨a, o, e, g, e2⟩ := h
    subst e
    obtain rfl : wu = Value.ref a := rw
    exact L2.d_in (by omega) I g rv fun s3 I3 => ⟨.bl o.isSome, H, I3, rfl, by rw [e2]; exact fin⟩
theorem op_notinDl (hu : X.A.units + 65 < cLine) : OpR X (compareOp .NotIn) (LOp cl X.K (cV (rCmp .notin))) := by
  intro pins s σ H v w vu wu Q I rv rw h
  obtain ⟨x, y, m, k, hx, hy, hr, ht, p⟩ := h
  obtain ⟨b, hb, ht⟩ := in_cases hx hy hr (show rIn x y m fun c => k (.bl (!c)) m from ht)
  have fin : Q (.bl (!b)) H := p _ _ _ _ ht rfl hr (Ext.refl H m)
  cases hb with
  | sign c t =>
    refine L2.op_notIn_sign pins s σ H _ _ vu wu Q I rv rw ⟨c, _, rfl, rfl, ?_⟩
    rw [S_list]
    exact fin
  | seq h =>
    obtain ⟨q, xs, e, hs, f1, f2, e2⟩ := h
    exact L2.op_notIn_seq pins s σ H _ _ vu wu Q I rv rw ⟨q, xs, e, hs, f1, f2, by rw [e2]; exact fin⟩
  | data h =>
    obtain ⟨d, ds, d1, d2, s1, s2, e2⟩ := h
    exact L2.op_notInD hu pins s σ H _ _ vu wu Q I rv rw ⟨d, ds, d1, d2, s1, s2, by rw [e2]; exact fin⟩
  | dict h =>
    obtain ⟨a, o, e, g, e2⟩ := h
    subst e
    obtain rfl : wu = Value.ref a := rw
    exact L2.d_notIn (by omega) I g rv fun s3 I3 => ⟨.bl (!o.isSome), H, I3, rfl, by rw [e2]; exact fin⟩

theorem atI_is {K : PySem.W.Frag} {H : Hp} {ds : List D} {vs : List V} {i : Int} {d : D} (l : IsL K H ds vs) (h : atI ds i = some d) : ∃ v, L2.atI vs i = some v ∧ IsV K H d v := by
  obtain ⟨j, h1, h2⟩ := Option.bind_eq_some_iff.mp h
  obtain ⟨v, a, b⟩ := l.get h2
  refine ⟨v, Option.bind_eq_some_iff.mpr ⟨j, ?_, a⟩, b⟩
  rw [l.length]
  exact h1
theorem ix_D (hu : X.A.units + 1 < cLine) : IxR X (LOp cl X.K rIx) := by
  intro value slice pins s σ H v w vu wu Q I rv rw h hs
  obtain ⟨x, y, m, k, hx, hy, hr, ht, p⟩ := h
  unfold rIx at ht
  cases ec : conS x with
  | some ds =>
    rw [ec] at ht
    cases y with
    | int i =>
      obtain ⟨d, e, ht⟩ := ht
      cases hy
      obtain ⟨a, vs, ea, t, l⟩ := conS_sq ec hx
      subst ea
      obtain ⟨u, e1, e2⟩ := atI_is l e
      have fin := p _ _ _ _ ht e2 hr (Ext.refl H m)
      rcases t with t | t
      · exact L2.ix_list value slice pins s σ H _ _ vu wu Q I rv rw ⟨a, vs, i, u, rfl, rfl, t, e1, fin⟩ hs
      · exact L2.ix_tup value slice pins s σ H _ _ vu wu Q I rv rw ⟨a, vs, i, u, rfl, rfl, t, e1, fin⟩ hs
    | _ => exact ht.elim
  | none =>
    rw [ec] at ht
    cases x with
    | str z =>
      cases y with
      | int i =>
        obtain ⟨hl, c, e, ht⟩ := ht
        cases hx
        cases hy
        exact L2.ix_str value slice pins s σ H _ _ vu wu Q I rv rw ⟨_, i, c, rfl, rfl, by rw [SX.S_len]; exact big_le hl, by rw [S_list]; exact e, p _ _ _ _ ht rfl hr (Ext.refl H m)⟩ hs
      | _ => exact ht.elim
    | rod b ks vs =>
      cases b with
      | false =>
        obtain ⟨p1, d, e, ht⟩ := ht
        obtain ⟨a, o, e1, e2, _, e4, _⟩ := in_dic (x := y) hy hx hr (show dicOf m (.rod false ks vs) = some (false, ks.zip vs) from rfl) p1
        obtain ⟨u, eu, hu'⟩ := e4 d e
        subst e1 eu
        obtain rfl : vu = Value.ref a := rv
        exact PyProof.Rows.tail_any (L2.dict_typeIs I e2) PySem.F.slot_dict_getitem.lookup (L2.d_getItem hu I e2 rw fun w' s3 I3 rw' => ⟨u, H, I3, rw', p _ _ _ _ ht hu' hr (Ext.refl H m)⟩) hs
      | true =>
        obtain ⟨p1, d, e, ht⟩ := ht
        obtain ⟨a, o, e1, e2, _, e4, _⟩ := in_dic (x := y) hy hx hr (show dicOf m (.rod true ks vs) = some (true, ks.zip vs) from rfl) p1
        obtain ⟨u, eu, hu'⟩ := e4 d e
        subst e1 eu
        obtain rfl : vu = Value.ref a := rv
        exact PyProof.Rows.tail_any (L2.dict_typeIs I e2) PySem.F.slot_dict_getitem.lookup (L2.d_getItem hu I e2 rw fun w' s3 I3 rw' => ⟨u, H, I3, rw', p _ _ _ _ ht hu' hr (Ext.refl H m)⟩) hs
    | ref a =>
      cases hx
      cases em : m a with
      | none =>
        cases y <;> simp only [em] at ht
      | some o =>
        have ro := hr a o em
        cases o with
        | lst ds =>
          cases y with
          | int i =>
            simp only [em] at ht
            obtain ⟨d, e, ht⟩ := ht
            cases hy
            obtain ⟨vs, z, l⟩ := ro
            obtain ⟨u, e1, e2⟩ := atI_is l e
            exact L2.ix_list value slice pins s σ H _ _ vu wu Q I rv rw ⟨a, vs, i, u, rfl, rfl, SqL.of z, e1, p _ _ _ _ ht e2 hr (Ext.refl H m)⟩ hs
          | _ => simp only [em] at ht
        | dK kvs =>
          have ht2 : keyK y = true ∧ ∃ d, getKey kvs y = some d ∧ k d m := by
            cases y <;> (simp only [em] at ht; exact ht)
          obtain ⟨p1, d, e, ht2⟩ := ht2
          obtain ⟨ws, z, l⟩ := ro
          obtain ⟨kx, ek⟩ := keyK_some p1
          obtain ⟨_, i2, _⟩ := isKs_get (x := y) ek l
          obtain ⟨u, e1, e2⟩ := i2 d e
          have g : L2.DGet H a w (some u) := by
            rw [keyV ek hy, ← e1]
            exact L2.DGet.k z
          obtain rfl : vu = Value.ref a := rv
          exact PyProof.Rows.tail_any (L2.dict_typeIs I g) PySem.F.slot_dict_getitem.lookup (L2.d_getItem hu I g rw fun w' s3 I3 rw' => ⟨u, H, I3, rw', p _ _ _ _ ht2 e2 hr (Ext.refl H m)⟩) hs
        | dT kvs =>
          have ht2 : keyT y = true ∧ ∃ d, getKey kvs y = some d ∧ k d m := by
            cases y <;> (simp only [em] at ht; exact ht)
          obtain ⟨p1, d, e, ht2⟩ := ht2
          obtain ⟨ws, z, l⟩ := ro
          obtain ⟨kx, ek⟩ := keyT_some p1
          obtain ⟨_, i2, _⟩ := isTs_get (x := y) ek l
          obtain ⟨u, e1, e2⟩ := i2 d e
          cases y with
          | tup xs =>
            obtain ⟨b, vs, eb, tb, lb⟩ := hy
            have ev := keysV (show keysOf xs = some kx from ek) lb
            subst eb
            have g : L2.DGet H a (.ref b) (some u) := by
              rw [← e1]
              exact L2.DGet.t z (by rw [tb, ev])
            obtain rfl : vu = Value.ref a := rv
            exact PyProof.Rows.tail_any (L2.dict_typeIs I g) PySem.F.slot_dict_getitem.lookup (L2.d_getItem hu I g rw fun w' s3 I3 rw' => ⟨u, H, I3, rw', p _ _ _ _ ht2 e2 hr (Ext.refl H m)⟩) hs
          | _ => cases p1
        | ins c fs => cases y <;> simp only [em] at ht
    | non => exact ht.elim
    | bl _ => exact ht.elim
    | int _ => exact ht.elim
    | tup _ => cases ec
    | rol _ => cases ec
    | ktup _ => cases ec
    | scr _ => cases ec
    | exc _ _ _ => exact ht.elim
end
end DL

namespace DL
open PySem PySem.Spec PyProof.Rows
open L2 (V Hp HO SqL SqT TE TT TA TS TG TGs Cx Inv PE PT PW PA PS PSs PG PGs RelV Vals WX OpR UnR CallR IxR SlR MtR)

theorem cut_is {K : PySem.W.Frag} {H : Hp} {ds : List D} {vs : List V} (l : IsL K H ds vs) (lo hi : Option Int) : IsL K H (cut ds lo hi) (L2.cutV vs lo hi) := by
  have e : ∀ n d o, dSx n d o = HT.sIx n d o := fun n d o => by cases o <;> rfl
  unfold cut L2.cutV
  rw [l.length, ← e, ← e]
  exact (l.drop _).take _
theorem cut_all {α : Type} {ds : List α} {lo hi : Option Int} (h : dSx ds.length 0 lo = 0 ∧ dSx ds.length ds.length hi = ds.length) : cut ds lo hi = ds := by
  unfold cut
  rw [h.1, h.2, List.drop_zero, Nat.sub_zero, List.take_length]
/-- what a slice's reading by values asks -/
def LSl (bv : Bool) (cl : Nat → Addr) (K : PySem.W.Frag) : V → Option Int → Option Int → Hp → L2.VK → Prop := fun v lo hi H Q => ∃ x m k, IsV K H x v ∧ Rep cl K H m ∧ rSl bv x lo hi m k ∧ ∀ d m' u H', k d m' → IsV K H' d u → Rep cl K H' m' → Ext H m H' m' → Q u H'
section
variable {X : Cx} {cl : Nat → Addr} {bv : Bool}
theorem sl_D : SlR X (LSl bv cl X.K) := by
  intro pins s σ H v vv vl vu lo hi sl Q I rv hs pl pu h
  obtain ⟨x, m, k, hx, hr, ht, p⟩ := h
  cases x with
  | tup ds =>
    obtain ⟨a, vs, e, t, l⟩ := hx
    subst e
    have ec : ∀ n d o, dSx n d o = HT.sIx n d o := fun n d o => by cases o <;> rfl
    refine L2.sl_tupA pins s σ H _ vv vl vu lo hi sl Q I rv hs pl pu ⟨a, vs, rfl, sqt_of t, fun z => ?_, fun z q hq => ?_⟩
    · refine p _ _ _ _ ht ⟨a, vs, rfl, t, ?_⟩ hr (Ext.refl H m)
      rw [l.length, ← ec, ← ec] at z
      rw [cut_all z]
      exact l
    · exact p _ _ _ _ ht ⟨q, _, rfl, L2.upd_same, (cut_is l lo hi).kp (kp_new hq)⟩ (hr.hid hq) (Ext.hid hq)
  | rol ds =>
    obtain ⟨a, vs, e, t, l⟩ := hx
    subst e
    obtain ⟨T, id, h1, h2, h3⟩ := L2.sl_list pins s σ H _ vv vl vu lo hi sl (FQ Q) I rv hs pl pu ⟨a, vs, rfl, t.sq, fun q hq => newL_ok ht.or hq (cut_is l lo hi) hr (Ext.refl H m) p⟩
    exact ⟨T, id, h1, h2, thn_fz h3⟩
  | scr ns =>
    obtain ⟨a, e, t⟩ := hx
    subst e
    obtain ⟨T, id, h1, h2, h3⟩ := L2.sl_list pins s σ H _ vv vl vu lo hi sl (FQ Q) I rv hs pl pu ⟨a, _, rfl, t.sq, fun q hq => newL_ok ht.or hq (cut_is (IsL.ints ns) lo hi) hr (Ext.refl H m) p⟩
    exact ⟨T, id, h1, h2, thn_fz h3⟩
  | str z =>
    obtain ⟨hl, ht⟩ := ht
    cases hx
    refine L2.sl_str pins s σ H _ vv vl vu lo hi sl Q I rv hs pl pu ⟨_, rfl, by rw [SX.S_len]; exact big_le hl, ?_⟩
    have e : L2.cutS (SX.S z) lo hi = SX.S (cut z lo hi) := by
      have ec : ∀ n d o, dSx n d o = HT.sIx n d o := fun n d o => by cases o <;> rfl
      unfold L2.cutS cut
      rw [SX.S_len, S_list, ec, ec]
    rw [e]
    exact p _ _ _ _ ht rfl hr (Ext.refl H m)
  | ref a =>
    cases hx
    have ht' : match m a with
      | some (.lst ds) => NewLv bv m (cut ds lo hi) k
      | _ => False := ht
    cases em : m a with
    | none =>
      rw [em] at ht'
      exact ht'.elim
    | some o =>
      have ro := hr a o em
      rw [em] at ht'
      cases o with
      | lst ds =>
        obtain ⟨vs, z, l⟩ := ro
        obtain ⟨T, id, h1, h2, h3⟩ := L2.sl_list pins s σ H _ vv vl vu lo hi sl (FQ Q) I rv hs pl pu ⟨a, vs, rfl, SqL.of z, fun q hq => newL_ok ht'.or hq (cut_is l lo hi) hr (Ext.refl H m) p⟩
        exact ⟨T, id, h1, h2, thn_fz h3⟩
      | _ => exact ht'.elim
  | _ => exact ht.elim
end

theorem isEmpty_len {α β : Type} {xs : List α} {ys : List β} (h : xs.length = ys.length) : xs.isEmpty = ys.isEmpty := by
  cases xs <;> cases ys <;> first | rfl | (simp at h)
theorem tru_D {cl : Nat → Addr} {K : PySem.W.Frag} {H : Hp} {m : Mem} {x : D} {v : V} {k : Bool → Prop} (hx : IsV K H x v) (hr : Rep cl K H m) (h : rTru x m k) : ∃ b, L2.TruV K v H b ∧ k b := by
  unfold rTru at h
  cases ec : conS x with
  | some ds =>
    rw [ec] at h
    obtain ⟨a, vs, e, t, l⟩ := conS_sq ec hx
    subst e
    refine ⟨_, ?_, h⟩
    rcases t with t | t
    · exact .inl ⟨vs, t, by rw [isEmpty_len l.length]⟩
    · exact .inr (.inl ⟨vs, t, by rw [isEmpty_len l.length]⟩)
  | none =>
    rw [ec] at h
    cases x with
    | non => cases hx; exact ⟨false, rfl, h⟩
    | bl b => cases hx; exact ⟨b, rfl, h⟩
    | int i => cases hx; exact ⟨_, rfl, h⟩
    | str z =>
      cases hx
      obtain ⟨hl, h⟩ := h
      refine ⟨_, ⟨by rw [SX.S_len]; exact big_le hl, rfl⟩, ?_⟩
      rw [SX.S_len]
      cases z with
      | nil => exact h
      | cons a r => exact h
    | ref a =>
      cases hx
      cases em : m a with
      | none => simp only [em] at h
      | some o =>
        have ro := hr a o em
        simp only [em] at h
        cases o with
        | lst ds =>
          obtain ⟨vs, z, l⟩ := ro
          exact ⟨_, .inl ⟨vs, SqL.of z, rfl⟩, by rw [isEmpty_len l.length]; exact h⟩
        | dK kvs =>
          obtain ⟨ws, z, l⟩ := ro
          exact ⟨_, .inr (.inr ⟨ws, z, rfl⟩), by rw [isEmpty_len (isKs_len l)]; exact h⟩
        | dT kvs => exact h.elim
        | ins c fs => exact h.elim
    | tup _ => cases ec
    | rol _ => cases ec
    | ktup _ => cases ec
    | scr _ => cases ec
    | rod _ _ _ => exact h.elim
    | exc _ _ _ => exact h.elim

def LSet (cl : Nat → Addr) (K : PySem.W.Frag) : L2.TSet := fun o i v H Q => ∃ x y d m k, IsV K H x o ∧ IsV K H y i ∧ IsV K H d v ∧ Rep cl K H m ∧ rSet x y d m k ∧ ∀ m' H', k m' → Rep cl K H' m' → Ext H m H' m' → Q H'
section
variable {X : Cx} {cl : Nat → Addr} {bv : Bool}
theorem set_D (hu : X.A.units + 1 < cLine) : L2.PSet X (LSet cl X.K) := by
  intro pins s σ H o i v ov iv u Q I ro ri rv h
  obtain ⟨x, y, d, m, k, hx, hy, hd, hr, ht, p⟩ := h
  cases x with
  | ref a =>
    cases hx
    cases em : m a with
    | none => cases y <;> simp only [rSet, em] at ht
    | some b =>
      have rb := hr a b em
      obtain ⟨ha, za, z1, z2⟩ := hr.at em
      cases b with
      | lst ds =>
        cases y with
        | int j =>
          simp only [rSet, em] at ht
          obtain ⟨q, e, ht⟩ := ht
          cases hy
          obtain ⟨vs, z, l⟩ := rb
          refine L2.set_list pins s σ H _ _ v ov iv u Q I ro ri rv ⟨a, vs, j, q, rfl, rfl, z, by rw [l.length]; exact e, ?_⟩
          have kp : Kp H (L2.upd H a (.lst (vs.set q v))) := kp_mut z (fun _ h => nomatch h) fun _ _ h => nomatch h
          exact p _ _ ht (hr.mut em ⟨_, L2.upd_same, IsL.set (hd.kp kp) q (l.kp kp)⟩) (Ext.mut em)
        | _ => simp only [rSet, em] at ht
      | dK kvs =>
        have ht2 : keyK y = true ∧ kvs.length < big ∧ k (upd m a (.dK (putKey kvs y d))) := by
          cases y <;> (simp only [rSet, em] at ht; exact ht)
        obtain ⟨p1, hl, ht2⟩ := ht2
        obtain ⟨ws, z, l⟩ := rb
        obtain ⟨kx, ek⟩ := keyK_some p1
        have kp : Kp H (L2.upd H a (.dK (L2.putK ws kx v))) := kp_mut z (fun _ h => nomatch h) fun _ _ h => nomatch h
        obtain rfl : ov = Value.ref a := ro
        have g : L2.DPut H a i v (L2.upd H a (.dK (L2.putK ws kx v))) := by
          rw [keyV ek hy]
          exact L2.DPut.k z (Nat.lt_of_lt_of_le (by rw [isKs_len l]; exact hl) (big_le (Nat.le_refl _)))
        exact L2.d_setItem hu I g ri rv fun s' I' => ⟨_, I', p _ _ ht2 (hr.mut em ⟨_, L2.upd_same, isKs_put ek (hd.kp kp) (l.kp kp)⟩) (Ext.mut em)⟩
      | dT kvs =>
        have ht2 : keyT y = true ∧ kvs.length < big ∧ k (upd m a (.dT (putKey kvs y d))) := by
          cases y <;> (simp only [rSet, em] at ht; exact ht)
        obtain ⟨p1, hl, ht2⟩ := ht2
        obtain ⟨ws, z, l⟩ := rb
        obtain ⟨kx, ek⟩ := keyT_some p1
        cases y with
        | tup xs =>
          obtain ⟨b, vs, eb, tb, lb⟩ := hy
          have ev := keysV (show keysOf xs = some kx from ek) lb
          subst eb
          have kp : Kp H (L2.upd H a (.dT (L2.putK ws kx v))) := kp_mut z (fun _ h => nomatch h) fun _ _ h => nomatch h
          obtain rfl : ov = Value.ref a := ro
          have g : L2.DPut H a (.ref b) v (L2.upd H a (.dT (L2.putK ws kx v))) := L2.DPut.t z (by rw [tb, ev]) (Nat.lt_of_lt_of_le (by rw [isTs_len l]; exact hl) (big_le (Nat.le_refl _)))
          exact L2.d_setItem hu I g ri rv fun s' I' => ⟨_, I', p _ _ ht2 (hr.mut em ⟨_, L2.upd_same, isTs_put ek (hd.kp kp) (l.kp kp)⟩) (Ext.mut em)⟩
        | _ => cases p1
      | ins c fs => cases y <;> simp only [rSet, em] at ht
  | _ => exact ht.elim
end

/-- a call by values -/
def LCl (cl : Nat → Addr) (K : PySem.W.Frag) (r : List D → Mem → Kt → Prop) : List V → Hp → L2.VK → Prop := fun vs H Q => ∃ ds m k, IsL K H ds vs ∧ Rep cl K H m ∧ r ds m k ∧ ∀ d m' u H', k d m' → IsV K H' d u → Rep cl K H' m' → Ext H m H' m' → Q u H'
theorem isL1 {K : PySem.W.Frag} {H : Hp} {x : D} {vs : List V} (h : IsL K H [x] vs) : ∃ v, vs = [v] ∧ IsV K H x v := by
  obtain ⟨v, r, e, a, b⟩ := h
  rw [show r = [] from b] at e
  exact ⟨v, e, a⟩
theorem isL2 {K : PySem.W.Frag} {H : Hp} {x y : D} {vs : List V} (h : IsL K H [x, y] vs) : ∃ v w, vs = [v, w] ∧ IsV K H x v ∧ IsV K H y w := by
  obtain ⟨v, r, e, a, b⟩ := h
  obtain ⟨w, e2, c⟩ := isL1 b
  rw [e2] at e
  exact ⟨v, w, e, a, c⟩
theorem allBl_is {K : PySem.W.Frag} {H : Hp} : ∀ {ds : List D} {bs : List Bool} {vs : List V}, allBl ds = some bs → IsL K H ds vs → vs = bs.map V.bl
  | [], _, _, e, l => by cases e; exact l
  | .bl b :: r, _, _, e, l => by
    obtain ⟨v, t, e1, h, l⟩ := l
    obtain ⟨cs, e2, e3⟩ := Option.map_eq_some_iff.mp e
    subst e3 e1
    cases h
    rw [allBl_is e2 l]
    rfl
  | .non :: _, _, _, e, _ => by cases e
  | .int _ :: _, _, _, e, _ => by cases e
  | .str _ :: _, _, _, e, _ => by cases e
  | .tup _ :: _, _, _, e, _ => by cases e
  | .ref _ :: _, _, _, e, _ => by cases e
  | .rol _ :: _, _, _, e, _ => by cases e
  | .ktup _ :: _, _, _, e, _ => by cases e
theorem allInt_is {K : PySem.W.Frag} {H : Hp} : ∀ {ds : List D} {bs : List Int} {vs : List V}, allInt ds = some bs → IsL K H ds vs → vs = bs.map V.int
  | [], _, _, e, l => by cases e; exact l
  | .int b :: r, _, _, e, l => by
    obtain ⟨v, t, e1, h, l⟩ := l
    obtain ⟨cs, e2, e3⟩ := Option.map_eq_some_iff.mp e
    subst e3 e1
    cases h
    rw [allInt_is e2 l]
    rfl
  | .non :: _, _, _, e, _ => by cases e
  | .bl _ :: _, _, _, e, _ => by cases e
  | .str _ :: _, _, _, e, _ => by cases e
  | .tup _ :: _, _, _, e, _ => by cases e
  | .ref _ :: _, _, _, e, _ => by cases e
  | .rol _ :: _, _, _, e, _ => by cases e
  | .ktup _ :: _, _, _, e, _ => by cases e
theorem allStr_is {K : PySem.W.Frag} {H : Hp} : ∀ {ds : List D} {bs : List (List Nat)} {vs : List V}, allStr ds = some bs → IsL K H ds vs → vs = (bs.map SX.S).map V.str
  | [], _, _, e, l => by cases e; exact l
  | .str b :: r, _, _, e, l => by
    obtain ⟨v, t, e1, h, l⟩ := l
    obtain ⟨cs, e2, e3⟩ := Option.map_eq_some_iff.mp e
    subst e3 e1
    cases h
    rw [allStr_is e2 l]
    rfl
  | .non :: _, _, _, e, _ => by cases e
  | .bl _ :: _, _, _, e, _ => by cases e
  | .int _ :: _, _, _, e, _ => by cases e
  | .tup _ :: _, _, _, e, _ => by cases e
  | .ref _ :: _, _, _, e, _ => by cases e
  | .rol _ :: _, _, _, e, _ => by cases e
  | .ktup _ :: _, _, _, e, _ => by cases e
theorem digN_numL (n : Nat) : TL.numL n = digN n := by
  induction n using Nat.strongRecOn with
  | _ n ih =>
    unfold digN
    by_cases h : n < 10
    · rw [if_pos h, TL.numL_lt h]
    · rw [if_neg h, TL.numL_step (by omega), ih (n / 10) (by omega)]
theorem str_dig {i : Int} (h : 0 ≤ i) : (toString i : Str) = SX.S (digN i.toNat) := by
  have e : i = ((i.toNat : Nat) : Int) := by omega
  rw [← digN_numL, ← TL.tl_num, ← e]
section
variable {X : Cx} {cl : Nat → Addr} {bv : Bool}
theorem len_D : CallR X (.builtin "len") (LCl cl X.K (rBlt bv .len)) := by
  intro pins s σ H vs us Q I r h
  obtain ⟨ds, m, k, hl, hr, ht, p⟩ := h
  rcases ds with _ | ⟨x, _ | ⟨y, r2⟩⟩
  · exact ht.elim
  · obtain ⟨v, e, hx⟩ := isL1 hl
    subst e
    unfold rBlt at ht
    cases ec : conS x with
    | some ds =>
      simp only [ec] at ht
      obtain ⟨a, vs, e, t, l⟩ := conS_sq ec hx
      subst e
      refine L2.call_len_seq pins s σ H _ us Q I r ⟨a, vs, rfl, t, ?_⟩
      rw [l.length]
      exact p _ _ _ _ ht rfl hr (Ext.refl H m)
    | none =>
      simp only [ec] at ht
      cases x with
      | str z =>
        obtain ⟨h1, ht⟩ := ht
        cases hx
        refine L2.call_len_str pins s σ H _ us Q I r ⟨_, rfl, by rw [SX.S_len]; exact big_le h1, ?_⟩
        rw [SX.S_len]
        exact p _ _ _ _ ht rfl hr (Ext.refl H m)
      | rod b ks vs =>
        obtain ⟨u, eu, ru⟩ := L2.vals1 r
        subst eu
        cases b with
        | false =>
          obtain ⟨a, ws, e1, rd, l⟩ := dicK_is hr (show dicOf m (.rod false ks vs) = some (false, ks.zip vs) from rfl) hx
          subst e1
          cases ru
          refine L2.d_len I rd fun t s' I' => ⟨.int ws.length, H, I', ⟨t, rfl⟩, ?_⟩
          rw [isKs_len l]
          exact p _ _ _ _ ht rfl hr (Ext.refl H m)
        | true =>
          obtain ⟨a, ws, e1, rd, l⟩ := dicT_is hr (show dicOf m (.rod true ks vs) = some (true, ks.zip vs) from rfl) hx
          subst e1
          cases ru
          obtain ⟨z, hd, ww, rel, dd⟩ := L2.dt_rd I.hok rd
          have hl' : ws.length = ww.length := Paired.length rel
          refine PySem.call_len_dictH hd dd (by rw [← hl']; rw [sizeLine_eq] at z; omega) ?_
          rw [← hl']
          refine ⟨.int ws.length, H, I.tok _, ⟨_, rfl⟩, ?_⟩
          rw [isTs_len l]
          exact p _ _ _ _ ht rfl hr (Ext.refl H m)
      | exc _ _ _ => exact ht.elim
      | scr _ => cases ec
      | ref a =>
        cases hx
        cases em : m a with
        | none => simp only [em] at ht
        | some o =>
          have ro := hr a o em
          simp only [em] at ht
          cases o with
          | lst ds =>
            obtain ⟨vs, z, l⟩ := ro
            refine L2.call_len_seq pins s σ H _ us Q I r ⟨a, vs, rfl, .inl (SqL.of z), ?_⟩
            rw [l.length]
            exact p _ _ _ _ ht rfl hr (Ext.refl H m)
          | dK kvs =>
            obtain ⟨ws, z, l⟩ := ro
            refine L2.call_lenD pins s σ H _ us Q I r ⟨a, ws, rfl, z, ?_⟩
            rw [isKs_len l]
            exact p _ _ _ _ ht rfl hr (Ext.refl H m)
          | dT kvs =>
            obtain ⟨ws, z, l⟩ := ro
            refine L2.call_len_dT pins s σ H _ us Q I r ⟨a, ws, rfl, z, ?_⟩
            rw [isTs_len l]
            exact p _ _ _ _ ht rfl hr (Ext.refl H m)
          | ins c fs => exact ht.elim
      | non => exact ht.elim
      | bl _ => exact ht.elim
      | int _ => exact ht.elim
      | tup _ => cases ec
      | rol _ => cases ec
      | ktup _ => cases ec
  · exact ht.elim
theorem int_D : CallR X (.type "int") (LCl cl X.K (rBlt bv .int)) := by
  intro pins s σ H vs us Q I r h
  obtain ⟨ds, m, k, hl, hr, ht, p⟩ := h
  rcases ds with _ | ⟨x, _ | ⟨y, r2⟩⟩
  · exact ht.elim
  · obtain ⟨v, e, hx⟩ := isL1 hl
    subst e
    cases x <;> first | exact ht.elim | skip
    · cases hx
      exact L2.call_int1 pins s σ H _ us Q I r (.inr ⟨_, rfl, p _ _ _ _ ht rfl hr (Ext.refl H m)⟩)
    · cases hx
      exact L2.call_int1 pins s σ H _ us Q I r (.inl ⟨_, rfl, p _ _ _ _ ht rfl hr (Ext.refl H m)⟩)
  · cases x <;> exact ht.elim
theorem str_D : CallR X (.type "str") (LCl cl X.K (rBlt bv .str)) := by
  intro pins s σ H vs us Q I r h
  obtain ⟨ds, m, k, hl, hr, ht, p⟩ := h
  rcases ds with _ | ⟨x, _ | ⟨y, r2⟩⟩
  · exact ht.elim
  · obtain ⟨v, e, hx⟩ := isL1 hl
    subst e
    cases x <;> first | exact ht.elim | skip
    rotate_left
    · cases hx
      exact SkE.call_str_str pins s σ H _ us Q I r ⟨_, rfl, p _ _ _ _ ht rfl hr (Ext.refl H m)⟩
    cases hx
    obtain ⟨⟨h0, h1⟩, ht⟩ := ht
    refine L2.call_str_int pins s σ H _ us Q I r ⟨_, rfl, ?_, ?_⟩
    · have e : (2 : Int) ^ 1900 = ((2 ^ 1900 : Nat) : Int) := by rw [Int.natCast_pow]; rfl
      rw [e] at h1
      rename_i i
      have h2 : i.natAbs < 2 ^ 1900 := by omega
      have h3 := PySem.Flt.log2_lt_of (show 0 < 1900 by decide) h2
      omega
    · rw [str_dig h0]
      exact p _ _ _ _ ht rfl hr (Ext.refl H m)
  · cases x <;> exact ht.elim
theorem isKs_keys {K : PySem.W.Frag} {H : Hp} : ∀ {kvs : List (D × D)} {ws : List (L2.Key × V)}, IsKs K H kvs ws → IsL K H (kvs.map (·.1)) (ws.map fun kv => L2.kV kv.1)
  | [], _, h => by
    rw [show _ = [] from h]
    rfl
  | (x, d) :: r, _, ⟨k, v, t, e, q, h, z⟩ => by
    subst e
    refine ⟨_, _, rfl, ?_, isKs_keys z⟩
    cases x <;> simp only [keyOf, Option.some.injEq, reduceCtorEq] at q <;> (subst q; rfl)
theorem list_D (hc : X.calm = true) : CallR X (.type "list") (LCl cl X.K (rBlt bv .list)) := by
  intro pins s σ H vs us Q I r h
  obtain ⟨ds, m, k, hl, hr, ht, p⟩ := h
  rcases ds with _ | ⟨x, _ | ⟨y, r2⟩⟩
  · exact ht.elim
  · obtain ⟨v, e, hx⟩ := isL1 hl
    subst e
    rcases ht with ⟨ds, e, ht⟩ | ⟨kvs, e, ht⟩
    · obtain ⟨a, vs, e1, t, l⟩ := seqOf_is hr e hx
      subst e1
      exact thn_fz (L2.call_list_of pins s σ H _ us (FQ Q) I r ⟨a, vs, rfl, t, fun q hq => newL_ok ht.or hq l hr (Ext.refl H m) p⟩)
    · obtain ⟨a, ws, e1, rd, l⟩ := dicK_is hr e hx
      subst e1
      exact thn_fz (L2.call_listD hc pins s σ H _ us (FQ Q) I r ⟨a, ws, rfl, rd, fun q hq => newL_ok ht.or hq (isKs_keys l) hr (Ext.refl H m) p⟩)
  · exact ht.elim
theorem tuple_D : CallR X (.type "tuple") (LCl cl X.K (rBlt bv .tuple)) := by
  intro pins s σ H vs us Q I r h
  obtain ⟨ds, m, k, hl, hr, ht, p⟩ := h
  rcases ds with _ | ⟨x, _ | ⟨y, r2⟩⟩
  · exact ht.elim
  · obtain ⟨v, e2, hx⟩ := isL1 hl
    subst e2
    obtain ⟨es, e | e, ht⟩ := ht
    · obtain ⟨a, vs, e1, z, l⟩ := lstOf_is hr e hx
      subst e1
      exact L2.call_tuple_of pins s σ H _ us Q I r ⟨a, vs, rfl, .inl ⟨z, fun q hq => p _ _ _ _ ht ⟨q, vs, rfl, L2.upd_same, l.kp (kp_new hq)⟩ (hr.hid hq) (Ext.hid hq)⟩⟩
    · subst e
      obtain ⟨a, vs, e1, z, l⟩ := hx
      subst e1
      exact L2.call_tuple_of pins s σ H _ us Q I r ⟨a, vs, rfl, .inr ⟨sqt_of z, p _ _ _ _ ht ⟨a, vs, rfl, z, l⟩ hr (Ext.refl H m)⟩⟩
  · exact ht.elim
theorem dict_D : CallR X (.type "dict") (LCl cl X.K (rBlt bv .dict)) := by
  intro pins s σ H vs us Q I r h
  obtain ⟨ds, m, k, hl, hr, ht, p⟩ := h
  rcases ds with _ | ⟨x, _ | ⟨y, r2⟩⟩
  · exact ht.elim
  · obtain ⟨v, e2, hx⟩ := isL1 hl
    subst e2
    obtain ⟨kvs, e, ht⟩ := ht
    obtain ⟨a, ws, e1, rd, l⟩ := dicK_is hr e hx
    subst e1
    exact thn_fz (L2.call_dictD pins s σ H _ us (FQ Q) I r ⟨a, ws, rfl, rd, fun q hq => newD_ok ht.or hq l hr (Ext.refl H m) p⟩)
  · exact ht.elim
theorem allStrs {K : PySem.W.Frag} {H : Hp} : ∀ {ds : List D} {ss : List (List Nat)}, allStr ds = some ss → ds = ss.map D.str
  | [], ss, h => by
    cases h
    rfl
  | d :: ds, ss, h => by
    cases d <;> simp only [allStr, reduceCtorEq] at h
    obtain ⟨r, h1, h2⟩ := Option.map_eq_some_iff.mp h
    subst h2
    rw [allStrs (K := K) (H := H) h1]
    rfl
theorem strs_L {K : PySem.W.Frag} {H : Hp} : ∀ {ts : List (List Nat)}, IsL K H (ts.map D.str) ((ts.map SX.S).map V.str)
  | [] => rfl
  | _ :: _ => ⟨_, _, rfl, rfl, strs_L⟩
theorem ltCps_lt : ∀ a b : List Nat, ltCps a b = strLt a b
  | [], [] => by simp [ltCps, strLt]
  | [], _ :: _ => by simp [ltCps, strLt]
  | _ :: _, [] => by simp [ltCps, strLt]
  | a :: r, b :: t => by
    rw [ltCps, ltCps_lt r t]
    unfold strLt
    rw [Bool.eq_iff_iff]
    simp [List.cons_lt_cons_iff]
theorem strLe_trans {a b c : List Nat} (h : strLt b a = false) (h' : strLt c b = false) : strLt c a = false := by
  unfold strLt at *
  simp only [decide_eq_false_iff_not, List.not_lt] at *
  exact List.le_trans h h'
theorem rising_pw : ∀ {ts : List (List Nat)} {x : List Nat}, PyProof.Rows.risingS (SX.S x) (ts.map SX.S) = true → (x :: ts).Pairwise fun a b => strLt b a = false
  | [], x, _ => List.pairwise_singleton _ _
  | y :: ts, x, h => by
    have h2 : (!ltCps y x && PyProof.Rows.risingS (SX.S y) (ts.map SX.S)) = true := by
      have := h
      rw [List.map_cons, PyProof.Rows.risingS, S_list, S_list] at this
      exact this
    obtain ⟨h3, h4⟩ := Bool.and_eq_true_iff.mp h2
    rw [ltCps_lt] at h3
    have ih := rising_pw h4
    refine List.pairwise_cons.mpr ⟨fun z hz => ?_, ih⟩
    have h5 : strLt y x = false := by simpa using h3
    rcases List.mem_cons.mp hz with e | e
    · rw [e]
      exact h5
    · exact strLe_trans h5 ((List.pairwise_cons.mp ih).1 z e)
/-- a text list told in order -/
theorem sorted_back {ss : List (List Nat)} {ys : List Str} (hp : ys.Perm (ss.map SX.S)) (hs : PyProof.Rows.sortedS ys = true) : ∃ ts : List (List Nat), ys = ts.map SX.S ∧ ts.Perm ss ∧ ts.Pairwise fun a b => strLt b a = false := by
  have e1 : (ys.map fun y => y.cps.toList).map SX.S = ys := by
    rw [List.map_map]
    conv => rhs; rw [← List.map_id ys]
    exact List.map_congr_left fun y _ => SX.S_tl y
  have e2 : (ss.map SX.S).map (fun y => y.cps.toList) = ss := by
    rw [List.map_map]
    conv => rhs; rw [← List.map_id ss]
    exact List.map_congr_left fun y _ => S_list y
  refine ⟨ys.map fun y => y.cps.toList, e1.symm, by have := hp.map fun y => y.cps.toList; rw [e2] at this; exact this, ?_⟩
  rw [← e1] at hs
  generalize (ys.map fun y => y.cps.toList) = ts at hs
  cases ts with
  | nil => exact List.Pairwise.nil
  | cons x ts => exact rising_pw hs
theorem isKs_strs {K : PySem.W.Frag} {H : Hp} : ∀ {kvs : List (D × D)} {ws : List (L2.Key × V)} {ss : List (List Nat)}, IsKs K H kvs ws → kvs.map (·.1) = ss.map D.str → ws.map (·.1) = (ss.map SX.S).map Sum.inr
  | [], _, ss, h, e => by
    rw [show _ = [] from h]
    cases ss with
    | nil => rfl
    | cons _ _ => cases e
  | (x, d) :: r, _, ss, ⟨k, v, t, e1, q, h, z⟩, e => by
    cases ss with
    | nil => cases e
    | cons s ss =>
      simp only [List.map_cons, List.cons.injEq] at e
      obtain ⟨ex, er⟩ := e
      subst e1 ex
      cases q
      rw [List.map_cons, isKs_strs z er]
      rfl
theorem each_of {K : PySem.W.Frag} {H : Hp} : ∀ {ps : List (List Int)} {xs : List V} {us : List Value}, IsL K H (ps.map encI) xs → L2.Vals xs us → PySem.W.EachIs (fun u p => ∃ v, L2.RelV v u ∧ IsV K H (encI p) v) us ps
  | [], _, us, h, r => by
    rw [show _ = [] from h] at r
    rw [r.zero]
    exact .nil
  | p :: ps, _, us, ⟨v, r, e, q, l⟩, rv => by
    subst e
    cases rv with
    | cons h1 h2 => exact .cons ⟨v, h1, q⟩ (each_of l h2)
theorem each_back {K : PySem.W.Frag} {H : Hp} : ∀ {ps : List (List Int)} {us : List Value}, PySem.W.EachIs (fun u p => ∃ v, L2.RelV v u ∧ IsV K H (encI p) v) us ps → ∃ xs, L2.Vals xs us ∧ IsL K H (ps.map encI) xs
  | _, _, .nil => ⟨[], .nil, rfl⟩
  | _, _, .cons h t => by
    obtain ⟨v, h1, h2⟩ := h
    obtain ⟨xs, t1, t2⟩ := each_back t
    exact ⟨v :: xs, .cons h1 t1, ⟨v, xs, rfl, h2, t2⟩⟩
def pyI (p : List Int) : PyData := .tuple (p.map .int)
theorem toPy_I (p : List Int) : toPy (encI p) = pyI p := by
  show PyData.tuple (toPys (p.map D.int)) = PyData.tuple (p.map .int)
  congr 1
  induction p with
  | nil => rfl
  | cons a l ih =>
    show toPy (.int a) :: toPys (l.map D.int) = _
    rw [ih]
    rfl
theorem plain_I (p : List Int) : D.plain 1 (encI p) = true := by
  show D.plains 0 (p.map D.int) = true
  induction p with
  | nil => rfl
  | cons a l ih =>
    show (D.plain 0 (.int a) && D.plains 0 (l.map D.int)) = true
    rw [ih]
    rfl
theorem le_I : PySem.W.dataLe false pyI = leI := by
  funext p q
  show (!PySem.W.dataLt (pyI q) (pyI p)) = _
  show (!PySem.W.rowLt (q.map .int) (p.map .int)) = _
  rw [PySem.W.dataLt_ints]
  unfold leI
  by_cases h : q < p
  · have h' : ¬ p ≤ q := fun r => List.not_lt.mpr r h
    simp [h, h']
  · have h' : p ≤ q := List.not_lt.mp h
    simp [h, h']
/-- sorted(xs), xs a list of tuples of ints -/
def rSortedT (K : PySem.W.Frag) : List V → Hp → L2.VK → Prop := fun vs H Q => ∃ (a : Addr) (xs : List V) (ps : List (List Int)), vs = [V.ref a] ∧ L2.SqL K H a xs ∧ IsL K H (ps.map encI) xs ∧ (∀ p ∈ ps, p ≠ []) ∧
  ∀ ys q, IsL K H ((ps.mergeSort leI).map encI) ys → H q = none → Q (.ref q) (L2.upd H q (.lst ys))
theorem cr_sortedT (hu : X.A.units + 65 < cLine) : CallR X (.builtin "sorted") (rSortedT X.K) := by
  intro pins s σ H vs us Q I r h
  obtain ⟨a, xs, ps, rfl, hs, hl, hne, q⟩ := h
  obtain ⟨its, rv, hl', hz⟩ := I.list hs
  obtain ⟨u, rfl, ru⟩ := L2.vals1 r
  obtain rfl : u = Value.ref a := ru
  have ex : ps.length = xs.length := by rw [hl.length, List.length_map]
  have e := each_of hl rv
  refine PySem.W.sorted_data (bs := ps) (enc := pyI) (R := fun u p => ∃ v, L2.RelV v u ∧ IsV X.K H (encI p) v) hl'.isList e (e.mono fun u p h => ?_) (fun d hd d' hd' => ?_) (.inl fun d hd => ?_) (by rw [ex]; exact hz) (fun p hp => ?_) fun out hlen eo => ?_
  · obtain ⟨v, h1, h2⟩ := h
    have h3 := L2.Dp.reads I _ v u (dp_plain (plain_I p) h2) h1
    rw [toPy_I] at h3
    exact h3
  · obtain ⟨p, _, rfl⟩ := List.mem_map.mp hd
    obtain ⟨p', _, rfl⟩ := List.mem_map.mp hd'
    exact PySem.W.alike_ints p p'
  · obtain ⟨p, hp, rfl⟩ := List.mem_map.mp hd
    cases p with
    | nil => exact absurd rfl (hne _ hp)
    | cons x r => exact ⟨_, _, rfl⟩
  · have h1 : (pyI p).depth = 1 := by
      show PyData.depthAll (p.map .int) + 1 = 1
      rw [PySem.W.depth_ints]
    omega
  · rw [le_I] at eo
    obtain ⟨ys, h1, h2⟩ := each_back eo
    obtain ⟨n, hn⟩ := PyProof.Rows.sortedAll_at s.heap its.toArray.toList out.toArray
    refine ⟨.ref (s.heap.objs.size + 1), L2.upd H (s.heap.objs.size + 1) (.lst ys), I.laid (t' := s.toks) (fun b o e => PyProof.Rows.sortedAll_old e) (Nat.le_succ _) ⟨?_, out, n, h1, hn⟩, rfl, q _ _ h2 (I.hok.fresh (Nat.le_succ _))⟩
    rw [h2.length, List.length_map, List.length_mergeSort, ex]
    exact hz
theorem sorted_D (hc : X.calm = true) (hu : X.A.units + 65 < cLine) : CallR X (.builtin "sorted") (LCl cl X.K (rBlt bv .sorted)) := by
  intro pins s σ H vs us Q I r h
  obtain ⟨ds, m, k, hl, hr, ht, p⟩ := h
  rcases ds with _ | ⟨x, _ | ⟨y, r2⟩⟩
  · exact ht.elim
  · obtain ⟨v, e, hx⟩ := isL1 hl
    subst e
    rcases ht with ⟨ds, ss, hd, hs, h64, ht⟩ | ⟨ps, ed, hne, hz, ht⟩
    rotate_left
    · obtain ⟨a, vs, e1, z, l⟩ := lstOf_is hr ed hx
      subst e1
      exact thn_fz (cr_sortedT hu pins s σ H _ us (FQ Q) I r ⟨a, vs, ps, rfl, z, l, hne, fun ys q hy hq => newL_ok ht.or hq hy hr (Ext.refl H m) p⟩)
    have es := allStrs (K := X.K) (H := H) hs
    rcases hd with e | ⟨kvs, e, ek⟩
    · obtain ⟨a, vs, e1, z, l⟩ := lstOf_is hr e hx
      subst e1
      rw [allStr_is hs l] at z
      refine thn_fz (L2.cr_sortedS pins s σ H _ us (FQ Q) I r ⟨a, ss.map SX.S, rfl, z, by rw [List.length_map]; exact h64, fun ys q hp hy hq => ?_⟩)
      obtain ⟨ts, rfl, h1, h2⟩ := sorted_back hp hy
      exact newL_ok (ht ts h1 h2).or hq strs_L hr (Ext.refl H m) p
    · obtain ⟨a, ws, e1, rd, l⟩ := dicK_is hr e hx
      subst e1
      have kk : ws.map (·.1) = (ss.map SX.S).map Sum.inr := isKs_strs l (by rw [← ek, es])
      refine thn_fz (L2.call_sortedD hc pins s σ H _ us (FQ Q) I r ⟨a, ws, ss.map SX.S, rfl, rd, kk, by rw [List.length_map]; exact h64, fun ys q hp hy hq => ?_⟩)
      obtain ⟨ts, rfl, h1, h2⟩ := sorted_back hp hy
      exact newL_ok (ht ts h1 h2).or hq strs_L hr (Ext.refl H m) p
  · exact ht.elim
theorem all_D (hc : X.calm = true) : CallR X (.builtin "all") (LCl cl X.K (rBlt bv .all)) := by
  intro pins s σ H vs us Q I r h
  obtain ⟨ds, m, k, hl, hr, ht, p⟩ := h
  rcases ds with _ | ⟨x, _ | ⟨y, r2⟩⟩
  · exact ht.elim
  · obtain ⟨v, e, hx⟩ := isL1 hl
    subst e
    obtain ⟨ds, bs, e, eb, ht⟩ := ht
    obtain ⟨a, vs, e1, z, l⟩ := lstOf_is hr e hx
    subst e1
    rw [allBl_is eb l] at z
    exact L2.cr_all hc pins s σ H _ us Q I r ⟨a, bs, rfl, z, p _ _ _ _ ht rfl hr (Ext.refl H m)⟩
  · exact ht.elim
theorem any_D (hc : X.calm = true) : CallR X (.builtin "any") (LCl cl X.K (rBlt bv .any)) := by
  intro pins s σ H vs us Q I r h
  obtain ⟨ds, m, k, hl, hr, ht, p⟩ := h
  rcases ds with _ | ⟨x, _ | ⟨y, r2⟩⟩
  · exact ht.elim
  · obtain ⟨v, e, hx⟩ := isL1 hl
    subst e
    obtain ⟨ds, bs, e, eb, ht⟩ := ht
    obtain ⟨a, vs, e1, z, l⟩ := lstOf_is hr e hx
    subst e1
    rw [allBl_is eb l] at z
    exact L2.cr_any hc pins s σ H _ us Q I r ⟨a, bs, rfl, z, p _ _ _ _ ht rfl hr (Ext.refl H m)⟩
  · exact ht.elim
theorem sum_D (hc : X.calm = true) : CallR X (.builtin "sum") (LCl cl X.K (rBlt bv .sum)) := by
  intro pins s σ H vs us Q I r h
  obtain ⟨ds, m, k, hl, hr, ht, p⟩ := h
  rcases ds with _ | ⟨x, _ | ⟨y, r2⟩⟩
  · exact ht.elim
  · obtain ⟨v, e, hx⟩ := isL1 hl
    subst e
    obtain ⟨ds, bs, e, eb, ht⟩ := ht
    obtain ⟨a, vs, e1, z, l⟩ := lstOf_is hr e hx
    subst e1
    rw [allInt_is eb l] at z
    exact L2.cr_sum hc pins s σ H _ us Q I r ⟨a, bs, rfl, z, p _ _ _ _ ht rfl hr (Ext.refl H m)⟩
  · exact ht.elim
theorem max2_D (hc : X.calm = true) : CallR X (.builtin "max") (LCl cl X.K (rBlt bv .max2)) := by
  intro pins s σ H vs us Q I r h
  obtain ⟨ds, m, k, hl, hr, ht, p⟩ := h
  rcases ds with _ | ⟨x, _ | ⟨y, _ | ⟨z, r2⟩⟩⟩
  · exact ht.elim
  · cases x <;> exact ht.elim
  · cases x <;> cases y <;> try exact ht.elim
    obtain ⟨v, w, e, hx, hy⟩ := isL2 hl
    subst e
    cases hx
    cases hy
    exact L2.call_max2 hc pins s σ H _ us Q I r ⟨_, _, rfl, p _ _ _ _ ht rfl hr (Ext.refl H m)⟩
  · cases x <;> cases y <;> exact ht.elim
theorem min2_D (hc : X.calm = true) : CallR X (.builtin "min") (LCl cl X.K (rBlt bv .min2)) := by
  intro pins s σ H vs us Q I r h
  obtain ⟨ds, m, k, hl, hr, ht, p⟩ := h
  rcases ds with _ | ⟨x, _ | ⟨y, _ | ⟨z, r2⟩⟩⟩
  · exact ht.elim
  · cases x <;> exact ht.elim
  · cases x <;> cases y <;> try exact ht.elim
    obtain ⟨v, w, e, hx, hy⟩ := isL2 hl
    subst e
    cases hx
    cases hy
    exact L2.call_min2 hc pins s σ H _ us Q I r ⟨_, _, rfl, p _ _ _ _ ht rfl hr (Ext.refl H m)⟩
  · cases x <;> cases y <;> exact ht.elim
end
def tyName : Blt → Option String
  | .isInt => some "int"
  | .isBool => some "bool"
  | .isStr => some "str"
  | .isList => some "list"
  | .isTuple => some "tuple"
  | .isDict => some "dict"
  | _ => none
theorem kit_D {K : PySem.W.Frag} {t own : Blt} {T o : String} {k : Bool → Prop} (et : tyName t = some T) (eo : (own = .isInt ∧ o = "int") ∨ (own = .isBool ∧ o = "bool") ∨ (own = .isStr ∧ o = "str") ∨ (own = .isList ∧ o = "list") ∨ (own = .isTuple ∧ o = "tuple") ∨ (own = .isDict ∧ o = "dict") ∨ (own = .len ∧ o = "NoneType"))
    (h : isTy t own k) : ∃ b, PySem.W.kitOne K (.type o) (.type T) = some b ∧ k b := by
  rcases eo with ⟨rfl, rfl⟩ | ⟨rfl, rfl⟩ | ⟨rfl, rfl⟩ | ⟨rfl, rfl⟩ | ⟨rfl, rfl⟩ | ⟨rfl, rfl⟩ | ⟨rfl, rfl⟩ <;>
    (cases t <;> simp only [tyName, Option.some.injEq, reduceCtorEq] at et <;> (subst et; exact ⟨_, L2.kit_ty (by decide +kernel), h⟩))
section
variable {X : Cx} {cl : Nat → Addr} {bv : Bool}
theorem isi_D {t : Blt} {T : String} (et : tyName t = some T) {pins : List (Addr × Obj)} {s : Shared} {σ : L2.St} {H : Hp} {x : D} {v : V} {us : List Value} {Q : V → Hp → Prop} {m : Mem} {k : Bool → Prop} (I : Inv X pins σ H s) (r : Vals [v, .ty T] us)
    (hx : IsV X.K H x v) (hr : Rep cl X.K H m) (ht : rIsT t x m k) (q : ∀ b, k b → Q (.bl b) H) : wpAny (model X.prog X.w) X.A (call (.builtin "isinstance") us) (L2.EP X pins σ Q) X.xe s := by
  have go : ∀ (u : Value) (b : Bool), L2.TyX X.K H v u → PySem.W.kitOne X.K u (.type T) = some b → k b → wpAny (model X.prog X.w) X.A (call (.builtin "isinstance") us) (L2.EP X pins σ Q) X.xe s :=
    fun u b ty e kb => L2.call_isi pins s σ H _ us Q I r ⟨v, .ty T, u, .type T, b, rfl, .ty T, ty, e, q b kb⟩
  cases x with
  | int i =>
    cases hx
    obtain ⟨b, e, kb⟩ := kit_D (K := X.K) et (.inl ⟨rfl, rfl⟩) ht
    exact go _ b (.base (.int i)) e kb
  | bl i =>
    cases hx
    obtain ⟨b, e, kb⟩ := kit_D (K := X.K) et (.inr (.inl ⟨rfl, rfl⟩)) ht
    exact go _ b (.base (.bl i)) e kb
  | str i =>
    cases hx
    obtain ⟨b, e, kb⟩ := kit_D (K := X.K) et (.inr (.inr (.inl ⟨rfl, rfl⟩))) ht
    exact go _ b (.base (.str _)) e kb
  | non =>
    cases hx
    obtain ⟨b, e, kb⟩ := kit_D (K := X.K) et (.inr (.inr (.inr (.inr (.inr (.inr ⟨rfl, rfl⟩)))))) ht
    exact go _ b (.base .non) e kb
  | tup ds =>
    obtain ⟨a, vs, e, tt, l⟩ := hx
    subst e
    obtain ⟨b, e, kb⟩ := kit_D (K := X.K) et (.inr (.inr (.inr (.inr (.inl ⟨rfl, rfl⟩))))) ht
    exact go _ b (.base (.tup tt)) e kb
  | ktup ds =>
    obtain ⟨a, vs, e, tt, l⟩ := hx
    subst e
    obtain ⟨b, e, kb⟩ := kit_D (K := X.K) et (.inr (.inr (.inr (.inr (.inl ⟨rfl, rfl⟩))))) ht
    rcases tt with (tt | ⟨o, tt⟩) | ⟨o, its, n, e1, e2, _⟩
    · cases tt
    · cases tt
    · exact go _ b (.kTuple e1 e2) e kb
  | rol ds =>
    obtain ⟨a, vs, e, ⟨o, tt⟩, l⟩ := hx
    subst e
    obtain ⟨b, e, kb⟩ := kit_D (K := X.K) et (.inr (.inr (.inr (.inl ⟨rfl, rfl⟩)))) ht
    exact go _ b (.base (.frz tt)) e kb
  | scr ns =>
    obtain ⟨a, e, tt⟩ := hx
    subst e
    obtain ⟨b, e, kb⟩ := kit_D (K := X.K) et (.inr (.inr (.inr (.inl ⟨rfl, rfl⟩)))) ht
    rcases tt with ⟨o, tt⟩ | (tt | ⟨o, tt⟩) | ⟨o, its, n, e1, e2, _⟩
    · exact go _ b (.base (.frz tt)) e kb
    · cases tt
    · cases tt
    · exact go _ b (.kList e1 e2) e kb
  | rod b0 ks vs =>
    cases b0 with
    | true => exact ht.elim
    | false =>
      obtain ⟨a, kl, ws, o, e1, e2, l, q1, z⟩ := hx
      subst e1
      obtain ⟨b, e, kb⟩ := kit_D (K := X.K) et (.inr (.inr (.inr (.inr (.inr (.inl ⟨rfl, rfl⟩)))))) ht
      exact go _ b (.fDict z) e kb
  | exc _ _ _ => exact ht.elim
  | ref a =>
    cases hx
    unfold rIsT at ht
    cases em : m a with
    | none => simp only [em] at ht
    | some o =>
      have ro := hr a o em
      simp only [em] at ht
      cases o with
      | lst ds =>
        obtain ⟨vs, z, l⟩ := ro
        obtain ⟨b, e, kb⟩ := kit_D (K := X.K) et (.inr (.inr (.inr (.inl ⟨rfl, rfl⟩)))) ht
        exact go _ b (.base (.lst z)) e kb
      | dK kvs =>
        obtain ⟨vs, z, l⟩ := ro
        obtain ⟨b, e, kb⟩ := kit_D (K := X.K) et (.inr (.inr (.inr (.inr (.inr (.inl ⟨rfl, rfl⟩)))))) ht
        exact go _ b (.base (.dK z)) e kb
      | dT kvs =>
        obtain ⟨vs, z, l⟩ := ro
        obtain ⟨b, e, kb⟩ := kit_D (K := X.K) et (.inr (.inr (.inr (.inr (.inr (.inl ⟨rfl, rfl⟩)))))) ht
        exact go _ b (.base (.dT z)) e kb
      | ins c fs => exact ht.elim
/-- of which type a value is, by what is asked -/
theorem typ_D {t0 : Blt} {H : Hp} {x : D} {v : V} {m : Mem} {k0 : Bool → Prop}
    (hx : IsV X.K H x v) (hr : Rep cl X.K H m) (ht : rIsT t0 x m k0) : ∃ u, L2.TyX X.K H v u ∧ ∀ (t : Blt) (T : String) (k : Bool → Prop), tyName t = some T → rIsT t x m k → ∃ b, PySem.W.kitOne X.K u (.type T) = some b ∧ k b := by
  cases x with
  | int i =>
    cases hx
    exact ⟨_, (.base (.int i)), fun t T k et ht => kit_D (K := X.K) et (.inl ⟨rfl, rfl⟩) ht⟩
  | bl i =>
    cases hx
    exact ⟨_, (.base (.bl i)), fun t T k et ht => kit_D (K := X.K) et (.inr (.inl ⟨rfl, rfl⟩)) ht⟩
  | str i =>
    cases hx
    exact ⟨_, (.base (.str _)), fun t T k et ht => kit_D (K := X.K) et (.inr (.inr (.inl ⟨rfl, rfl⟩))) ht⟩
  | non =>
    cases hx
    exact ⟨_, (.base .non), fun t T k et ht => kit_D (K := X.K) et (.inr (.inr (.inr (.inr (.inr (.inr ⟨rfl, rfl⟩)))))) ht⟩
  | tup ds =>
    obtain ⟨a, vs, e, tt, l⟩ := hx
    subst e
    exact ⟨_, (.base (.tup tt)), fun t T k et ht => kit_D (K := X.K) et (.inr (.inr (.inr (.inr (.inl ⟨rfl, rfl⟩))))) ht⟩
  | ktup ds =>
    obtain ⟨a, vs, e, tt, l⟩ := hx
    subst e
    rcases tt with (tt | ⟨o, tt⟩) | ⟨o, its, n, e1, e2, _⟩
    · cases tt
    · cases tt
    · exact ⟨_, (.kTuple e1 e2), fun t T k et ht => kit_D (K := X.K) et (.inr (.inr (.inr (.inr (.inl ⟨rfl, rfl⟩))))) ht⟩
  | rol ds =>
    obtain ⟨a, vs, e, ⟨o, tt⟩, l⟩ := hx
    subst e
    exact ⟨_, (.base (.frz tt)), fun t T k et ht => kit_D (K := X.K) et (.inr (.inr (.inr (.inl ⟨rfl, rfl⟩)))) ht⟩
  | scr ns =>
    obtain ⟨a, e, tt⟩ := hx
    subst e
    rcases tt with ⟨o, tt⟩ | (tt | ⟨o, tt⟩) | ⟨o, its, n, e1, e2, _⟩
    · exact ⟨_, (.base (.frz tt)), fun t T k et ht => kit_D (K := X.K) et (.inr (.inr (.inr (.inl ⟨rfl, rfl⟩)))) ht⟩
    · cases tt
    · cases tt
    · exact ⟨_, (.kList e1 e2), fun t T k et ht => kit_D (K := X.K) et (.inr (.inr (.inr (.inl ⟨rfl, rfl⟩)))) ht⟩
  | rod b0 ks vs =>
    cases b0 with
    | true => exact ht.elim
    | false =>
      obtain ⟨a, kl, ws, o, e1, e2, l, q1, z⟩ := hx
      subst e1
      exact ⟨_, (.fDict z), fun t T k et ht => kit_D (K := X.K) et (.inr (.inr (.inr (.inr (.inr (.inl ⟨rfl, rfl⟩)))))) ht⟩
  | exc _ _ _ => exact ht.elim
  | ref a =>
    cases hx
    unfold rIsT at ht
    cases em : m a with
    | none => simp only [em] at ht
    | some o =>
      have ro := hr a o em
      simp only [em] at ht
      cases o with
      | lst ds =>
        obtain ⟨vs, z, l⟩ := ro
        exact ⟨_, (.base (.lst z)), fun t T k et ht => by
          unfold rIsT at ht
          simp only [em] at ht
          exact kit_D (K := X.K) et (.inr (.inr (.inr (.inl ⟨rfl, rfl⟩)))) ht⟩
      | dK kvs =>
        obtain ⟨vs, z, l⟩ := ro
        exact ⟨_, (.base (.dK z)), fun t T k et ht => by
          unfold rIsT at ht
          simp only [em] at ht
          exact kit_D (K := X.K) et (.inr (.inr (.inr (.inr (.inr (.inl ⟨rfl, rfl⟩)))))) ht⟩
      | dT kvs =>
        obtain ⟨vs, z, l⟩ := ro
        exact ⟨_, (.base (.dT z)), fun t T k et ht => by
          unfold rIsT at ht
          simp only [em] at ht
          exact kit_D (K := X.K) et (.inr (.inr (.inr (.inr (.inr (.inl ⟨rfl, rfl⟩)))))) ht⟩
      | ins c fs => exact ht.elim
end

def bmTy : Bm → String × String
  | .append => ("list", "list.append") | .extend => ("list", "list.extend") | .pop => ("list", "list.pop") | .join => ("str", "str.join") | .split => ("str", "str.split") | .get2 => ("dict", "dict.get")
  | _ => ("", "")
def LMt (cl : Nat → Addr) (K : PySem.W.Frag) (b : Bm) : V → List V → Hp → L2.VK → Prop := fun v vs H Q => ∃ x ds m k, IsV K H x v ∧ IsL K H ds vs ∧ Rep cl K H m ∧ rBm b x ds m k ∧ ∀ d m' u H', k d m' → IsV K H' d u → Rep cl K H' m' → Ext H m H' m' → Q u H'
theorem tlj (a : List Nat) : ∀ ps : List (List Nat), TL.joinL a ps = joinS a ps
  | [] => rfl
  | [p] => rfl
  | p :: q :: r => by
    show p ++ (a ++ TL.joinL a (q :: r)) = p ++ (a ++ joinS a (q :: r))
    rw [tlj a (q :: r)]
theorem splitS_ne (c : Nat) : ∀ l : List Nat, splitS c l ≠ []
  | [] => by simp [splitS]
  | x :: r => by
    unfold splitS
    split
    · simp
    · split <;> simp
theorem splitS_cons (c x : Nat) (r : List Nat) : splitS c (x :: r) = match splitS c r with
    | [] => [[]]
    | p :: ps => if x = c then [] :: p :: ps else (x :: p) :: ps := rfl
theorem tlsp_acc (c : Nat) : ∀ (l acc : List Nat), TL.spl [c] 0 acc l = match splitS c l with
    | [] => [acc]
    | p :: ps => (acc ++ p) :: ps
  | [], acc => by
    rw [TL.spl_nil]
    show [acc] = [acc ++ []]
    rw [List.append_nil]
  | x :: r, acc => by
    have ih1 := tlsp_acc c r []
    have ih2 := tlsp_acc c r (acc ++ [x])
    by_cases h : x = c
    · subst h
      have hp : TL.pre [x] (x :: r) = true := by simp [TL.pre]
      rw [TL.spl_hit hp]
      show acc :: TL.spl [x] 0 [] r = _
      rw [ih1, splitS_cons]
      cases e : splitS x r with
      | nil => exact absurd e (splitS_ne x r)
      | cons p ps => simp
    · have hp : TL.pre [c] (x :: r) = false := by
        simp [TL.pre, h]
      rw [TL.spl_miss hp, ih2, splitS_cons]
      cases e : splitS c r with
      | nil => exact absurd e (splitS_ne c r)
      | cons p ps => simp [h]
theorem tlsp (c : Nat) (l : List Nat) : TL.spl [c] 0 [] l = splitS c l := by
  rw [tlsp_acc]
  cases e : splitS c l with
  | nil => exact absurd e (splitS_ne c l)
  | cons p ps => rfl
section
variable {X : Cx} {cl : Nat → Addr} {bv : Bool}
theorem mt_appendD : MtR X "list.append" (LMt cl X.K .append) := by
  intro pins s σ H v vs vv us Q I rv rs h
  obtain ⟨x, ds, m, k, hx, hl, hr, ht, p⟩ := h
  rcases ds with _ | ⟨y, _ | ⟨z, r2⟩⟩
  · cases x <;> exact ht.elim
  · cases x <;> first | exact ht.elim | skip
    rename_i a
    cases hx
    obtain ⟨w, e, hy⟩ := isL1 hl
    subst e
    unfold rBm at ht
    cases em : m a with
    | none => simp only [em] at ht
    | some o =>
      simp only [em] at ht
      cases o with
      | lst ds =>
        obtain ⟨hb, ht⟩ := ht
        obtain ⟨vs, z, l⟩ := hr a _ em
        refine L2.mt_append pins s σ H _ _ vv us Q I rv rs ⟨a, vs, w, rfl, rfl, z, Nat.lt_of_lt_of_le (by rw [l.length]; exact hb) (big_le (Nat.le_refl _)), ?_⟩
        have kp : Kp H (L2.upd H a (.lst (vs ++ [w]))) := kp_mut z (fun _ h => nomatch h) fun _ _ h => nomatch h
        exact p _ _ _ _ ht rfl (hr.mut em ⟨_, L2.upd_same, (l.kp kp).append ⟨w, [], rfl, hy.kp kp, rfl⟩⟩) (Ext.mut em)
      | _ => exact ht.elim
  · cases x <;> exact ht.elim
/-- xs.extend((..)) -/
theorem ext_tup (l : Addr) (items : Array Value) (n : Nat) (b : Addr) (items2 : Array Value) (n2 : Nat) (dd : Option Addr) (sl : Array (Option Value)) (hs0 : ¬(!items.isEmpty && Builtin.List.listTooLong (items.size + items2.size)) = true) (hs1 : items.size ≤ sizeLine) (hs2 : items.size + items2.size ≤ sizeLine + 1) :
    Meets (Builtin.«list.extend» ⟨[.ref l, .ref b], []⟩) (fun _ R s => s.heap.get? l = some { cls := .type "list", dict := none, data := .seq items n, slots := #[] } ∧ s.heap.get? b = some { cls := .type "tuple", dict := dd, data := .seq items2 n2, slots := sl } ∧ R (.ok (.ret Value.none)) { s with heap := s.heap.update l (Obj.mapSeq fun x => x ++ items2), toks := s.toks }) :=
  .of_wp fun prog w A R s h => by
    obtain ⟨hp, g, d, tk, os⟩ := s; obtain ⟨hl, hb, h⟩ := h; have f1 := AutoSeq1.idx_int; have f2 := AutoSeq1.sub_tuple_tuple; have f3 := AutoSeq1.sub_list_list; have f4 := AutoSeq1.sub_tuple_list; have f5 := AutoSeq1.sub_list_tuple;
    have hz' : (items ++ items2).size ≤ sizeLine + 1 := by rw [Array.size_append]; exact hs2
    wp_walk using (wpAny_updateSeq hl rfl (hz := hs1) (_hz' := hz')), AutoSeq1.wpAny_loadPart' hl, AutoSeq1.wpAny_loadPart' hb; exact ⟨_, rfl, h⟩
theorem rd_list {H : Hp} {a : Addr} {vs : List V} {pins : List (Addr × Obj)} {σ : L2.St} {s : Shared} (I : Inv X pins σ H s) (h : L2.Rd H a (.lst vs)) : ∃ (its : List Value) (n : Nat), Vals vs its ∧ vs.length = its.length ∧ s.heap.get? a = some { cls := .type "list", data := .seq its.toArray n } := by
  obtain ⟨z, its, n, r, e⟩ := h.ok I.hok
  exact ⟨its, n, r, r.length, e⟩
theorem mt_extendD : MtR X "list.extend" (LMt cl X.K .extend) := by
  intro pins s σ H v vs vv us Q I rv rs h
  obtain ⟨x, ds, m, k, hx, hl, hr, ht, p⟩ := h
  rcases ds with _ | ⟨y, _ | ⟨z, r2⟩⟩
  · cases x <;> exact ht.elim
  · cases x <;> first | exact ht.elim | skip
    rename_i a
    cases hx
    obtain ⟨w, e, hy⟩ := isL1 hl
    subst e
    have ht2 : ∃ ds es, m a = some (.lst ds) ∧ extOf m y = some es ∧ ds.length + es.length ≤ big ∧ k .non (upd m a (.lst (ds ++ es))) := ht
    obtain ⟨ds, es, em, ey, hb, ht⟩ := ht2
    obtain ⟨vs, z, l⟩ := hr a _ em
    obtain ⟨z0, its, n, r, hl1, e1⟩ := I.lstM z
    obtain ⟨u, rfl, ru⟩ := L2.vals1 rs
    cases rv
    have hlong : ∀ its2 : List Value, its2.length = es.length → ¬ (!its.toArray.isEmpty && Builtin.List.listTooLong (its.toArray.size + its2.toArray.size)) = true := fun its2 e2 => by
      have hsz : its.toArray.size + its2.toArray.size ≤ sizeLine := by
        rw [List.size_toArray, List.size_toArray, ← hl1, e2, l.length]
        exact big_le hb
      rw [L2.notLongL hsz, Bool.and_false]
      exact Bool.false_ne_true
    have fin : ∀ (ws : List V) (its2 : List Value), IsL X.K H es ws → Vals ws its2 → L2.EP X pins σ Q .none { s with heap := s.heap.update a (Obj.mapSeq fun x => x ++ its2.toArray), toks := s.toks } := fun ws its2 l2 r2 => by
      refine ⟨.non, _, I.lset (its' := its ++ its2) z e1 (by simp) (r.append r2) (by rw [List.length_append, l.length, l2.length]; exact big_le hb), rfl, ?_⟩
      have kp : Kp H (L2.upd H a (.lst (vs ++ ws))) := kp_mut z (fun _ h => nomatch h) fun _ _ h => nomatch h
      exact p _ _ _ _ ht rfl (hr.mut em ⟨_, L2.upd_same, (l.kp kp).append (l2.kp kp)⟩) (Ext.mut em)
    have siz : ∀ its2 : List Value, its2.length = es.length → its.toArray.size ≤ sizeLine ∧ its.toArray.size + its2.toArray.size ≤ sizeLine + 1 := fun its2 e2 => by
      have := big_le hb
      rw [List.size_toArray, List.size_toArray, ← hl1, e2, l.length]
      omega
    unfold extOf at ey
    split at ey
    · rename_i es' 
      obtain ⟨b, ws, eb, tb, l2⟩ := hy
      cases ey
      subst eb
      cases ru
      obtain ⟨_, its2, r2, o2, h1, h2, n2, h3⟩ := (show L2.ObjOk X.prog X.w H s.heap b (.tup ws) from I.hok b _ tb)
      have q2 : its2.length = es.length := by rw [← r2.length, l2.length]
      obtain ⟨oc, od, dt, osl⟩ := o2
      dsimp only at h2 h3
      subst h2 h3
      exact call_meets F.slot_list_extend ⟨_, e1, rfl⟩ F.entry_list_extend (F.args_list_extend_2 _ _) (ext_tup a its.toArray n b its2.toArray n2 od osl (hlong its2 q2) (siz its2 q2).1 (siz its2 q2).2) ⟨e1, h1, fin ws its2 l2 r2⟩
    · obtain ⟨b, ws, eb, tb, l2⟩ := lstOf_rd hr ey hy
      subst eb
      cases ru
      obtain ⟨its2, n2, r2, hl2, e2⟩ := rd_list I tb
      have q2 : its2.length = es.length := by rw [← hl2, l2.length]
      refine call_meets F.slot_list_extend ⟨_, e1, rfl⟩ F.entry_list_extend (F.args_list_extend_2 _ _)
        (AutoSeq1.list_extend_list_list_0 a its.toArray n b its2.toArray n2 (hlong its2 q2) (siz its2 q2).1 (siz its2 q2).2) ⟨e1, e2, fin ws its2 l2 r2⟩
  · cases x <;> cases y <;> exact ht.elim
theorem isL_dropLast {K : PySem.W.Frag} {H : Hp} {ds : List D} {vs : List V} (l : IsL K H ds vs) : IsL K H ds.dropLast vs.dropLast := by
  rw [List.dropLast_eq_take, List.dropLast_eq_take, l.length]
  exact l.take _
theorem mt_popD : MtR X "list.pop" (LMt cl X.K .pop) := by
  intro pins s σ H v vs vv us Q I rv rs h
  obtain ⟨x, ds, m, k, hx, hl, hr, ht, p⟩ := h
  rcases ds with _ | ⟨y, r2⟩
  · cases x <;> first | exact ht.elim | skip
    rename_i a
    cases hx
    obtain rfl : vs = [] := hl
    unfold rBm at ht
    cases em : m a with
    | none => simp only [em] at ht
    | some o =>
      simp only [em] at ht
      cases o with
      | lst ds =>
        obtain ⟨d, e, ht⟩ := ht
        obtain ⟨vs, z, l⟩ := hr a _ em
        obtain ⟨w, ew, hw⟩ := l.get e
        rw [← l.length] at ew
        refine L2.mt_pop pins s σ H _ _ vv us Q I rv rs ⟨a, vs, w, rfl, rfl, z, ew, ?_⟩
        have kp : Kp H (L2.upd H a (.lst vs.dropLast)) := kp_mut z (fun _ h => nomatch h) fun _ _ h => nomatch h
        exact p _ _ _ _ ht (hw.kp kp) (hr.mut em ⟨_, L2.upd_same, isL_dropLast (l.kp kp)⟩) (Ext.mut em)
      | _ => exact ht.elim
  · cases x <;> exact ht.elim
theorem mt_clearD : MtR X "dict.clear" (LMt cl X.K .clear) := by
  intro pins s σ H v vs vv us Q I rv rs h
  obtain ⟨x, ds, m, k, hx, hl, hr, ht, p⟩ := h
  rcases ds with _ | ⟨y, r2⟩
  · cases x <;> first | exact ht.elim | skip
    rename_i a
    cases hx
    obtain rfl : vs = [] := hl
    unfold rBm at ht
    cases em : m a with
    | none => simp only [em] at ht
    | some o =>
      simp only [em] at ht
      cases o with
      | dK kvs =>
        obtain ⟨ws, z, l⟩ := hr a _ em
        refine L2.mtd_clear pins s σ H _ _ vv us Q I rv rs ⟨a, ws, rfl, rfl, z, ?_⟩
        have kp : Kp H (L2.upd H a (.dK [])) := kp_mut z (fun _ h => nomatch h) fun _ _ h => nomatch h
        exact p _ _ _ _ ht rfl (hr.mut em ⟨[], L2.upd_same, rfl⟩) (Ext.mut em)
      | _ => exact ht.elim
  · cases x <;> exact ht.elim
theorem mt_clearLD : MtR X "list.clear" (LMt cl X.K .clearL) := by
  intro pins s σ H v vs vv us Q I rv rs h
  obtain ⟨x, ds, m, k, hx, hl, hr, ht, p⟩ := h
  rcases ds with _ | ⟨y, r2⟩
  · cases x <;> first | exact ht.elim | skip
    rename_i a
    cases hx
    obtain rfl : vs = [] := hl
    unfold rBm at ht
    cases em : m a with
    | none => simp only [em] at ht
    | some o =>
      simp only [em] at ht
      cases o with
      | lst ds =>
        obtain ⟨vs, z, l⟩ := hr a _ em
        refine L2.mt_clear pins s σ H _ _ vv us Q I rv rs ⟨a, vs, rfl, rfl, z, ?_⟩
        have kp : Kp H (L2.upd H a (.lst [])) := kp_mut z (fun _ h => nomatch h) fun _ _ h => nomatch h
        exact p _ _ _ _ ht rfl (hr.mut em ⟨[], L2.upd_same, rfl⟩) (Ext.mut em)
      | _ => exact ht.elim
  · cases x <;> exact ht.elim
theorem isL_erase {K : PySem.W.Frag} {H : Hp} : ∀ {ds : List D} {vs : List V} (j : Nat), IsL K H ds vs → IsL K H (ds.eraseIdx j) (vs.eraseIdx j)
  | [], _, j, l => by
    rw [show _ = [] from l]
    rfl
  | d :: ds, _, 0, ⟨v, r, e, q, l⟩ => by
    subst e
    exact l
  | d :: ds, _, j + 1, ⟨v, r, e, q, l⟩ => by
    subst e
    exact ⟨v, _, rfl, q, isL_erase j l⟩
theorem mt_popAtD : MtR X "list.pop" (LMt cl X.K .popAt) := by
  intro pins s σ H v vs vv us Q I rv rs h
  obtain ⟨x, ds, m, k, hx, hl, hr, ht, p⟩ := h
  rcases ds with _ | ⟨y, _ | ⟨y2, r2⟩⟩
  · cases x <;> exact ht.elim
  · cases x <;> first | exact ht.elim | skip
    rename_i a
    cases y <;> first | exact ht.elim | skip
    rename_i i
    cases hx
    obtain ⟨w, e, hy⟩ := isL1 hl
    subst e
    cases hy
    unfold rBm at ht
    cases em : m a with
    | none => simp only [em] at ht
    | some o =>
      simp only [em] at ht
      cases o with
      | lst ds =>
        obtain ⟨j, d, ej, e, ht⟩ := ht
        obtain ⟨vs, z, l⟩ := hr a _ em
        obtain ⟨w, ew, hw⟩ := l.get e
        have hz : vs.length ≤ sizeLine := (I.hok _ _ z).1
        have hz2 : vs.length ≤ 2 ^ 62 := Nat.le_trans hz (by rw [sizeLine_eq]; decide)
        have hb : -(vs.length : Int) ≤ i ∧ i < vs.length := by
          rw [l.length]
          unfold dIx at ej
          split at ej
          · split at ej
            · omega
            · cases ej
          · split at ej
            · omega
            · cases ej
        have ej2 : PySem.seqIndex? i vs.length = some j := by
          rw [← ej, l.length]
          unfold PySem.seqIndex? dIx
          by_cases h0 : i < 0
          · have h1 : ¬ 0 ≤ i := by omega
            simp only [if_pos h0, if_neg h1]
            by_cases h2 : -(ds.length : Int) ≤ i
            · have h3 : (decide (0 ≤ i + (ds.length : Int)) && decide (i + (ds.length : Int) < ds.length)) = true := by simp; omega
              rw [if_pos h2, if_pos h3]
            · have h3 : ¬ (decide (0 ≤ i + (ds.length : Int)) && decide (i + (ds.length : Int) < ds.length)) = true := by simp; omega
              rw [if_neg h2, if_neg h3]
          · have h1 : 0 ≤ i := by omega
            simp only [if_neg h0, if_pos h1]
            by_cases h2 : i < ds.length
            · have h3 : (decide (0 ≤ i) && decide (i < (ds.length : Int))) = true := by simp; omega
              rw [if_pos h2, if_pos h3]
            · have h3 : ¬ (decide (0 ≤ i) && decide (i < (ds.length : Int))) = true := by simp; omega
              rw [if_neg h2, if_neg h3]
        refine L2.mt_popAt pins s σ H _ _ vv us Q I rv rs ⟨a, vs, i, j, w, rfl, rfl, z, by omega, by omega, ej2, ew, ?_⟩
        have kp : Kp H (L2.upd H a (.lst (vs.eraseIdx j))) := kp_mut z (fun _ h => nomatch h) fun _ _ h => nomatch h
        exact p _ _ _ _ ht (hw.kp kp) (hr.mut em ⟨_, L2.upd_same, isL_erase j (l.kp kp)⟩) (Ext.mut em)
      | _ => exact ht.elim
  · cases x <;> cases y <;> exact ht.elim
theorem isKs_drop {K : PySem.W.Frag} {H : Hp} {x : D} {k : L2.Key} (hx : keyOf x = some k) : ∀ {kvs : List (D × D)} {ws : List (L2.Key × V)}, IsKs K H kvs ws → IsKs K H (dropKey kvs x) (L2.dropK ws k)
  | [], _, h => by
    rw [show _ = [] from h]
    rfl
  | (y, d) :: r, _, h => by
    obtain ⟨l, v, t, e, hy, hv, ht⟩ := h
    subst e
    have q := eqv_key hy hx
    have i := isKs_drop hx ht
    unfold dropKey L2.dropK at i ⊢
    rw [List.filter_cons, List.filter_cons]
    by_cases z : l = k
    · have q2 : (!D.eqv y x) = false := by rw [q.trans (decide_eq_true z)]; rfl
      have q3 : decide ((l, v).1 ≠ k) = false := by simpa using z
      rw [q3]
      dsimp only
      rw [q2]
      exact i
    · have q2 : (!D.eqv y x) = true := by rw [q.trans (decide_eq_false z)]; rfl
      have q3 : decide ((l, v).1 ≠ k) = true := by simpa using z
      rw [q3]
      dsimp only
      rw [q2]
      exact ⟨l, v, _, rfl, hy, hv, i⟩
theorem mt_popDD : MtR X "dict.pop" (LMt cl X.K .popD) := by
  intro pins s σ H v vs vv us Q I rv rs h
  obtain ⟨x, ds, m, k, hx, hl, hr, ht, p⟩ := h
  rcases ds with _ | ⟨y, _ | ⟨y2, r2⟩⟩
  · cases x <;> exact ht.elim
  · cases x <;> first | exact ht.elim | skip
    rename_i a
    have ht2 : match m a with
      | some (.dK kvs) => keyK y = true ∧ ∃ d, getKey kvs y = some d ∧ k d (upd m a (.dK (dropKey kvs y)))
      | _ => False := by cases y <;> exact ht
    cases hx
    obtain ⟨w, e, hy⟩ := isL1 hl
    subst e
    obtain ⟨u1, rfl, r1⟩ := L2.vals1 rs
    obtain rfl : vv = Value.ref a := rv
    cases em : m a with
    | none => simp only [em] at ht2
    | some o =>
      simp only [em] at ht2
      cases o with
      | dK kvs =>
        obtain ⟨hk, d, ed, ht2⟩ := ht2
        obtain ⟨ws, z, l⟩ := hr a _ em
        obtain ⟨kx, ek⟩ := keyK_some hk
        obtain ⟨_, i2, _⟩ := isKs_get ek l
        obtain ⟨v2, ev, hv2⟩ := i2 d ed
        rw [keyV ek hy] at r1
        refine L2.d_pop I z r1 ev (.inl rfl) fun w' s' I' rw' => ⟨_, _, I', rw', ?_⟩
        have kp : Kp H (L2.upd H a (.dK (L2.dropK ws kx))) := kp_mut z (fun _ h => nomatch h) fun _ _ h => nomatch h
        exact p _ _ _ _ ht2 (hv2.kp kp) (hr.mut em ⟨_, L2.upd_same, isKs_drop ek (l.kp kp)⟩) (Ext.mut em)
      | _ => exact ht2.elim
  · cases x <;> exact ht.elim
theorem mt_joinD : MtR X "str.join" (LMt cl X.K .join) := by
  intro pins s σ H v vs vv us Q I rv rs h
  obtain ⟨x, ds, m, k, hx, hl, hr, ht, p⟩ := h
  rcases ds with _ | ⟨y, _ | ⟨z, r2⟩⟩
  · cases x <;> exact ht.elim
  · cases x <;> first | exact ht.elim | skip
    rename_i a
    cases hx
    obtain ⟨w, e, hy⟩ := isL1 hl
    subst e
    obtain ⟨ds, ss, e1, e2, hb, ht⟩ := ht
    obtain ⟨q, vs, e, t, l⟩ := seqOf_is hr e1 hy
    subst e
    rw [allStr_is e2 l] at t
    refine L2.mt_join pins s σ H _ _ vv us Q I rv rs ⟨SX.S a, q, ss.map SX.S, rfl, rfl, t, ?_, ?_⟩
    · have e3 : (ss.map SX.S).map (·.length) = ss.map (·.length) := SX.lens ss
      rw [e3, List.length_map, SX.S_len]
      have : big ≤ 16777216 := by decide
      exact Nat.le_trans hb this
    · rw [SX.join_S, tlj]
      exact p _ _ _ _ ht rfl hr (Ext.refl H m)
  · cases x <;> exact ht.elim
theorem mt_indexD : MtR X "str.index" (LMt cl X.K .index) := by
  intro pins s σ H v vs vv us Q I rv rs h
  obtain ⟨x, ds, m, k, hx, hl, hr, ht, p⟩ := h
  rcases ds with _ | ⟨y, _ | ⟨z, r2⟩⟩
  · cases x <;> exact ht.elim
  · cases x <;> first | exact ht.elim | skip
    cases y <;> first | exact ht.elim | skip
    rename_i a b
    cases hx
    obtain ⟨w, e, hy⟩ := isL1 hl
    subst e
    cases hy
    obtain ⟨c, i, e, h1, h2, ht⟩ := ht
    subst e
    have at_ : ∀ j, StrLaws.At (SX.S a) (SX.S [c]) (SX.S a).length j ↔ a[j]? = some c := fun j => StrLaws.subAt_one (SX.S a) c j
    rcases StrLaws.occ_head (SX.S a) (SX.S [c]) 1 (Nat.le_refl _) with ⟨_, hn⟩ | ⟨j, r, ho, hj, hk⟩
    · exact absurd ((at_ i).mpr h1) (hn i)
    · have e : j = i := by
        rcases Nat.lt_trichotomy j i with z | z | z
        · exact absurd ((at_ j).mp hj) (h2 j z)
        · exact z
        · exact absurd ((at_ i).mpr h1) (hk i z)
      subst e
      exact L2.mt_sindex pins s σ H _ _ vv us Q I rv rs ⟨_, _, j, r, rfl, rfl, ho, p _ _ _ _ ht rfl hr (Ext.refl H m)⟩
  · cases x <;> first | exact ht.elim | (cases y <;> exact ht.elim)
theorem bl_vals : ∀ {bs : List Bool} {us : List Value}, Vals (bs.map V.bl) us → us = bs.map Value.bool
  | [], us, r => by
    rw [List.map_nil] at r
    cases r
    rfl
  | b :: bs, us, r => by
    rw [List.map_cons] at r
    cases r with
    | cons r1 r2 =>
      cases r1
      rw [bl_vals r2]
      rfl
theorem mt_countD : MtR X "list.count" (LMt cl X.K .count) := by
  intro pins s σ H v vs vv us Q I rv rs h
  obtain ⟨x, ds, m, k, hx, hl, hr, ht, p⟩ := h
  rcases ds with _ | ⟨y, _ | ⟨z, r2⟩⟩
  · cases x <;> exact ht.elim
  · cases y <;> first | (cases x <;> exact ht.elim) | skip
    rename_i b
    obtain ⟨ds, bs, e, eb, ht⟩ := ht
    obtain ⟨w, ew, hy⟩ := isL1 hl
    subst ew
    cases hy
    obtain ⟨u, rfl, ru⟩ := rs.one
    cases ru
    obtain ⟨a, ws, e1, z, l⟩ := lstOf_is hr e hx
    subst e1
    cases rv
    rw [allBl_is eb l] at z
    obtain ⟨its, rvs, ⟨⟨cls, dd, data, sl⟩, n, ho, hc, hdn, hd⟩, hlen⟩ := I.list z
    simp only at hc hd
    subst hc hd
    have hi := bl_vals rvs
    subst hi
    refine call_meets PySem.F.slot_list_count ⟨_, ho, rfl⟩ PySem.F.entry_list_count (PySem.F.args_list_count_2 _ _)
      (SeqAt.list_countAt a (bs.map Value.bool).toArray n dd sl (.bool b) (isBoolOf b)) ⟨ho, fun y hy => ?_, ?_⟩
    · have hy : y ∈ bs.map Value.bool := by simpa using hy
      obtain ⟨c, _, rfl⟩ := List.mem_map.mp hy
      exact SeqAt.EqAt.bool_bool c b
    · have ec : (bs.map Value.bool).toArray.toList.countP (isBoolOf b) = bs.count b := by
        rw [show (bs.map Value.bool).toArray.toList = bs.map Value.bool from rfl, List.countP_map]
        rfl
      refine ⟨.int (bs.count b : Nat), H, I.tok _, ⟨s.toks, ?_⟩, p _ _ _ _ ht rfl hr (Ext.refl H m)⟩
      show Value.int (((bs.map Value.bool).toArray.toList.countP (isBoolOf b) : Nat) : Int) s.toks = Value.int ((bs.count b : Nat) : Int) s.toks
      rw [ec]
  · cases x <;> cases y <;> exact ht.elim
theorem mt_indexLD : MtR X "list.index" (LMt cl X.K .indexL) := by
  intro pins s σ H v vs vv us Q I rv rs h
  obtain ⟨x, ds, m, k, hx, hl, hr, ht, p⟩ := h
  have hbig : ∀ {j : Nat}, j ≤ big → (j : Int) < 2 ^ 63 - 1 := fun {j} h => by
    have : big ≤ 16777216 := by decide
    omega
  rcases ds with _ | ⟨y, _ | ⟨z, r2⟩⟩
  · cases x <;> exact ht.elim
  · cases y <;> first | (cases x <;> exact ht.elim) | skip
    · rename_i b
      obtain ⟨ds, bs, j, e, eb, hj, hno, hjb, ht⟩ := ht
      obtain ⟨w, ew, hy⟩ := isL1 hl
      subst ew
      cases hy
      obtain ⟨u, rfl, ru⟩ := rs.one
      cases ru
      obtain ⟨a, ws, e1, z, l⟩ := lstOf_is hr e hx
      subst e1
      cases rv
      rw [allBl_is eb l] at z
      obtain ⟨its, rvs, ⟨⟨cls, dd, data, sl⟩, n, ho, hc, hdn, hd⟩, hlen⟩ := I.list z
      simp only at hc hd
      subst hc hd
      have hi := bl_vals rvs
      subst hi
      obtain ⟨hjl, hje⟩ := List.getElem?_eq_some_iff.mp hj
      refine call_meets PySem.F.slot_list_index ⟨_, ho, rfl⟩ PySem.F.entry_list_index (PySem.F.args_list_index_2 _ _)
        (SeqAt.list_indexAt a (bs.map Value.bool).toArray n dd sl (.bool b) (isBoolOf b) j (by simpa using hjl) (hbig hjb) ?_ ?_) ⟨ho, fun y hy => ?_, ?_⟩
      · have : (bs.map Value.bool).toArray[j]'(by simpa using hjl) = .bool b := by simp [hje]
        rw [this]
        show (b == b) = true
        simp
      · intro i hi hij
        have hil : i < bs.length := by simpa using hi
        have : (bs.map Value.bool).toArray[i] = .bool bs[i] := by simp
        rw [this]
        show (bs[i] == b) = false
        refine beq_eq_false_iff_ne.mpr fun e2 => hno i hij ?_
        rw [List.getElem?_eq_getElem hil, e2]
      · have hy : y ∈ bs.map Value.bool := by simpa using hy
        obtain ⟨c, _, rfl⟩ := List.mem_map.mp hy
        exact SeqAt.EqAt.bool_bool c b
      · exact ⟨.int (j : Nat), H, I.tok _, ⟨s.toks, rfl⟩, p _ _ _ _ ht rfl hr (Ext.refl H m)⟩
    · rename_i b
      obtain ⟨ds, bs, j, e, eb, hj, hno, hjb, ht⟩ := ht
      obtain ⟨w, ew, hy⟩ := isL1 hl
      subst ew
      cases hy
      obtain ⟨u, rfl, ru⟩ := rs.one
      obtain ⟨tk, rfl⟩ := ru
      obtain ⟨a, ws, e1, z, l⟩ := lstOf_is hr e hx
      subst e1
      cases rv
      rw [allStr_is eb l] at z
      obtain ⟨its, rvs, ⟨⟨cls, dd, data, sl⟩, n, ho, hc, hdn, hd⟩, hlen⟩ := I.list z
      simp only at hc hd
      subst hc hd
      have hi := L2.strs_of_vals rvs
      obtain ⟨hjl, hje⟩ := List.getElem?_eq_some_iff.mp hj
      have hln : its.length = bs.length := by rw [← rvs.length, List.length_map, List.length_map]
      have at_ : ∀ i (h : i < bs.length) (h' : i < its.toArray.size), isStrOf (SX.S b) its.toArray[i] = (bs[i] == b) := fun i h h' => by
        obtain ⟨t, ht⟩ := hi.get i (SX.S bs[i]) (by rw [List.getElem?_map, List.getElem?_eq_getElem h]; rfl)
        obtain ⟨h1, h2⟩ := List.getElem?_eq_some_iff.mp ht
        have e1 : its.toArray[i] = .str (SX.S bs[i]) t := by simpa using h2
        rw [e1]
        show (SX.S bs[i] == SX.S b) = _
        rw [SX.S_beq]
      refine call_meets PySem.F.slot_list_index ⟨_, ho, rfl⟩ PySem.F.entry_list_index (PySem.F.args_list_index_2 _ _)
        (SeqAt.list_indexAt a its.toArray n dd sl (.str (SX.S b) tk) (isStrOf (SX.S b)) j (by simpa [hln] using hjl) (hbig hjb) ?_ ?_) ⟨ho, fun y hy => (eq_isStrOf (SX.S b) tk hi y (by simpa using hy)).at _ _, ?_⟩
      · rw [at_ j hjl, hje]
        simp
      · intro i hi2 hij
        have hil : i < bs.length := by
          have := hi2
          simp [hln] at this
          exact this
        rw [at_ i hil]
        refine beq_eq_false_iff_ne.mpr fun e2 => hno i hij ?_
        rw [List.getElem?_eq_getElem hil, e2]
      · exact ⟨.int (j : Nat), H, I.tok _, ⟨s.toks, rfl⟩, p _ _ _ _ ht rfl hr (Ext.refl H m)⟩
  · cases x <;> cases y <;> exact ht.elim
/-- d.update(e) -/
theorem d_updateD {pins : List (Addr × Obj)} {s : Shared} {σ : L2.St} {H : Hp} {a b : Addr} {kvs more : List (L2.Key × V)} {Q : Value → Shared → Prop} {E : Value → Shared → Prop} {A : Around} (I : L2.Inv X pins σ H s) (e : H a = some (.dK kvs)) (e2 : L2.Rd H b (.dK more)) (hab : a ≠ b) (hl : kvs.length + more.length ≤ sizeLine)
    (h : ∀ s', L2.Inv X pins σ (L2.upd H a (.dK (L2.mergeK kvs more))) s' → Q .none s') : wpAny (model X.prog X.w) A (call (.builtin "dict.update") [.ref a, .ref b]) Q E s := by
  obtain ⟨z, hd, vs, rel, dd⟩ := L2.dk_of I.hok e
  obtain ⟨z2, hd2, ws, rel2, dd2⟩ := L2.dk_rd I.hok e2
  refine call_meetsIn PySem.F.slot_dict_update dd.typeIs PySem.F.entry_dict_update (PySem.F.args_dict_update_2 _ _) (meets_dict_update (L2.mixKind X.prog X.w) a b hab hd2) ⟨vs, ws, dd, dd2, by rw [← rel.length, ← rel2.length]; exact hl, fun h' dd' _ hs => h _ ?_⟩
  have he : ∃ q, h'.get? a = some q := let ⟨q, _, _, hq, _⟩ := dd'; ⟨q, hq⟩
  exact L2.d_write (t' := s.toks) I (by rw [e]; exact True.intro) hs he (L2.dk_new (Nat.le_trans (L2.length_mergeK _ _) hl) hd (L2.KV.merge rel2 rel) dd')
theorem isKs_mergeP {K : PySem.W.Frag} {H : Hp} : ∀ {more acc : List (D × D)} {ms as : List (L2.Key × V)}, IsKs K H more ms → IsKs K H acc as → IsKs K H (more.foldl (fun acc q => putKey acc q.1 q.2) acc) (L2.mergeK as ms)
  | [], acc, ms, as, h1, h2 => by
    obtain rfl : ms = [] := h1
    exact h2
  | (x, y) :: r, acc, ms, as, h1, h2 => by
    obtain ⟨k, v, t, rfl, e, hv, h3⟩ := h1
    exact isKs_mergeP (more := r) (acc := putKey acc x y) (ms := t) (as := L2.putK as k v) h3 (isKs_put e hv h2)
theorem mt_updateD : MtR X "dict.update" (LMt cl X.K .update) := by
  intro pins s σ H v vs vv us Q I rv rs h
  obtain ⟨x, ds, m, k, hx, hl, hr, ht, p⟩ := h
  rcases ds with _ | ⟨y, _ | ⟨y2, r2⟩⟩
  · cases x <;> exact ht.elim
  · cases x <;> first | exact ht.elim | skip
    rename_i a
    cases hx
    obtain ⟨w, e, hy⟩ := isL1 hl
    subst e
    obtain ⟨u1, rfl, r1⟩ := L2.vals1 rs
    obtain rfl : vv = Value.ref a := rv
    unfold rBm at ht
    cases em : m a with
    | none => simp only [em] at ht
    | some o =>
      simp only [em] at ht
      cases o with
      | dK kvs =>
        obtain ⟨more, e2, hne, hlen, ht⟩ := ht
        obtain ⟨ws, z, l⟩ := hr a _ em
        obtain ⟨b, ms, rfl, rd, l2⟩ := dicK_is hr e2 hy
        obtain rfl : u1 = Value.ref b := r1
        have hab : a ≠ b := by
          intro e
          subst e
          cases y <;> first | (cases e2; done) | skip
          · cases hy
            exact hne rfl
          · rename_i t ks us
            cases t <;>
            · obtain ⟨a2, kl, ws2, o, e1, _, _, _, zf⟩ := hy
              cases e1
              rw [z] at zf
              cases zf
        refine d_updateD I z rd hab (by rw [isKs_len l, isKs_len l2, PySem.sizeLine_eq]; have : big ≤ 16777216 := by decide
                                        omega) fun s' I' => ⟨.non, _, I', rfl, ?_⟩
        have kp : Kp H (L2.upd H a (.dK (L2.mergeK ws ms))) := kp_mut z (fun _ h => nomatch h) fun _ _ h => nomatch h
        exact p _ _ _ _ ht rfl (hr.mut em ⟨_, L2.upd_same, isKs_mergeP (l2.kp kp) (l.kp kp)⟩) (Ext.mut em)
      | _ => exact ht.elim
  · cases x <;> exact ht.elim
theorem mt_splitD : MtR X "str.split" (LMt cl X.K .split) := by
  intro pins s σ H v vs vv us Q I rv rs h
  obtain ⟨x, ds, m, k, hx, hl, hr, ht, p⟩ := h
  rcases ds with _ | ⟨y, _ | ⟨z, r2⟩⟩
  · cases x <;> exact ht.elim
  · cases x <;> first | exact ht.elim | skip
    cases y <;> first | exact ht.elim | skip
    rename_i a b
    cases hx
    obtain ⟨w, e, hy⟩ := isL1 hl
    subst e
    cases hy
    obtain ⟨c, e, h256, hb, ht⟩ := ht
    subst e
    refine L2.mt_split pins s σ H _ _ vv us Q I rv rs ⟨SX.S a, SX.S [c], rfl, rfl, rfl, by rw [SX.S_len]; exact big_le hb, fun q hq => ?_⟩
    rw [SX.split_S (by simp) (by simpa using h256), tlsp]
    refine p _ _ _ _ (ht q (hr.free hq)) rfl (hr.new hq ⟨_, L2.upd_same, ?_⟩) (Ext.tell hq)
    have hm : ∀ ps : List (List Nat), IsL X.K (L2.upd H q (.lst (((splitS c a).map SX.S).map V.str))) (ps.map D.str) ((ps.map SX.S).map V.str) := fun ps => by
      induction ps with
      | nil => rfl
      | cons x r ih => exact ⟨_, _, rfl, rfl, ih⟩
    exact hm _
  · cases x <;> cases y <;> exact ht.elim
theorem mt_get2D (hu : X.A.units + 1 < cLine) : MtR X "dict.get" (LMt cl X.K .get2) := by
  intro pins s σ H v vs vv us Q I rv rs h
  obtain ⟨x, ds, m, k, hx, hl, hr, ht, p⟩ := h
  rcases ds with _ | ⟨y, _ | ⟨z, _ | ⟨z2, r2⟩⟩⟩
  · cases x <;> exact ht.elim
  · cases x <;> exact ht.elim
  · obtain ⟨w1, w2, e, hy, hz⟩ := isL2 hl
    subst e
    obtain ⟨u1, u2, rfl, r1, r2⟩ := L2.vals2 rs
    have ht2 : match dicOf m x with
      | some (false, kvs) => keyK y = true ∧ k ((getKey kvs y).getD z) m
      | some (true, kvs) => keyT y = true ∧ k ((getKey kvs y).getD z) m
      | none => False := by cases x <;> exact ht
    have go : ∀ b kvs, dicOf m x = some (b, kvs) → (if b then keyT y else keyK y) = true → k ((getKey kvs y).getD z) m → wpAny (model X.prog X.w) X.A (call (.builtin "dict.get") (vv :: [u1, u2])) (L2.EP X pins σ Q) X.xe s := fun b kvs ed hk ht => by
      obtain ⟨a, o, e1, g, _, i2, i3⟩ := in_dic (x := y) hy hx hr ed hk
      subst e1
      obtain rfl : vv = Value.ref a := rv
      refine L2.d_get2 hu I g r1 r2 fun w' s4 I4 rw' => ⟨_, H, I4, rw', ?_⟩
      refine p _ _ _ _ ht ?_ hr (Ext.refl H m)
      cases e : getKey kvs y with
      | none =>
        rw [i3 e]
        exact hz
      | some d =>
        obtain ⟨u, e1, e2⟩ := i2 d e
        rw [e1]
        exact e2
    cases ed : dicOf m x with
    | none =>
      rw [ed] at ht2
      exact ht2.elim
    | some q =>
      obtain ⟨b, kvs⟩ := q
      rw [ed] at ht2
      cases b with
      | false => exact go _ _ ed ht2.1 ht2.2
      | true => exact go _ _ ed ht2.1 ht2.2
  · cases x <;> exact ht.elim
theorem mt_get1D (hu : X.A.units + 1 < cLine) : MtR X "dict.get" (LMt cl X.K .get1) := by
  intro pins s σ H v vs vv us Q I rv rs h
  obtain ⟨x, ds, m, k, hx, hl, hr, ht, p⟩ := h
  rcases ds with _ | ⟨y, _ | ⟨z, r2⟩⟩
  · cases x <;> exact ht.elim
  · obtain ⟨w1, e, hy⟩ := isL1 hl
    subst e
    obtain ⟨u1, rfl, r1⟩ := L2.vals1 rs
    have ht2 : match dicOf m x with
      | some (false, kvs) => keyK y = true ∧ k ((getKey kvs y).getD .non) m
      | some (true, kvs) => keyT y = true ∧ k ((getKey kvs y).getD .non) m
      | none => False := by cases x <;> exact ht
    have go : ∀ b kvs, dicOf m x = some (b, kvs) → (if b then keyT y else keyK y) = true → k ((getKey kvs y).getD .non) m → wpAny (model X.prog X.w) X.A (call (.builtin "dict.get") (vv :: [u1])) (L2.EP X pins σ Q) X.xe s := fun b kvs ed hk ht => by
      obtain ⟨a, o, e1, g, _, i2, i3⟩ := in_dic (x := y) hy hx hr ed hk
      subst e1
      obtain rfl : vv = Value.ref a := rv
      refine L2.d_get1 hu I g r1 fun w' s4 I4 rw' => ⟨_, H, I4, rw', ?_⟩
      refine p _ _ _ _ ht ?_ hr (Ext.refl H m)
      cases e : getKey kvs y with
      | none =>
        rw [i3 e]
        exact rfl
      | some d =>
        obtain ⟨u, e1, e2⟩ := i2 d e
        rw [e1]
        exact e2
    cases ed : dicOf m x with
    | none =>
      rw [ed] at ht2
      exact ht2.elim
    | some q =>
      obtain ⟨b, kvs⟩ := q
      rw [ed] at ht2
      cases b with
      | false => exact go _ _ ed ht2.1 ht2.2
      | true => exact go _ _ ed ht2.1 ht2.2
  · cases x <;> exact ht.elim
end
end DL

namespace DL
open PySem PySem.Spec PyProof.Rows
open L2 (V Hp HO SqL SqT TE TT TA TS TG TGs Cx Inv PE PT PW PA PS PSs PG PGs RelV Vals WX OpR UnR CallR IxR SlR MtR)
/-- the class of a number as a value: 9 is ValueError -/
def cvU (cl : Nat → Addr) (k : Nat) : Value := if k = 9 then .type "ValueError" else .ref (cl k)
def cvV (cl : Nat → Addr) (k : Nat) : V := if k = 9 then .ty "ValueError" else .ref (cl k)
theorem cv_ok (cl : Nat → Addr) (k : Nat) : L2.ClsV (cvV cl k) (cvU cl k) := by
  unfold cvV cvU
  split
  · exact .ty _
  · exact .own _
def baseT : List String := ["NoneType", "bool", "int", "str", "tuple", "list", "dict"]
/-- an own class of exceptions, its instances looked at -/
structure ExK (K : PySem.W.Frag) (C : Addr) : Prop where
  xf : L2.XfC K C
  cl : (PySem.W.clsIn K C).isSome = true
  ca : PySem.W.findIn K (.ref C) "__class__" = some (some (.builtin "object.__class__"))
  cg : PySem.W.specialIn K (.builtin "object.__class__") "__get__" = some (some (.builtin "getset_descriptor.__get__"))
  ct : PySem.W.takesIn K (.builtin "object.__class__") = some true
  mo : PySem.W.mroIn K C (.type "object") = some true
structure ExAll (cl : Nat → Addr) (K : PySem.W.Frag) (xc : Nat → Bool) : Prop where
  lt : ∀ c, xc c = true → c < 9
  cls : ∀ c, xc c = true → ExK K (cl c)
  exm : ∀ c k, xc c = true → xc k = true → PySem.W.exmOne K (.ref (cl c)) (.ref (cl k)) = some (excSub c k)
  one : ∀ c k, xc c = true → (xc k = true ∨ k = 9) → PySem.W.kitOne K (.ref (cl c)) (cvU cl k) = some (excSub c k)
  bas : ∀ T k, T ∈ baseT → (xc k = true ∨ k = 9) → PySem.W.kitOne K (.type T) (cvU cl k) = some false
  ecl : ∀ c, xc c = true → cl c = clA K c
  fld : ∀ c f, xc c = true → f ∈ excF c → PySem.W.findIn K (.ref (cl c)) (SX.S f) = some none
def exkB (K : PySem.W.Frag) (C : Addr) : Bool := L2.xfB K C && ((PySem.W.clsIn K C).isSome && (decide (PySem.W.findIn K (.ref C) "__class__" = some (some (.builtin "object.__class__"))) && (decide (PySem.W.specialIn K (.builtin "object.__class__") "__get__" = some (some (.builtin "getset_descriptor.__get__"))) &&
  (decide (PySem.W.takesIn K (.builtin "object.__class__") = some true) && decide (PySem.W.mroIn K C (.type "object") = some true)))))
theorem bAnd {a b : Bool} (h : (a && b) = true) : a = true ∧ b = true := Bool.and_eq_true_iff.mp h
theorem exkB_ok {K : PySem.W.Frag} {C : Addr} (h : exkB K C = true) : ExK K C := by
  obtain ⟨h1, h⟩ := bAnd h
  obtain ⟨h2, h⟩ := bAnd h
  obtain ⟨h3, h⟩ := bAnd h
  obtain ⟨h4, h⟩ := bAnd h
  obtain ⟨h5, h6⟩ := bAnd h
  exact ⟨L2.xfB_ok h1, h2, of_decide_eq_true h3, of_decide_eq_true h4, of_decide_eq_true h5, of_decide_eq_true h6⟩
def exAllB (cl : Nat → Addr) (K : PySem.W.Frag) (xs : List Nat) : Bool := xs.all fun c => decide (c < 9) && (exkB K (cl c) && ((xs.all fun k => decide (PySem.W.exmOne K (.ref (cl c)) (.ref (cl k)) = some (excSub c k))) && (((9 :: xs).all fun k => decide (PySem.W.kitOne K (.ref (cl c)) (cvU cl k) = some (excSub c k))) &&
  ((baseT.all fun T => decide (PySem.W.kitOne K (.type T) (cvU cl c) = some false)) && (excF c).all fun f => decide (PySem.W.findIn K (.ref (cl c)) (SX.S f) = some none)))))
theorem base_ve (K : PySem.W.Frag) (cl : Nat → Addr) : ∀ T ∈ baseT, PySem.W.kitOne K (.type T) (cvU cl 9) = some false := by
  intro T hT
  simp only [baseT, List.mem_cons, List.not_mem_nil, or_false] at hT
  rcases hT with rfl | rfl | rfl | rfl | rfl | rfl | rfl <;> exact L2.kit_ty (by decide +kernel)
theorem exAllB_ok {K : PySem.W.Frag} {xs : List Nat} (h : exAllB (clA K) K xs = true) : ExAll (clA K) K (fun c => xs.contains c) := by
  generalize ecl : clA K = cl at h
  have m : ∀ c, xs.contains c = true → c ∈ xs := fun c hc => by simpa using hc
  have key : ∀ c ∈ xs, c < 9 ∧ ExK K (cl c) ∧ (∀ k ∈ xs, PySem.W.exmOne K (.ref (cl c)) (.ref (cl k)) = some (excSub c k)) ∧ (∀ k ∈ 9 :: xs, PySem.W.kitOne K (.ref (cl c)) (cvU cl k) = some (excSub c k)) ∧ (∀ T ∈ baseT, PySem.W.kitOne K (.type T) (cvU cl c) = some false) ∧ ∀ f ∈ excF c, PySem.W.findIn K (.ref (cl c)) (SX.S f) = some none := fun c hc => by
    have q := List.all_eq_true.mp h c hc
    obtain ⟨q1, q⟩ := bAnd q
    obtain ⟨q2, q⟩ := bAnd q
    obtain ⟨q3, q⟩ := bAnd q
    obtain ⟨q4, q⟩ := bAnd q
    obtain ⟨q5, q6⟩ := bAnd q
    exact ⟨of_decide_eq_true q1, exkB_ok q2, fun k hk => of_decide_eq_true (List.all_eq_true.mp q3 k hk), fun k hk => of_decide_eq_true (List.all_eq_true.mp q4 k hk), fun T hT => of_decide_eq_true (List.all_eq_true.mp q5 T hT), fun f hf => of_decide_eq_true (List.all_eq_true.mp q6 f hf)⟩
  exact {
    lt := fun c hc => (key c (m c hc)).1
    cls := fun c hc => (key c (m c hc)).2.1
    exm := fun c k hc hk => (key c (m c hc)).2.2.1 k (m k hk)
    one := fun c k hc hk => (key c (m c hc)).2.2.2.1 k (by rcases hk with z | z; exact List.mem_cons_of_mem _ (m k z); rw [z]; exact List.mem_cons_self)
    bas := fun T k hT hk => by
      rcases hk with z | z
      · exact (key k (m k z)).2.2.2.2.1 T hT
      · rw [z]; exact base_ve K cl T hT
    ecl := fun c _ => by rw [ecl]
    fld := fun c f hc hf => (key c (m c hc)).2.2.2.2.2 f hf }
section
variable {X : Cx} {cl : Nat → Addr}
/-- a value that is no exception: its type -/
def noExc (m : Mem) : D → Prop
  | .non => True | .bl _ => True | .int _ => True | .str _ => True | .tup _ => True | .ktup _ => True | .rol _ => True
  | .ref a => match m a with
    | some (.lst _) => True
    | some (.dK _) => True
    | some (.dT _) => True
    | _ => False
  | _ => False
theorem base_ty {H : Hp} {x : D} {v : V} {m : Mem} (hx : IsV X.K H x v) (hr : Rep cl X.K H m) (hn : noExc m x) : ∃ T, T ∈ baseT ∧ L2.TyX X.K H v (.type T) := by
  cases x with
  | int i => cases hx; exact ⟨"int", by decide, .base (.int i)⟩
  | bl i => cases hx; exact ⟨"bool", by decide, .base (.bl i)⟩
  | str i => cases hx; exact ⟨"str", by decide, .base (.str _)⟩
  | non => cases hx; exact ⟨"NoneType", by decide, .base .non⟩
  | tup ds =>
    obtain ⟨a, vs, e, tt, l⟩ := hx
    subst e
    exact ⟨"tuple", by decide, .base (.tup tt)⟩
  | ktup ds =>
    obtain ⟨a, vs, e, tt, l⟩ := hx
    subst e
    rcases tt with (tt | ⟨o, tt⟩) | ⟨o, its, n, e1, e2, _⟩
    · cases tt
    · cases tt
    · exact ⟨"tuple", by decide, .kTuple e1 e2⟩
  | rol ds =>
    obtain ⟨a, vs, e, ⟨o, tt⟩, l⟩ := hx
    subst e
    exact ⟨"list", by decide, .base (.frz tt)⟩
  | ref a =>
    cases hx
    have hn : (match m a with | some (.lst _) => True | some (.dK _) => True | some (.dT _) => True | _ => False) := hn
    cases e : m a with
    | none => rw [e] at hn; exact hn.elim
    | some o =>
      rw [e] at hn
      have q := hr a o e
      cases o with
      | lst ds => obtain ⟨vs, z, _⟩ := q; exact ⟨"list", by decide, .base (.lst z)⟩
      | dK kvs => obtain ⟨ws, z, _⟩ := q; exact ⟨"dict", by decide, .base (.dK z)⟩
      | dT kvs => obtain ⟨ws, z, _⟩ := q; exact ⟨"dict", by decide, .base (.dT z)⟩
      | ins c fs => exact hn.elim
  | _ => exact hn.elim
theorem rIsX_base {xc : Nat → Bool} {ks : List Nat} {x : D} {m : Mem} {k : Bool → Prop} (h : rIsX xc ks x m k) : (∃ c fn vs, x = .exc c fn vs ∧ xc c = true ∧ k (ks.any fun j => excSub c j)) ∨ (noExc m x ∧ k false) := by
  cases x with
  | exc c fn vs => exact .inl ⟨c, fn, vs, rfl, h.1, h.2⟩
  | ref a =>
    have h : (match m a with
      | some (.lst _) => k false
      | some (.dK _) => k false
      | some (.dT _) => k false
      | some (.ins _ _) => False
      | none => False) := h
    have go : (match m a with | some (.lst _) => True | some (.dK _) => True | some (.dT _) => True | _ => False) ∧ k false := by
      cases e : m a with
      | none => rw [e] at h; exact h.elim
      | some o =>
        rw [e] at h
        cases o <;> first | exact ⟨trivial, h⟩ | exact h.elim
    exact .inr go
  | _ => first | exact .inr ⟨trivial, h⟩ | exact h.elim
theorem kitAny_of {K : PySem.W.Frag} {t : Value} {f : Nat → Bool} {g : Nat → Value} : ∀ {ks : List Nat}, (∀ k ∈ ks, PySem.W.kitOne K t (g k) = some (f k)) → PySem.W.kitAny K t (ks.map g) = some (ks.any f)
  | [], _ => rfl
  | k :: ks, h => L2.kitAny_cons (h k List.mem_cons_self) (fun e => by rw [kitAny_of fun j hj => h j (List.mem_cons_of_mem _ hj), List.any_cons, e]; rfl) (fun e => by rw [List.any_cons, e]; rfl)
/-- an exception that stands in the heap, as isinstance looks at it -/
theorem kit_exc {pins : List (Addr × Obj)} {s : Shared} {σ : L2.St} {H : Hp} {xc : Nat → Bool} (A : ExAll cl X.K xc) (I : Inv X pins σ H s) {c : Nat} {fn : List (List Nat)} {vs : List D} {v : V} (hx : IsV X.K H (.exc c fn vs) v) (hc : xc c = true) : ∃ (a : Addr) (P : Heap → Prop), v = .ref a ∧ PySem.W.KitX X.K (.ref a) (.ref (cl c)) P ∧ P s.heap := by
  obtain ⟨a, ws, rfl, _, _, oe, u, ha, ec, ⟨fs, ed⟩, hd⟩ := hx
  have T := A.cls c hc
  rw [← A.ecl c hc] at ec
  obtain ⟨e1, _⟩ := (show L2.ObjOk X.prog X.w H s.heap a (.frz oe u) from I.hok a _ ha)
  have no : PySem.W.notCls oe = true := by unfold PySem.W.notCls; rw [ed]
  have fin : ∀ od, PySem.W.InstAt s.heap a oe (cl c) od → ∃ (b : Addr) (P : Heap → Prop), V.ref a = .ref b ∧ PySem.W.KitX X.K (.ref b) (.ref (cl c)) P ∧ P s.heap := fun od J => ⟨a, _, rfl, PySem.W.kitx_exc T.cl T.xf.ga T.xf.gg T.xf.exC T.ca T.cg T.ct T.mo, J⟩
  rcases hd with ⟨_, hd⟩ | ⟨d, od, hd, h2⟩
  · exact fin none ⟨e1, ec, no, by rw [hd]; trivial⟩
  · obtain ⟨e2, _⟩ := (show L2.ObjOk X.prog X.w H s.heap d (.frz od _) from I.hok d _ h2)
    exact fin (some od) ⟨e1, ec, no, by rw [hd]; exact e2⟩
theorem isx_one {pins : List (Addr × Obj)} {s : Shared} {σ : L2.St} {H : Hp} {xc : Nat → Bool} {k : Nat} {x : D} {v : V} {us : List Value} {Q : V → Hp → Prop} {m : Mem} {kk : Bool → Prop} (A : ExAll cl X.K xc) (hk : xc k = true ∨ k = 9) (I : Inv X pins σ H s) (r : Vals [v, cvV cl k] us)
    (hx : IsV X.K H x v) (hr : Rep cl X.K H m) (ht : rIsX xc [k] x m kk) (q : ∀ b, kk b → Q (.bl b) H) : wpAny (model X.prog X.w) X.A (call (.builtin "isinstance") us) (L2.EP X pins σ Q) X.xe s := by
  rcases rIsX_base ht with ⟨c, fn, vs, rfl, hc, hkk⟩ | ⟨hn, hkk⟩
  · obtain ⟨a, P, rfl, Z, p⟩ := kit_exc A I hx hc
    obtain ⟨u1, u2, rfl, r1, r2⟩ := L2.vals2 r
    have e2 := (cv_ok cl k).eq r2
    subst e2
    obtain rfl : u1 = Value.ref a := r1
    have e := A.one c k hc hk
    refine PySem.W.kia_one Z I.kIn p e (fun z => nomatch z) fun tk => ⟨.bl (excSub c k), H, I.tok tk, rfl, q _ ?_⟩
    simpa using hkk
  · obtain ⟨T, hT, ty⟩ := base_ty hx hr hn
    exact L2.call_isi pins s σ H _ us Q I r ⟨v, cvV cl k, .type T, cvU cl k, false, rfl, cv_ok cl k, ty, A.bas T k hT hk, q _ hkk⟩
theorem isx_tup {pins : List (Addr × Obj)} {s : Shared} {σ : L2.St} {H : Hp} {xc : Nat → Bool} {ks : List Nat} {tp : Addr} {x : D} {v : V} {us : List Value} {Q : V → Hp → Prop} {m : Mem} {kk : Bool → Prop} (A : ExAll cl X.K xc) (hk : ∀ k ∈ ks, xc k = true ∨ k = 9) (I : Inv X pins σ H s) (r : Vals [v, .ref tp] us) (hT : H tp = some (.tup (ks.map (cvV cl))))
    (hx : IsV X.K H x v) (hr : Rep cl X.K H m) (ht : rIsX xc ks x m kk) (q : ∀ b, kk b → Q (.bl b) H) : wpAny (model X.prog X.w) X.A (call (.builtin "isinstance") us) (L2.EP X pins σ Q) X.xe s := by
  have cvs : ∀ ks : List Nat, Paired L2.ClsV (ks.map (cvV cl)) (ks.map (cvU cl)) := fun ks => by
    induction ks with
    | nil => exact .nil
    | cons k ks ih => exact .cons (cv_ok cl k) ih
  rcases rIsX_base ht with ⟨c, fn, vs, rfl, hc, hkk⟩ | ⟨hn, hkk⟩
  · obtain ⟨a, P, rfl, Z, p⟩ := kit_exc A I hx hc
    obtain ⟨u1, u2, rfl, r1, r2⟩ := L2.vals2 r
    obtain rfl : u2 = Value.ref tp := r2
    obtain rfl : u1 = Value.ref a := r1
    obtain ⟨_, its, rv, ⟨oc, od, dt, sl⟩, h1, h2, n, h3⟩ := (show L2.ObjOk X.prog X.w H s.heap tp (.tup _) from I.hok tp _ hT)
    have e3 := L2.ClsV.all (cvs ks) rv
    subst e3
    simp only at h2 h3
    subst h2 h3
    exact PySem.W.kia_tup Z I.kIn p h1 (kitAny_of fun k hk' => A.one c k hc (hk k hk')) (fun z => nomatch z) fun tk => ⟨.bl _, H, I.tok tk, rfl, q _ hkk⟩
  · obtain ⟨T, hT', ty⟩ := base_ty hx hr hn
    refine L2.call_isiT pins s σ H _ us Q I r ⟨v, tp, _, .type T, ks.map (cvU cl), false, rfl, hT, cvs ks, ty, ?_, q _ hkk⟩
    have := kitAny_of (K := X.K) (t := .type T) (f := fun _ => false) (g := cvU cl) fun k hk' => A.bas T k hT' (hk k hk')
    rw [this]
    simp
end
end DL

namespace DL
open PySem PySem.Spec PyProof.Rows
open L2 (V Hp FnScope Room)
theorem key2_call {P : Program} {w : World} {K : PySem.W.Frag} {A : Around} {s : Shared} {x qual y : Str} {params : Arguments} {scope : Scope} {f : Addr} {fd : FuncData} {p1 p2 p3 p4 : Pos} {cc : Nat} {k : PyData} {a : Addr} {its : Array Value} {u1 : Value}
    (F : L2.FunD K x qual params [.Return (some (.Subscript (.Name y p1) (.Constant (.int 1) cc p2) p3)) p4] scope [] [] f fd) (S : FnScope [y] [y] scope) (hb : ∀ (s : Shared) (v : Value), BindsTo s fd ⟨[v], []⟩ [(y, v)])
    (hl : scope.names.lookup y = some .local) (hd : (y == ("__debug__" : Str)) = false) (hr : A.depth < recursionLimit) (KX : K.In s.heap) (lim : s.heap.NoLimit) (ht : IsTup s.heap a its) (h2 : its[1]? = some u1) (rd : Reads s.heap u1 k []) :
    wpAny (model P w) A (call (.ref f) [.ref a]) (PySem.W.KeyPure k s) (fun _ _ => False) s := by
  obtain ⟨oc, od, dV, kV, doc, pm, an, cdv, ct, osl, rfl, lk, hcd, _, _⟩ := F.ex
  refine wpAny_call ?_
  refine codeAny_call_function hr (KX _ _ lk) rfl S.co S.gen rfl (PySem.W.codeRec_of KX hcd) (hb _ _ _ _ _ _ ?_)
  have hkind : ∀ z ∈ ([(y, Value.ref a)] : List (Str × Value)), scope.names.lookup z.1 = some .local ∨ (scope.names.lookup z.1 = some .cell ∧ ((cellsFrom (s.heap.objs.size + 1) scope.names []).lookup z.1).isSome = true) := fun z hz => by
    rcases List.mem_singleton.mp hz with rfl
    rcases S.par y (List.mem_singleton.mpr rfl) with q | q
    · exact .inl q
    · exact .inr ⟨q, PySem.W.cellsFrom_some _ _ _ (.inl q)⟩
  refine wpAny_newFunctionEnv_cells S.kind hkind fun env he s1 x => ?_
  subst he
  refine ⟨lim.keeps x.toInCall.keep, codeAny_func ?_⟩
  obtain ⟨h1, tk, rfl, hk⟩ := x.done
  refine wpAny_execs_cons ?_
  refine wpAny_Return_some ?_
  refine Subscript_ ?_
  have ht1 : IsTup h1 a its := by
    obtain ⟨o, ho, hc, n, hd⟩ := ht
    exact ⟨o, hk a o ho, hc, n, hd⟩
  have hlen := (Array.getElem?_eq_some_iff.mp h2).1
  refine wpAny_Name (wpAny_loadName_local (v := .ref a) S.kind hl x.toInCall.ns (L2.bindL_get (P := [y]) (vs := [Value.ref a]) (i := 0) (List.pairwise_singleton _ _) rfl rfl hl) ?_) hd
  refine wpAny_Constant_int ?_
  refine item_tupleT (l := its.toList) (j := 1) (by simpa using ht1) (by decide) (by decide) ?_ (by simpa using h2) ?_ ?_
  · rw [Array.length_toList]
    unfold seqIndex?
    have h3 : (if (1 : Int) < 0 then (1 : Int) + its.size else 1) = 1 := if_neg (by decide)
    have h4 : (decide ((0 : Int) ≤ 1) && decide ((1 : Int) < its.size)) = true := by simp; omega
    dsimp only
    rw [h3, if_pos h4]
    rfl
  · exact ⟨_, _, rfl, hk, Reads.keeps hk rd⟩
  · with_unfolding_all rfl
/-- the parameter's name of a body that tells the second of it -/
def secondOf : List Stmt → Option Str
  | [.Return (some (.Subscript (.Name y _) (.Constant (.int 1) _ _) _)) _] => some y
  | _ => none
theorem secondOf_ok {b : List Stmt} {y : Str} (h : secondOf b = some y) : ∃ p1 cc p2 p3 p4, b = [.Return (some (.Subscript (.Name y p1) (.Constant (.int 1) cc p2) p3)) p4] := by
  unfold secondOf at h
  split at h
  · cases h
    exact ⟨_, _, _, _, _, rfl⟩
  · cases h
/-- a global name of such a def -/
def Key2 (K : PySem.W.Frag) (mg : Str → Option Value) (x : Str) : Prop := ∃ (f : Addr) (fd : FuncData) (nm qual y : Str) (params : Arguments) (body : List Stmt) (scope : Scope), mg x = some (.ref f) ∧ L2.FunD K nm qual params body scope [] [] f fd ∧ FnScope [y] [y] scope ∧ secondOf body = some y ∧ (∀ (s : Shared) (v : Value), BindsTo s fd ⟨[v], []⟩ [(y, v)]) ∧ scope.names.lookup y = some .local ∧ (y == ("__debug__" : Str)) = false
theorem Key2.call {P : Program} {w : World} {K : PySem.W.Frag} {mg : Str → Option Value} {x : Str} (h : Key2 K mg x) : ∃ f, mg x = some (.ref f) ∧ PySem.W.keepIn K (.ref f) = true ∧ ∀ {A : Around} {s : Shared} {k : PyData} {a : Addr} {its : Array Value} {u1 : Value}, A.depth < recursionLimit → K.In s.heap → s.heap.NoLimit → IsTup s.heap a its → its[1]? = some u1 → Reads s.heap u1 k [] →
    wpAny (model P w) A (call (.ref f) [.ref a]) (PySem.W.KeyPure k s) (fun _ _ => False) s := by
  obtain ⟨f, fd, nm, qual, y, params, body, scope, h1, h2, h3, h4, h5, h6, h7⟩ := h
  obtain ⟨p1, cc, p2, p3, p4, rfl⟩ := secondOf_ok h4
  exact ⟨f, h1, h2.kp, fun a b c d e g => key2_call h2 h3 h5 h6 h7 a b c d e g⟩
end DL

namespace L2.Fi
open PySem PySem.Spec PyProof.Rows
structure RoomF (k : Nat) (A : Around) : Prop where
  hd : A.handled = none
  dp : A.depth + k + 40 < recursionLimit
  un : A.units + 8 * k + 600 < cLine
theorem RoomF.mono {j k : Nat} {A : Around} (r : RoomF k A) (h : j ≤ k) : RoomF j A := ⟨r.hd, by have := r.dp; omega, by have := r.un; omega⟩
theorem RoomF.deeper {k : Nat} {A : Around} (r : RoomF (k + 1) A) (env : Env) : RoomF k (A.deeper env) :=
  ⟨r.hd, by have := r.dp; show A.depth + 1 + k + 40 < _; omega, by have := r.un; show A.units + 3 + 8 * k + 600 < _; omega⟩
theorem RoomF.make {k : Nat} {A : Around} (r : RoomF (k + 1) A) (C : Addr) (us : List Value) (kw : List (Str × Value)) : RoomF k (A.under (.builtin "type.__call__" ⟨.ref C :: us, kw⟩)) :=
  ⟨r.hd, by have := r.dp; rw [L2.make_depth]; omega, by have := r.un; rw [L2.make_units]; omega⟩
theorem RoomF.depth {k : Nat} {A : Around} (r : RoomF k A) : A.depth < recursionLimit := by have := r.dp; omega
theorem RoomF.room {k : Nat} {A : Around} (r : RoomF k A) : L2.Room 8 A := ⟨r.hd, by have := r.dp; omega, by have := r.un; omega⟩
structure FnD (P : Program) (w : World) (K : PySem.W.Frag) (mg : Str → Option Value) (base : Heap) (CX : CXT) (k : Nat) (f : Addr) (fd : FuncData) (ps : List Str) (sp : Sp) : Prop where
  len : ∀ vs H Q E, sp vs H Q E → vs.length = ps.length
  run : ∀ (A : Around) (outer : List Env) (s : Shared) (H : Hp) (args : Args) (us : List Value) (vs : List V) (Q : VK) (E : XK), RoomF k A → Env0 P w K mg base A outer s H → BindsTo s fd args (ps.zip us) → Vals vs us → sp vs H Q E →
    codeAny (model P w) A (.call (.ref f) args) (CR CX outer P w H s Q E) s
theorem FnD.fnok {P : Program} {w : World} {K : PySem.W.Frag} {mg : Str → Option Value} {base : Heap} {CX : CXT} {k : Nat} {f : Addr} {fd : FuncData} {ps : List Str} {sp : Sp} (F : FnD P w K mg base CX k f fd ps sp) (h : k ≤ 400) : L2.FnOk P w K mg base CX 231 f fd ps sp :=
  ⟨F.len, fun A outer s H args us vs Q E hr => F.run A outer s H args us vs Q E ⟨hr.hd, by have := hr.dp; omega, by have := hr.un; omega⟩⟩
section
variable {X : Cx} {CX : CXT} {k : Nat} {f C : Addr} {fd : FuncData} {ps : List Str} {sp : Sp} {x m : Str} {p pos apos : Pos} {e o : Expr} {es : List Expr} {ta : TE} {t : TA} {E : St → XK}
theorem run_fnD {pins : List (Addr × Obj)} {σ : St} {H : Hp} {s : Shared} {Q : VK} {us : List Value} {vs : List V} (F : FnD X.prog X.w X.K X.mg X.base CX k f fd ps sp) (hr : RoomF k X.A) (hb : Binds X.K fd ps []) (hx : PassesAt CX X σ (E σ))
    (I : Inv X pins σ H s) (r : Vals vs us) (h : sp vs H Q (E σ)) : wpAny (model X.prog X.w) X.A (call (.ref f) us) (EP X pins σ Q) X.xe s := by
  have hl : us.length = ps.length := by rw [← r.length]; exact F.len _ _ _ _ h
  have b := hb s us I.kIn (by rw [List.append_nil]; exact hl)
  rw [List.append_nil] at b
  refine wpAny_call (codeAny_mono (F.run X.A X.stack s H ⟨us, []⟩ us vs Q (E σ) hr I.env0 b r h) fun r s' hq => ?_)
  cases r with
  | error e => exact hx pins H s e s' I hq
  | ok fl =>
    cases fl with
    | ret u => exact I.after hq
    | next => exact False.elim hq
    | brk => exact False.elim hq
    | cont => exact False.elim hq
theorem pe_callF (F : FnD X.prog X.w X.K X.mg X.base CX k f fd ps sp) (hr : RoomF k X.A) (hg : Gl X x) (hm : X.mg x = some (.ref f)) (hk : PySem.W.keepIn X.K (.ref f) = true) (hb : Binds X.K fd ps []) (hx : ∀ σ, PassesAt CX X σ (E σ))
    (ha : PA X (e :: es) t) (hdb : (x == ("__debug__" : Str)) = false := by decide) (he : starEach (e :: es) X.env = (false, eval e X.env) :: starEach es X.env := by rfl) (hpl : (backTo pos (starEach es X.env)).any (·.1) = false := by rfl) :
    PE X (.Call (.Name x p) (e :: es) [] pos) (L2.tCallS sp E t) := by
  refine ⟨fun pins s σ H Q I h => ?_⟩
  refine wpAny_Call_Name_kw (L2.ld_glob I hg hm ?_ hdb)
  refine PySem.W.callWith_K (h₀ := X.base) I.ok.mod.kin hk (L2.thn (ha.run pos pins s σ H _ I h) fun us s1 ⟨vs, H1, I1, r, q⟩ => ⟨I1.kIn, ?_⟩) he hpl
  exact run_fnD F hr hb (hx σ) I1 r q
end
theorem fn_ofD {CX : CXT} {P : Program} {w : World} {K : PySem.W.Frag} {mg : Str → Option Value} {base : Heap} {k : Nat} {f : Addr} {name qual : Str} {params : Arguments} {body : List Stmt} {scope : Scope} {dV kV doc pm cdv ct oc : Value} {an od : Option Addr}
    {osl : Array (Option Value)} {N ps : List Str} {sp : Sp} (lk : K.lookup f = some ⟨oc, od, .func (PySem.W.fnOf name qual params body scope dV kV doc pm an cdv ct), osl⟩) (hcd : PySem.W.codeIn K cdv qual = true) (S : FnScope N ps scope)
    (len : ∀ vs H Q E, sp vs H Q E → vs.length = ps.length)
    (hbody : ∀ (A : Around) (outer : List Env) (s : Shared) (H : Hp) (vs : List V) (Q : VK) (E : XK), RoomF k (A.deeper (envOfC qual scope s.heap.objs.size f cdv)) → sp vs H Q E →
      ∃ t, PSs (L2.cxOf CX P w K mg base N qual scope f cdv A outer s H E) body t ∧ t { nx := fun _ H' => Q .non H', rt := Q } (L2.start N vs) H) :
    FnD P w K mg base CX (k + 1) f (PySem.W.fnOf name qual params body scope dV kV doc pm an cdv ct) ps sp := by
  refine ⟨len, fun A outer s H args us vs Q E hr e0 hb r hsp => ?_⟩
  have hl := len _ _ _ _ hsp
  have KX : K.In s.heap := e0.mod.kin.keeps fun b o e => (e0.bs b o e).1
  have lim : s.heap.NoLimit := e0.mod.nolimit.keeps fun b o e => (e0.bs b o e).1
  have hkind : ∀ y ∈ ps.zip us, scope.names.lookup y.1 = some .local ∨ (scope.names.lookup y.1 = some .cell ∧ ((cellsFrom (s.heap.objs.size + 1) scope.names []).lookup y.1).isSome = true) := fun ⟨n, v⟩ hy => by
    rcases S.par n (List.of_mem_zip hy).1 with q | q
    · exact .inl q
    · exact .inr ⟨q, PySem.W.cellsFrom_some _ _ _ (.inl q)⟩
  refine codeAny_call_function hr.depth (KX _ _ lk) rfl S.co S.gen rfl (PySem.W.codeRec_of KX hcd) (hb _ _ _ _ ?_)
  refine wpAny_newFunctionEnv_cells S.kind hkind fun env he s1 x => ?_
  subst he
  refine ⟨lim.keeps x.toInCall.keep, codeAny_func ?_⟩
  obtain ⟨t, ht, hq⟩ := hbody A outer s H vs Q E (hr.deeper _) hsp
  have I : Inv (L2.cxOf CX P w K mg base N qual scope f cdv A outer s H E) [] (L2.start N vs) H s1 := L2.inv_start S hr.hd e0 hl r x
  refine wpAny_mono (ht.run [] s1 (L2.start N vs) H _ I hq) (fun fl s' hs => ?_) fun e s' hs => hs
  have fin : ∀ {σ' : St} {H' : Hp} {v : V} {u : Value}, Inv (L2.cxOf CX P w K mg base N qual scope f cdv A outer s H E) [] σ' H' s' → L2.RelV v u → Q v H' → CE outer P w H s Q u s' :=
    fun {σ' H' v u} J rv q => ⟨v, H', J.os, J.bare, J.base, J.hok, rv, q⟩
  cases fl with
  | ret u =>
    obtain ⟨v, σ', H', J, rv, q⟩ := hs
    exact fin J rv q
  | next =>
    obtain ⟨σ', H', J, q⟩ := hs
    exact fin (v := V.non) (u := Value.none) J rfl q
  | brk =>
    obtain ⟨_, _, _, q⟩ := hs
    exact False.elim q
  | cont =>
    obtain ⟨_, _, _, q⟩ := hs
    exact False.elim q
theorem fund_okD {CX : CXT} {P : Program} {w : World} {K : PySem.W.Frag} {mg : Str → Option Value} {base : Heap} {k : Nat} {f : Addr} {fd : FuncData} {x qual : Str} {params : Arguments} {body : List Stmt} {scope : Scope} {dvs : List V} {kws : List (Str × V)} {N ps : List Str} {sp : Sp} (F : FunD K x qual params body scope dvs kws f fd) (S : FnScope N ps scope) (len : ∀ vs H Q E, sp vs H Q E → vs.length = ps.length)
    (hbody : ∀ (cdv : Value) (A : Around) (outer : List Env) (s : Shared) (H : Hp) (vs : List V) (Q : VK) (E : XK), RoomF k (A.deeper (envOfC qual scope s.heap.objs.size f cdv)) → sp vs H Q E →
      ∃ t, PSs (L2.cxOf CX P w K mg base N qual scope f cdv A outer s H E) body t ∧ t { nx := fun _ H' => Q .non H', rt := Q } (L2.start N vs) H) : FnD P w K mg base CX (k + 1) f fd ps sp := by
  obtain ⟨oc, od, dV, kV, doc, pm, an, cdv, ct, osl, rfl, lk, hcd, _, _⟩ := F.ex
  exact fn_ofD lk hcd S len fun A outer s H vs Q E hr hsp => hbody cdv A outer s H vs Q E hr hsp
end L2.Fi
namespace DL
open PySem PySem.Spec PyProof.Rows
open L2 (V Hp)
def spIni (K : PySem.W.Frag) (f : Str) : L2.Sp := fun vs H Q _ => ∃ (a C : Addr) (y : V), vs = [.ref a, y] ∧ L2.OexC K C ∧ PySem.W.findIn K (.ref C) f = some none ∧ H a = some (L2.exo a C none) ∧ ∀ dx, H dx = none → dx ≠ a → Q .non (L2.upd (L2.upd H dx (L2.exd dx [(f, y)])) a (L2.exo a C (some dx)))
structure Rz (cl : Nat → Addr) (P : Program) (w : World) (K : PySem.W.Frag) (mg : Str → Option Value) (base : Heap) (k : Nat) (x : Str) (j : Nat) : Prop where
  at_ : mg x = some (.ref (cl j))
  kp : PySem.W.keepIn K (.ref (cl j)) = true
  ex : PySem.W.subIn K (.ref (cl j)) (.type "BaseException") = some true
  ty : PySem.W.typeIn K (.ref (cl j)) = some (.type "type")
  bare : excF j = [] → PySem.W.excIn K (cl j) He.veBase "ValueError.__new__" = true
  ini : ∀ f, excF j = [f] → 2 ≤ k ∧ L2.OexC K (cl j) ∧ PySem.W.findIn K (.ref (cl j)) (SX.S f) = some none ∧ ∃ fI fd ps, L2.FnOk P w K mg base (L2.CX P w) 1 fI fd ps (spIni K (SX.S f)) ∧ PySem.W.findIn K (.ref (cl j)) "__init__" = some (some (.ref fI)) ∧ PySem.W.typeIn K (.ref fI) = some (.type "function") ∧ L2.Binds K fd ps []
end DL

namespace DL
open PySem PySem.Spec PyProof.Rows
open L2 (V Hp HO SqL SqT TE TT TA TS TG TGs Cx Inv PE PT PW PA PS PSs PG PGs RelV Vals WX OpR UnR CallR IxR SlR MtR)

/-- what names mean in the module at hand -/
structure Ctx where
  N : List Str
  own : List (Str × (Nat × Nat))
  glb : List (Str × Nat)
  free : List Str
  /-- classes that are made here: their numbers, how many arguments; methods by the receiver's last name: the class, how many arguments -/
  cls : List (Str × (Nat × Nat)) := []
  mth : List ((Str × Str) × (Nat × Nat)) := []
  /-- classes of exceptions by their names; names that hold caught ones; whether an exception is being handled -/
  exc : List (Str × Nat) := []
  exr : List (Str × Nat) := []
  xv : List Str := []
  hot : Bool := false
  /-- a receiver's last name and a method: of the other type of the two (a dict's pop, a list's clear) -/
  bd : List (Str × Str) := []
  /-- own defs that tell the second of a pair -/
  k2 : List Str := []
/-- .. within an except suite -/
def Ctx.suite (c : Ctx) (xs : List Str) : Ctx := { c with own := [], cls := [], mth := [], k2 := [], free := c.free.filter fun x => x == "isinstance" || x == "ValueError", xv := xs ++ c.xv, hot := true }
def slotOf : List Str → Str → Option Nat
  | [], _ => none
  | y :: r, x => if y = x then some 0 else (slotOf r x).map (· + 1)
theorem slotOf_get : ∀ {N : List Str} {x : Str} {i : Nat}, slotOf N x = some i → N[i]? = some x
  | [], _, _, h => by cases h
  | y :: r, x, i, h => by
    unfold slotOf at h
    by_cases e : y = x
    · rw [if_pos e] at h
      cases h
      rw [e]
      rfl
    · rw [if_neg e] at h
      obtain ⟨j, e1, e2⟩ := Option.map_eq_some_iff.mp h
      subst e2
      exact slotOf_get (N := r) e1
def isGl (sc : Scope) (x : Str) : Bool := decide (sc.names.lookup x = some .globalImplicit) && !(x == ("__debug__" : Str)) && !(x == ("__name__" : Str))
def isVis (sc : Scope) (x : Str) : Bool := decide (sc.names.lookup x = some .local) || decide (sc.names.lookup x = some .cell) || decide (sc.names.lookup x = some .free)
def isLoc (sc : Scope) (x : Str) : Bool := decide (sc.names.lookup x = some .local)
def isLocC (sc : Scope) (x : Str) : Bool := decide (sc.names.lookup x = some .local) || decide (sc.names.lookup x = some .cell)
def plainName (x : Str) : Bool := !(x == ("__debug__" : Str)) && !(x == ("__classdict__" : Str))
def cName (c : Ctx) (sc : Scope) (x : Str) : Option Ex :=
  if isVis sc x && plainName x then (slotOf c.N x).map .var
  else if isGl sc x then (c.glb.lookup x).map .glob else none
def cConst : Const → Option Ex
  | .int i => some (.int i)
  | .str x => some (.str x.cps.toList)
  | .bool b => some (.bl b)
  | .none => some .non
  | _ => none
def cOp : Operator → Option BOp
  | .Add => some .add | .Sub => some .sub | .Mult => some .mul | .FloorDiv => some .fdiv | .Mod => some .mod | .Pow => some .pow
  | _ => none
def cCmp : CmpOp → Option COp
  | .Eq => some .eq | .NotEq => some .ne | .Lt => some .lt | .LtE => some .le | .Gt => some .gt | .GtE => some .ge | .In => some .isin | .NotIn => some .notin | .Is => some .is | .IsNot => some .isnot
/-- built-ins by their names and how many arguments they are given -/
def bltTab : List (Str × (Nat × Blt)) := [("len", (1, .len)), ("int", (1, .int)), ("str", (1, .str)), ("list", (1, .list)), ("all", (1, .all)), ("any", (1, .any)), ("sum", (1, .sum)), ("max", (2, .max2)), ("min", (2, .min2)), ("tuple", (1, .tuple)), ("dict", (1, .dict)), ("sorted", (1, .sorted))]
def tabOf {β : Type} (l : List (Str × (Nat × β))) (x : Str) (n : Nat) : Option β := (l.find? fun q => q.1 == x && q.2.1 == n).map (·.2.2)
theorem tabOf_mem {β : Type} {l : List (Str × (Nat × β))} {x : Str} {n : Nat} {b : β} (h : tabOf l x n = some b) : (x, (n, b)) ∈ l := by
  obtain ⟨q, h1, h2⟩ := Option.map_eq_some_iff.mp h
  have h3 := List.find?_some h1
  rw [Bool.and_eq_true, beq_iff_eq, beq_iff_eq] at h3
  have h4 := List.mem_of_find?_eq_some h1
  obtain ⟨y, k, c⟩ := q
  obtain ⟨h5, h6⟩ := h3
  dsimp only at h5 h6 h2
  subst h5 h6 h2
  exact h4
def bltOf (x : Str) (n : Nat) : Option Blt := tabOf bltTab x n
def tyOf (x : Str) : Option Blt :=
  if x = "int" then some .isInt
  else if x = "bool" then some .isBool
  else if x = "str" then some .isStr
  else if x = "list" then some .isList
  else if x = "tuple" then some .isTuple
  else if x = "dict" then some .isDict
  else none
def bmTab : List (Str × (Nat × Bm)) := [("append", (1, .append)), ("extend", (1, .extend)), ("pop", (0, .pop)), ("join", (1, .join)), ("split", (1, .split)), ("get", (2, .get2)), ("index", (1, .index)), ("clear", (0, .clear)), ("pop", (1, .popAt)), ("get", (1, .get1)), ("count", (1, .count)), ("update", (1, .update))]
def bmTabD : List (Str × (Nat × Bm)) := [("pop", (1, .popD)), ("clear", (0, .clearL)), ("index", (1, .indexL))]
def bmOf (bd : List (Str × Str)) (r x : Str) (n : Nat) : Option Bm := if bd.contains (r, x) = true then tabOf bmTabD x n else tabOf bmTab x n
theorem bmOf_mem {bd : List (Str × Str)} {r x : Str} {n : Nat} {b : Bm} (h : bmOf bd r x n = some b) : (x, (n, b)) ∈ bmTab ++ bmTabD := by
  unfold bmOf at h
  split at h
  · exact List.mem_append_right _ (tabOf_mem h)
  · exact List.mem_append_left _ (tabOf_mem h)
/-- no star, no cut, no set: an expression that is itself -/
def plainE : Expr → Bool
  | .Starred .. => false
  | .Slice .. => false
  | .Set .. => false
  | .NamedExpr .. => false
  | .Lambda .. => false
  | .Await .. => false
  | .Yield .. => false
  | .YieldFrom .. => false
  | _ => true
/-- no call without arguments of a name: super() alone is taken apart -/
def baseE : Expr → Bool
  | .Call (.Name _ _) [] [] _ => false
  | _ => true
/-- the last name of a receiver -/
def rk : Expr → Str
  | .Name x _ => x
  | .Attribute _ f _ => f
  | .Call (.Name x _) _ _ _ => x
  | .Call (.Attribute _ f _) _ _ _ => f
  | .Subscript (.Name x _) _ _ => x
  | .Subscript (.Attribute _ f _) _ _ => f
  | _ => ""
/-- range(..) alone -/
def isRng : List Expr → Bool
  | [.Call (.Name y _) _ [] _] => y == "range"
  | _ => false
/-- zip(a, b) alone -/
def isZip : List Expr → Bool
  | [.Call (.Name y _) [_, _] [] _] => y == "zip"
  | _ => false
def isLc : List Expr → Bool
  | [.ListComp _ _ _ _] => true
  | _ => false
/-- an own class of exceptions that is made -/
def mkOf (c : Ctx) (x : Str) (n : Nat) : Option Nat := if c.hot = true then none else (c.exr.lookup x).bind fun j => if (excF j).length = n then some j else none
def isVls : List Expr → Bool
  | [.Call (.Attribute _ m _) [] [] _] => m == "values"
  | _ => false
/-- a tuple of targets -/
def isTup : Expr → Bool
  | .Tuple .. => true
  | _ => false
def srcRg : Src → Option Ex
  | .rng1 a => some (.lrg (.rng1 a))
  | .rng2 a b => some (.lrg (.rng2 a b))
  | _ => none
/-- a comprehension's own names, with their slots -/
def ownOf (N : List Str) : List (Str × NameKind) → Option (List (Str × Nat))
  | [] => some []
  | (y, k) :: r => match ownOf N r with
    | none => none
    | some o => if y = ".0" then some o else if k = .local ∨ k = .cell then (slotOf N y).map fun i => (y, i) :: o else some o
mutual
def cTg (N : List Str) (ok : Str → Bool) : Nat → Expr → Option Tg
  | 0, _ => none
  | n + 1, e => match e with
    | .Name x _ => if ok x then (slotOf N x).map .name else none
    | .Tuple es _ _ => (cTgs N ok n es).map .tup
    | _ => none
def cTgs (N : List Str) (ok : Str → Bool) : Nat → List Expr → Option Tgs
  | 0, _ => none
  | n + 1, es => match es with
    | [] => some .n
    | e :: r => (cTg N ok n e).bind fun t => (cTgs N ok n r).map fun r => .c t r
end
/-- the names that a comprehension's target may be -/
def lcOk (scope sc : Scope) (x : Str) : Bool := isLoc (L2.relS scope sc) x || (isLocC (L2.relS scope sc) x && decide (scope.names.lookup x = some .cell))
mutual
def tgSlots : Tg → List Nat
  | .name i => [i]
  | .tup ts => tgsSlots ts
def tgsSlots : Tgs → List Nat
  | .n => []
  | .c t r => tgSlots t ++ tgsSlots r
end
def exOf (c : Ctx) (sc : Scope) (t : Str) : Option Nat := if isGl sc t = true then (if t = "ValueError" then (if t ∈ c.free then some 9 else none) else c.exc.lookup t) else none
def exsOf (c : Ctx) (sc : Scope) : List Expr → Option (List Nat)
  | [] => some []
  | .Name t _ :: r => (exOf c sc t).bind fun k => (exsOf c sc r).map (k :: ·)
  | _ => none
/-- a display's keys, when they are texts -/
def ksOf : List (Option Expr) → Option (List (List Nat))
  | [] => some []
  | some (.Constant (.str x) _ _) :: r => (ksOf r).map (x.cps.toList :: ·)
  | _ => none
def xvOf (c : Ctx) : Expr → Bool
  | .Name x _ => decide (x ∈ c.xv)
  | .Subscript (.Name x _) _ _ => decide (x ∈ c.xv)
  | _ => false
mutual
def cE (c : Ctx) : Nat → Scope → Expr → Option Ex
  | 0, _, _ => none
  | n + 1, sc, e => match e with
    | .Name x _ => cName c sc x
    | .Constant k _ _ => cConst k
    | .BinOp a o b _ => (cOp o).bind fun o => (cE c n sc a).bind fun a => (cE c n sc b).map fun b => .bin o a b
    | .UnaryOp .USub a _ => (cE c n sc a).map .neg
    | .UnaryOp .Not a _ => (cE c n sc a).map .not
    | .Compare a [o] [b] _ => if plainE b then (cCmp o).bind fun o => (cE c n sc a).bind fun a => (cE c n sc b).map fun b => .cmp o a b else none
    | .Compare a [o, p] [b, d] _ => if plainE b && plainE d then (cCmp o).bind fun o => (cCmp p).bind fun p => (cE c n sc a).bind fun a => (cE c n sc b).bind fun b => (cE c n sc d).map fun d => .cmp2 o p a b d else none
    | .Compare a (o :: p :: q :: os) (b :: d :: f :: bs) _ => (cE c n sc a).bind fun a => (cCh c n sc (o :: p :: q :: os) (b :: d :: f :: bs)).map fun ch => .cmpN a ch
    | .BoolOp _ [a] _ => cE c n sc a
    | .BoolOp .And (a :: b :: r) q => (cE c n sc a).bind fun a => (cE c n sc (.BoolOp .And (b :: r) q)).map fun b => .and a b
    | .BoolOp .Or (a :: b :: r) q => (cE c n sc a).bind fun a => (cE c n sc (.BoolOp .Or (b :: r) q)).map fun b => .or a b
    | .IfExp t a b _ => (cE c n sc t).bind fun t => (cE c n sc a).bind fun a => (cE c n sc b).map fun b => .ite t a b
    | .Subscript a (.Slice lo hi none _) _ => (cE c n sc a).bind fun a => (cP c n sc lo).bind fun lo => (cP c n sc hi).map fun hi => .sl a lo hi
    | .Subscript a (.Slice none none (some (.UnaryOp .USub (.Constant (.int 1) _ _) _)) _) _ => (cE c n sc a).map .rvs
    | .Subscript a (.Slice none (some (.Constant (.int 1) _ _)) (some (.UnaryOp .USub (.Constant (.int 1) _ _) _)) _) _ => (cE c n sc a).map .rv4
    | .Subscript a i _ => if plainE i then (cE c n sc a).bind fun a => (cE c n sc i).map fun i => .ix a i else none
    | .Tuple es _ _ => if es.length ≤ 1000 then (cEs c n sc es).map .tup else none
    | .List es _ => if es.length ≤ 1000 then (cEs c n sc es).map .lst else none
    | .Dict [] [] _ => some .dn
    | .Dict keys values _ => if keys.isEmpty = false ∧ keys.length = values.length ∧ keys.length ≤ 15 then (ksOf keys).bind fun ks => (cEs c n sc values).map fun xs => .dd ks xs else none
    | .Call (.Name x _) [a] [⟨some kx, .Name f _, _⟩] _ => if x = "sorted" ∧ kx = "key" ∧ isGl sc x = true ∧ x ∈ c.free ∧ isGl sc f = true ∧ f ∈ c.k2 ∧ plainE a = true then (cE c n sc a).map .sok else none
    | .Call (.Name x _) args [] _ =>
      if isGl sc x then match c.own.lookup x with
        | some (f, ar) => if args.length = ar then (cEs c n sc args).map (.call f) else none
        | none => match c.cls.lookup x with
        | some (C, ar) => if args.length = ar then (cEs c n sc args).map (.new C) else none
        | none => if x ∈ c.free then
            if x = "isinstance" then match args with
              | [a, .Name t _] => match exOf c sc t with
                | some k => if plainE a = true then (cE c n sc a).map (.isx [k]) else none
                | none => if isGl sc t ∧ t ∈ c.free ∧ plainE a = true then (tyOf t).bind fun b => (cE c n sc a).map fun a => .blt b (.c a .n) else none
              | [a, .Tuple ts _ _] => match exsOf c sc ts with
                | some ks => if plainE a = true ∧ ts.length ≤ 1000 then (cE c n sc a).map (.isx ks) else none
                | none => match ts with
                  | [.Name t _, .Name t2 _] => if isGl sc t ∧ t ∈ c.free ∧ isGl sc t2 ∧ t2 ∈ c.free ∧ plainE a = true then (tyOf t).bind fun b => (tyOf t2).bind fun b2 => (cE c n sc a).map fun a => .isi2 b b2 a else none
                  | _ => none
              | _ => none
            else if x = "dict" ∧ isZip args = true then match args with
              | [.Call (.Name z _) [a, b] [] _] => if isGl sc z ∧ z ∈ c.free ∧ plainE a = true ∧ plainE b = true then (cE c n sc a).bind fun a => (cE c n sc b).map fun b => .dz a b else none
              | _ => none
            else if x = "dict" ∧ isLc args = true then match args with
              | [e] => (cE c n sc e).map .dps
              | _ => none
            else if x = "list" ∧ isVls args = true then match args with
              | [.Call (.Attribute o _ ap) [] [] p2] => if baseE o = true ∧ (ap.endLine == p2.line) = true then (cE c n sc o).map .lvs else none
              | _ => none
            else if x = "list" ∧ isRng args = true then match args with
              | [e] => (cSrc c n sc e e).bind srcRg
              | _ => none
            else (bltOf x args.length).bind fun b => (cEs c n sc args).map (.blt b)
          else match mkOf c x args.length with
            | some j => (cEs c n sc args).map (.mkx j)
            | none => none
      else none
    | .Attribute o f _ => if baseE o = true then (if xvOf c o = true then (cE c n sc o).map fun o => .xfld o f.cps.toList else (cE c n sc o).map fun o => .fld o f.cps.toList) else none
    | .Call (.Attribute o m ap) args [] p => match c.mth.lookup (rk o, m) with
      | some (C, ar) => if args.length = ar ∧ ar < 30 ∧ (ap.endLine == p.line) = true ∧ baseE o = true then (cE c n sc o).bind fun o => (cEs c n sc args).map fun as => .mth C m.cps.toList o as else none
      | none => (bmOf c.bd (rk o) m args.length).bind fun b => if (ap.endLine == p.line) = true ∧ baseE o = true then (cE c n sc o).bind fun o => (cEs c n sc args).map fun as => .bm b o as else none
    | .ListComp elt [⟨tg, it, ifs, 0⟩] scope _ => if c.hot = true then none else (ownOf c.N scope.names).bind fun own =>
      if L2.blkC c.N sc scope own then (cTg c.N (lcOk scope sc) n tg).bind fun t => if (tgSlots t).all fun i => own.any fun q => q.2 == i then (cSrc c n sc tg it).bind fun s => (cIf c n (L2.relS scope sc) ifs).bind fun k => (cE c n (L2.relS scope sc) elt).map fun e => .lc (own.map (·.2)) t s k e else none
      else none
    | _ => none
def cCh (c : Ctx) : Nat → Scope → List CmpOp → List Expr → Option Chn
  | 0, _, _, _ => none
  | n + 1, sc, [o], [b] => if plainE b then (cCmp o).bind fun o => (cE c n sc b).map fun b => .one o b else none
  | n + 1, sc, o :: p :: os, b :: d :: bs => (cCmp o).bind fun o => (cE c n sc b).bind fun b => (cCh c n sc (p :: os) (d :: bs)).map fun r => .more o b r
  | _ + 1, _, _, _ => none
def cP (c : Ctx) : Nat → Scope → Option Expr → Option Ex
  | 0, _, _ => none
  | _ + 1, _, none => some .part0
  | n + 1, sc, some e => (cE c n sc e).bind fun x => match x with
    | .var i => some (.var i)
    | .int i => some (.int i)
    | .bin o a b => some (.bin o a b)
    | .blt b es => some (.blt b es)
    | .call f es => some (.call f es)
    | .neg (.int i) => some (.neg (.int i))
    | .fld o f => some (.fld o f)
    | _ => none
def cEs (c : Ctx) : Nat → Scope → List Expr → Option Exs
  | 0, _, _ => none
  | _ + 1, _, [] => some .n
  | n + 1, sc, e :: r => if plainE e then (cE c n sc e).bind fun x => (cEs c n sc r).map fun xs => .c x xs else none
def cIf (c : Ctx) : Nat → Scope → List Expr → Option Ex
  | 0, _, _ => none
  | _ + 1, _, [] => some (.bl true)
  | n + 1, sc, [e] => (cE c n sc e).bind fun x => match x with
    | .bl _ => none
    | x => some x
  | _ + 1, _, _ => none
def cSrc (c : Ctx) : Nat → Scope → Expr → Expr → Option Src
  | 0, _, _, _ => none
  | n + 1, sc, tg, e => if plainE e then match e with
    | .Call (.Name x p) [a] [] q => if x = "range" then (if isGl sc x ∧ x ∈ c.free ∧ plainE a = true then (cE c n sc a).map .rng1 else none)
      else if x = "enumerate" then (if isTup tg = true ∧ isGl sc x ∧ x ∈ c.free ∧ plainE a = true then (cE c n sc a).map .enum else none)
      else if x = "reversed" then (if isGl sc x ∧ x ∈ c.free ∧ plainE a = true then (cE c n sc a).map .rev else none)
      else (cE c n sc e).map .of
    | .Call (.Name x p) [a, b] [] q => if x = "range" then (if isGl sc x ∧ x ∈ c.free ∧ plainE a = true ∧ plainE b = true then (cE c n sc a).bind fun a => (cE c n sc b).map fun b => .rng2 a b else none)
      else if x = "zip" then (if isTup tg = true ∧ isGl sc x ∧ x ∈ c.free ∧ plainE a = true ∧ plainE b = true then (cE c n sc a).bind fun a => (cE c n sc b).map fun b => .zip a b else none)
      else (cE c n sc e).map .of
    | .Call (.Name x p) [a, b, d] [] q => if x = "range" then (if isGl sc x ∧ x ∈ c.free ∧ plainE a = true ∧ plainE b = true ∧ plainE d = true then (cE c n sc a).bind fun a => (cE c n sc b).bind fun b => (cE c n sc d).map fun d => .rng3 a b d else none) else (cE c n sc e).map .of
    | e => (cE c n sc e).map .of
    else none
end

def Lsp (cl : Nat → Addr) (K : PySem.W.Frag) (n : Nat) (sp : Sp) : L2.Sp := fun vs H Q E => ∃ ds m k X, ds.length = n ∧ IsL K H ds vs ∧ Rep cl K H m ∧ sp ds m k X ∧
  (∀ d m' v H', k d m' → IsV K H' d v → Rep cl K H' m' → Ext H m H' m' → Q v H') ∧ ∀ e m' cls dd H', X e m' → IsX cl K H' e cls dd → Rep cl K H' m' → Ext H m H' m' → E cls dd H'
structure Callee (cl : Nat → Addr) (X : Cx) (k : Nat) (x : Str) (n : Nat) (sp : Sp) : Prop where
  ex : ∃ j f fd ps, j ≤ k ∧ L2.Fi.FnD X.prog X.w X.K X.mg X.base (L2.CX X.prog X.w) j f fd ps (Lsp cl X.K n sp) ∧ X.mg x = some (.ref f) ∧ PySem.W.keepIn X.K (.ref f) = true ∧ L2.Binds X.K fd ps []
/-- a method of a class -/
structure MethOk (cl : Nat → Addr) (X : Cx) (k C : Nat) (m : Str) (n : Nat) (sp : Sp) : Prop where
  ex : ∃ j f fd ps, j ≤ k ∧ L2.Cls X.K (cl C) ∧ L2.Meth X.K (cl C) m f ∧ L2.Fi.FnD X.prog X.w X.K X.mg X.base (L2.CX X.prog X.w) j f fd ps (Lsp cl X.K (n + 1) sp) ∧ L2.Binds X.K fd ps []
/-- a class that is made -/
structure MakeOk (cl : Nat → Addr) (X : Cx) (k C : Nat) (x : Str) (n : Nat) (sp : Sp) : Prop where
  ex : ∃ j f fd ps, j + 1 ≤ k ∧ L2.Mk X.K (cl C) f ∧ X.mg x = some (.ref (cl C)) ∧ L2.Fi.FnD X.prog X.w X.K X.mg X.base (L2.CX X.prog X.w) j f fd ps (Lsp cl X.K (n + 1) sp) ∧ L2.Binds X.K fd ps []
structure Good (cl : Nat → Addr) (c : Ctx) (Γ : En) (k : Nat) (W : WX) (sc : Scope) (X : Cx) : Prop where
  hN : X.N = c.N
  nd : c.N.Nodup
  hsc : X.env.scope = sc
  calm : c.hot = false → X.calm = true
  tk : L2.Takes X W
  room : c.hot = false → L2.Fi.RoomF k X.A
  un : X.A.units + 200 < cLine
  hfree : c.hot = true → ∀ x ∈ c.free, x = "isinstance" ∨ x = "ValueError"
  hown : c.hot = true → c.own = [] ∧ c.cls = [] ∧ c.mth = []
  exa : ExAll cl X.K Γ.xc
  exn : ∀ x k, c.exc.lookup x = some k → Γ.xc k = true ∧ X.mg x = some (.ref (cl k)) ∧ PySem.W.keepIn X.K (.ref (cl k)) = true
  own : ∀ x f n, c.own.lookup x = some (f, n) → Callee cl X k x n (Γ.fn f)
  glb : ∀ x g, c.glb.lookup x = some g → ∃ u v, X.mg x = some u ∧ RelV v u ∧ ∀ H, IsV X.K H (Γ.gl g) v
  free : ∀ x, x ∈ c.free → X.mg x = none
  cls : ∀ x C n, c.cls.lookup x = some (C, n) → MakeOk cl X k C x n (Γ.ini C)
  mth : ∀ r m C n, c.mth.lookup (r, m) = some (C, n) → MethOk cl X k C m n (Γ.mt C m.cps.toList)
  fld : ∀ C f, Γ.fk C f = true → L2.Cls X.K (cl C) ∧ L2.NoAttr X.K (cl C) (SX.S f)
  k2 : ∀ x, x ∈ c.k2 → Key2 X.K X.mg x
  exr : ∀ x j, c.exr.lookup x = some j → Rz cl X.prog X.w X.K X.mg X.base k x j
section
variable {cl : Nat → Addr} {c : Ctx} {Γ : En} {k : Nat} {W : WX} {sc : Scope} {X : Cx}
theorem isGl_ok (G : Good cl c Γ k W sc X) {x : Str} (h : isGl sc x = true) : L2.Gl X x ∧ (x == ("__debug__" : Str)) = false ∧ x ≠ "__name__" := by
  unfold isGl at h
  rw [Bool.and_eq_true, Bool.and_eq_true] at h
  obtain ⟨⟨h1, h2⟩, h3⟩ := h
  refine ⟨?_, by simpa using h2, by simpa using h3⟩
  show X.env.scope.names.lookup x = some .globalImplicit
  rw [G.hsc]
  exact of_decide_eq_true h1
theorem isVis_ok (G : Good cl c Γ k W sc X) {x : Str} (h : isVis sc x = true) : L2.Vis X.env.scope x := by
  unfold isVis at h
  rw [Bool.or_eq_true, Bool.or_eq_true] at h
  unfold L2.Vis
  rw [G.hsc]
  rcases h with (h | h) | h
  · exact .inl (of_decide_eq_true h)
  · exact .inr (.inl (of_decide_eq_true h))
  · exact .inr (.inr (of_decide_eq_true h))
theorem Good.u65 (G : Good cl c Γ k W sc X) : X.A.units + 95 < cLine := by
  have := G.un
  omega
theorem Good.coolF (G : Good cl c Γ k W sc X) {x : Str} (h : x ∈ c.free) (h1 : x ≠ "isinstance") (h2 : x ≠ "ValueError") : c.hot = false := by
  cases e : c.hot with
  | false => rfl
  | true =>
    rcases G.hfree e x h with z | z
    · exact absurd z h1
    · exact absurd z h2
theorem Good.coolO (G : Good cl c Γ k W sc X) {x : Str} {q : Nat × Nat} (h : c.own.lookup x = some q) : c.hot = false := by
  cases e : c.hot with
  | false => rfl
  | true => rw [(G.hown e).1] at h; cases h
theorem Good.coolC (G : Good cl c Γ k W sc X) {x : Str} {q : Nat × Nat} (h : c.cls.lookup x = some q) : c.hot = false := by
  cases e : c.hot with
  | false => rfl
  | true => rw [(G.hown e).2.1] at h; cases h
theorem Good.coolM (G : Good cl c Γ k W sc X) {x : Str × Str} {q : Nat × Nat} (h : c.mth.lookup x = some q) : c.hot = false := by
  cases e : c.hot with
  | false => rfl
  | true => rw [(G.hown e).2.2] at h; cases h
/-- a comprehension's block -/
theorem Good.blk (G : Good cl c Γ k W sc X) (s : Shared) (H : Hp) (scope : Scope) (C : Addr) (cc : List (Str × Addr)) (fp : List Addr) (hk : scope.kind = .function) (hu : ∀ y ∈ scope.names, scope.names.lookup y.1 = some y.2) :
    Good cl c Γ k (fun _ _ _ _ => False) (L2.relS scope sc) (X.blk s H scope (compEnvC scope cc C X.env) fp) where
  hN := G.hN
  nd := G.nd
  hsc := by
    rw [← G.hsc]
    rfl
  calm := G.calm
  tk := L2.takes0
  room := G.room
  un := G.un
  hfree := G.hfree
  hown := G.hown
  exa := G.exa
  exn := G.exn
  own := fun x f n h => by
    obtain ⟨j, f', fd, ps, a, b, d, e, g⟩ := (G.own x f n h).ex
    exact ⟨j, f', fd, ps, a, b, d, e, g⟩
  glb := G.glb
  free := G.free
  cls := fun x C n h => by
    obtain ⟨j, f', fd, ps, q⟩ := (G.cls x C n h).ex
    exact ⟨j, f', fd, ps, q⟩
  mth := fun r m C n h => by
    obtain ⟨j, f', fd, ps, q⟩ := (G.mth r m C n h).ex
    exact ⟨j, f', fd, ps, q⟩
  fld := G.fld
  k2 := G.k2
  exr := G.exr
end
end DL

namespace DL
open PySem PySem.Spec PyProof.Rows
open L2 (V Hp HO SqL SqT TE TT TA TS TG TGs Cx Inv PE PT PW PA PS PSs PG PGs RelV Vals WX OpR UnR CallR IxR SlR MtR)
section
variable {cl : Nat → Addr} {K : PySem.W.Frag} {W : WX} {α β γ δ : Type} {R : Hp → α → β → Prop} {S : Hp → γ → δ → Prop} {H : Hp} {Q Q' : β → Hp → Prop} {σv : L2.St}
theorem Lift.mono {t : Rd α} (h : Lift cl K W R t σv H Q) (i : ∀ v H', Q v H' → Q' v H') : Lift cl K W R t σv H Q' := by
  obtain ⟨σ, m, k, E, hs, hr, ht, p⟩ := h
  exact ⟨σ, m, k, E, hs, hr, ht, ⟨fun d m' v H' a b c e => i _ _ (p.ok d m' v H' a b c e), p.ex⟩⟩
/-- first t, then u, whatever u's reading is -/
theorem Lift.then_ {t : Rd γ} {u : γ → Rd α} {P : δ → Hp → Prop} (h : Lift cl K W R (fun E σ m k => t E σ m fun x m1 => u x E σ m1 k) σv H Q)
    (i : ∀ x v H1, Kp H H1 → S H1 x v → Lift cl K W R (u x) σv H1 Q → P v H1) : Lift cl K W S t σv H P :=
  (Lift.bind h).mono fun v H1 ⟨k, x, s, l⟩ => i x v H1 k s l
theorem Lift.at0 {u : Rd α} (h : Lift cl K W R u σv H Q) {x : α} {v : β} (e : ∀ E σ m k, u E σ m k → k x m) (r : R H x v) : Q v H := by
  obtain ⟨σ, m, k, E, hs, hr, ht, p⟩ := h
  exact p.ok _ _ _ _ (e _ _ _ _ ht) r hr (Ext.refl H m)
end
section
variable {cl : Nat → Addr} {c : Ctx} {Γ : En} {k : Nat} {W : WX} {sc : Scope} {X : Cx} {bv : Bool}
abbrev PEl (cl : Nat → Addr) (W : WX) (X : Cx) (e : Expr) (t : Rd D) : Prop := PE X e (Lift cl X.K W (RV X.K) t)
abbrev PTl (cl : Nat → Addr) (W : WX) (X : Cx) (e : Expr) (t : Rd Bool) : Prop := PT X e (Lift cl X.K W RB t)
/-- .. a value that is perhaps only read from there on -/
theorem pe_fzD {e : Expr} {te : Rd D} (h : PEl cl W X e te) : PEl cl W X e fun E σ m k => te E σ m (Fz k) := by
  refine pe_imp (pe_frz h) fun σ H Q q => ?_
  obtain ⟨σ', m, k, E, hs, hr, ht, p⟩ := q
  exact ⟨σ', m, Fz k, E, hs, hr, ht, ⟨fun d m' v H' z hd r e => fz_ok z hd r e p.ok, p.ex⟩⟩
theorem pe_const {x : Ex} {q : Const} {j : Nat} {pos : Pos} (h : cConst q = some x) : PEl cl W X (.Constant q j pos) fun E => rE Γ E x := by
  cases q <;> simp only [cConst, Option.some.injEq, reduceCtorEq] at h <;> subst h
  · exact pe_imp L2.pe_non fun σ H Q q => q.at0 (fun _ _ _ _ z => z) rfl
  · exact pe_imp L2.pe_bl fun σ H Q q => q.at0 (fun _ _ _ _ z => z) rfl
  · exact pe_imp L2.pe_int fun σ H Q q => q.at0 (fun _ _ _ _ z => z) rfl
  · refine pe_imp L2.pe_str fun σ H Q q => q.at0 (fun _ _ _ _ z => z) ?_
    show V.str _ = V.str _
    rw [SX.S_tl]
theorem pe_name (G : Good cl c Γ k W sc X) {x : Str} {y : Ex} {pos : Pos} (h : cName c sc x = some y) : PEl cl W X (.Name x pos) fun E => rE Γ E y := by
  unfold cName at h
  split at h
  · rename_i hv
    rw [Bool.and_eq_true] at hv
    obtain ⟨i, e1, e2⟩ := Option.map_eq_some_iff.mp h
    subst e2
    have hp := hv.2
    unfold plainName at hp
    rw [Bool.and_eq_true] at hp
    refine pe_imp (L2.pe_var (i := i) (by rw [G.hN]; exact slotOf_get e1) (isVis_ok G hv.1) (by simpa using hp.1) (by simpa using hp.2)) fun σv H Q q => ?_
    obtain ⟨σ, m, k, E, hs, hr, ht, p⟩ := q
    have ht' : match sget σ i with
      | some d => k d m
      | none => False := ht
    cases e : sget σ i with
    | none =>
      rw [e] at ht'
      exact ht'.elim
    | some d =>
      rw [e] at ht'
      obtain ⟨v, a, b⟩ := hs.at_ i d e
      exact ⟨v, a, p.ok _ _ _ _ ht' b hr (Ext.refl H m)⟩
  · split at h
    · rename_i hg
      obtain ⟨g, e1, e2⟩ := Option.map_eq_some_iff.mp h
      subst e2
      obtain ⟨g1, g2, g3⟩ := isGl_ok G hg
      obtain ⟨u, v, m1, m2, m3⟩ := G.glb x g e1
      exact pe_imp (L2.pe_glob g1 m1 m2 g2) fun σ H Q q => q.at0 (fun _ _ _ _ z => z) (m3 H)
    · cases h
theorem t_op {K : PySem.W.Frag} {ta tb : Rd D} {r : D → D → Mem → Kt → Prop} {σv : L2.St} {H : Hp} {Q : V → Hp → Prop} (h : Lift cl K W (RV K) (fun E σ m k => ta E σ m fun x m1 => tb E σ m1 fun y m2 => r x y m2 k) σv H Q) :
    L2.tOp (LOp cl K r) (Lift cl K W (RV K) ta) (Lift cl K W (RV K) tb) σv H Q :=
  Lift.then_ (S := RV K) (u := fun x E σ m1 k => tb E σ m1 fun y m2 => r x y m2 k) h fun x v H1 k1 s1 l1 => Lift.then_ (S := RV K) (u := fun y E σ m2 k => r x y m2 k) l1 fun y w H2 k2 s2 l2 => lop_of_lift (s1.kp k2) s2 l2
theorem pe_binD {a b : Expr} {ta tb : Rd D} {o : Operator} {p : BOp} {pos : Pos} (ho : cOp o = some p) (ha : PEl cl W X a ta) (hb : PEl cl W X b tb) :
    PEl cl W X (.BinOp a o b pos) fun E σ m k => ta E σ m fun x m1 => tb E σ m1 fun y m2 => rBin bv p x y m2 k := by
  have hr : OpR X (binaryOp o) (LOp cl X.K (rBin bv p)) := by
    cases o <;> simp only [cOp, Option.some.injEq, reduceCtorEq] at ho <;> subst ho
    · exact op_addD
    · exact op_subD
    · exact op_mulD
    · exact op_modD
    · exact op_powD
    · exact op_fdivD
  exact pe_imp (L2.pe_op hr ha hb) fun σ H Q q => t_op q
theorem pe_negD {a : Expr} {ta : Rd D} {pos : Pos} (ha : PEl cl W X a ta) : PEl cl W X (.UnaryOp .USub a pos) fun E σ m k => ta E σ m fun x m1 => match x with
    | .int i => k (.int (-i)) m1
    | _ => False := by
  refine pe_imp (L2.pe_un L2.un_neg ha) fun σ H Q q => ?_
  refine Lift.then_ (S := RV X.K) (u := fun (x : D) (E : XK) (σ : St) (m1 : Mem) (k : D → Mem → Prop) => match x with
    | .int i => k (.int (-i)) m1
    | _ => False) q fun x v H1 k1 s1 l1 => ?_
  cases x with
  | int i =>
    cases s1
    exact ⟨i, rfl, l1.at0 (fun _ _ _ _ z => z) rfl⟩
  | _ =>
    obtain ⟨σ, m, k, E, hs, hr, ht, p⟩ := l1
    exact ht.elim
theorem plain_behind {b : Expr} (h : plainE b = true) (op : CmpOp) : behindInMarks op b = false := by
  cases b <;> first | rfl | cases h
theorem cmpR (G : Good cl c Γ k W sc X) {o : CmpOp} {p : COp} (h : cCmp o = some p) : OpR X (compareOp o) (LOp cl X.K (cV (rCmp p))) := by
  have hu := G.u65
  cases o <;> simp only [cCmp, Option.some.injEq] at h <;> subst h
  · exact op_eqDl (by omega)
  · exact op_neDl (by omega)
  · exact op_ltDl (Nat.lt_of_le_of_lt (by omega) G.u65)
  · exact op_leDl
  · exact op_gtDl
  · exact op_geDl
  · exact op_isDl
  · exact op_isnotDl
  · exact op_inDl (by omega)
  · exact op_notinDl (by omega)
theorem pe_cmpD (G : Good cl c Γ k W sc X) {a b : Expr} {ta tb : Rd D} {o : CmpOp} {p : COp} {pos : Pos} (ho : cCmp o = some p) (hb' : plainE b = true) (ha : PEl cl W X a ta) (hb : PEl cl W X b tb) :
    PEl cl W X (.Compare a [o] [b] pos) fun E σ m k => ta E σ m fun x m1 => tb E σ m1 fun y m2 => rCmp p x y m2 fun c => k (D.bl c) m2 :=
  pe_imp (L2.pe_cmpR (cmpR G ho) ha hb (plain_behind hb' o)) fun σ H Q q => t_op (r := cV (rCmp p)) q
/-- a truth told as a value, as a truth -/
def bOf (k : Bool → Mem → Prop) : Kt := fun d m => match d with
  | .bl b => k b m
  | _ => False
theorem Lift.truth {K : PySem.W.Frag} {t : Rd D} {t' : Rd Bool} {σv : L2.St} {H : Hp} {Q : Bool → Hp → Prop} (h : Lift cl K W RB t' σv H Q) (i : ∀ E σ m k, t' E σ m k → t E σ m (bOf k)) :
    Lift cl K W (RV K) t σv H fun v H' => ∃ b, v = .bl b ∧ Q b H' := by
  obtain ⟨σ, m, k, E, hs, hr, ht, p⟩ := h
  refine ⟨σ, m, bOf k, E, hs, hr, i _ _ _ _ ht, ⟨fun d m' v H' q s r e => ?_, p.ex⟩⟩
  cases d <;> first | exact q.elim | skip
  exact ⟨_, s, p.ok _ _ _ _ q rfl r e⟩
theorem pt_cmpD (G : Good cl c Γ k W sc X) {a b : Expr} {ta tb : Rd D} {o : CmpOp} {p : COp} {pos : Pos} (ho : cCmp o = some p) (hb' : plainE b = true) (ha : PEl cl W X a ta) (hb : PEl cl W X b tb) :
    PTl cl W X (.Compare a [o] [b] pos) fun E σ m k => ta E σ m fun x m1 => tb E σ m1 fun y m2 => rCmp p x y m2 fun c => k c m2 := by
  refine pt_imp (L2.pt_cmpR (cmpR G ho) ha hb (plain_behind hb' o)) fun σ H Q q => ?_
  show L2.tOp (LOp cl X.K (cV (rCmp p))) (Lift cl X.K W (RV X.K) ta) (Lift cl X.K W (RV X.K) tb) σ H fun x H' => ∃ b, x = .bl b ∧ Q b H'
  refine Lift.then_ (S := RV X.K) (u := fun x E σ m1 k => tb E σ m1 fun y m2 => rCmp p x y m2 fun c => k c m2) q fun x v H1 k1 s1 l1 => Lift.then_ (S := RV X.K) (u := fun y E σ m2 k => rCmp p x y m2 fun c => k c m2) l1 fun y w H2 k2 s2 l2 => ?_
  exact lop_of_lift (r := cV (rCmp p)) (s1.kp k2) s2 (Lift.truth (t := fun _ _ m k => cV (rCmp p) x y m k) l2 fun _ _ _ _ z => z)
theorem pe_cmp2D (G : Good cl c Γ k W sc X) {a b d : Expr} {ta tb td : Rd D} {o o' : CmpOp} {p p' : COp} {pos : Pos} (ho : cCmp o = some p) (ho' : cCmp o' = some p') (hd' : plainE d = true) (ha : PEl cl W X a ta) (hb : PEl cl W X b tb) (hd : PEl cl W X d td) :
    PEl cl W X (.Compare a [o, o'] [b, d] pos) fun E σ m k => ta E σ m fun x m1 => tb E σ m1 fun y m2 => rCmp p x y m2 fun q =>
      (q = true → td E σ m2 fun z m3 => rCmp p' y z m3 fun r => k (D.bl r) m3) ∧ (q = false → k (D.bl false) m2) := by
  refine pe_imp (L2.pe_chain (cmpR G ho) (cmpR G ho') ha hb hd (plain_behind hd' o')) fun σ H Q q => ?_
  refine Lift.then_ (S := RV X.K) (u := fun x E σ m1 k => tb E σ m1 fun y m2 => rCmp p x y m2 fun q =>
      (q = true → td E σ m2 fun z m3 => rCmp p' y z m3 fun r => k (D.bl r) m3) ∧ (q = false → k (D.bl false) m2)) q fun x v H1 k1 s1 l1 => Lift.then_ (S := RV X.K) (u := fun y E σ m2 k => rCmp p x y m2 fun q =>
      (q = true → td E σ m2 fun z m3 => rCmp p' y z m3 fun r => k (D.bl r) m3) ∧ (q = false → k (D.bl false) m2)) l1 fun y w H2 k2 s2 l2 => ?_
  obtain ⟨σ', m, k', E, hs, hr, ht, pp⟩ := l2
  refine ⟨x, y, m, bOf fun q m2 => (q = true → td E σ' m2 fun z m3 => rCmp p' y z m3 fun r => k' (D.bl r) m3) ∧ (q = false → k' (D.bl false) m2), s1.kp k2, s2, hr, ht, fun dd m' u H' z su sr se => ?_⟩
  cases dd <;> first | exact z.elim | skip
  rename_i b
  refine ⟨b, su, ?_⟩
  cases b with
  | false => exact L2.iteF (pp.ok _ _ _ _ (z.2 rfl) rfl sr se)
  | true =>
    refine L2.iteT ?_
    refine Lift.then_ (S := RV X.K) (t := td) (u := fun z E σ m3 k => rCmp p' y z m3 fun r => k (D.bl r) m3) (Q := Q) (R := RV X.K) ⟨σ', m', k', E, hs.kp (hr.kp se), sr, z.1 rfl, pp.step se⟩ fun z' w' H3 k3 s3 l3 => ?_
    exact lop_of_lift (r := cV (rCmp p')) ((s2.kp (hr.kp se)).kp k3) s3 l3
theorem pt_cmp2D (G : Good cl c Γ k W sc X) {a b d : Expr} {ta tb td : Rd D} {o o' : CmpOp} {p p' : COp} {pos : Pos} (ho : cCmp o = some p) (ho' : cCmp o' = some p') (hd' : plainE d = true) (ha : PEl cl W X a ta) (hb : PEl cl W X b tb) (hd : PEl cl W X d td) :
    PTl cl W X (.Compare a [o, o'] [b, d] pos) fun E σ m k => ta E σ m fun x m1 => tb E σ m1 fun y m2 => rCmp p x y m2 fun q =>
      (q = true → td E σ m2 fun z m3 => rCmp p' y z m3 fun r => k r m3) ∧ (q = false → k false m2) := by
  refine pt_imp (L2.pt_chain (cmpR G ho) (cmpR G ho') ha hb hd (plain_behind hd' o')) fun σ H Q q => ?_
  refine Lift.then_ (S := RV X.K) (u := fun x E σ m1 k => tb E σ m1 fun y m2 => rCmp p x y m2 fun q =>
      (q = true → td E σ m2 fun z m3 => rCmp p' y z m3 fun r => k r m3) ∧ (q = false → k false m2)) q fun x v H1 k1 s1 l1 => Lift.then_ (S := RV X.K) (u := fun y E σ m2 k => rCmp p x y m2 fun q =>
      (q = true → td E σ m2 fun z m3 => rCmp p' y z m3 fun r => k r m3) ∧ (q = false → k false m2)) l1 fun y w H2 k2 s2 l2 => ?_
  obtain ⟨σ', m, k', E, hs, hr, ht, pp⟩ := l2
  refine ⟨x, y, m, bOf fun q m2 => (q = true → td E σ' m2 fun z m3 => rCmp p' y z m3 fun r => k' r m3) ∧ (q = false → k' false m2), s1.kp k2, s2, hr, ht, fun dd m' u H' z su sr se => ?_⟩
  cases dd <;> first | exact z.elim | skip
  rename_i b
  refine ⟨b, su, ?_⟩
  cases b with
  | false => exact L2.iteF ⟨false, rfl, pp.ok _ _ _ _ (z.2 rfl) rfl sr se⟩
  | true =>
    refine L2.iteT ?_
    refine Lift.then_ (S := RV X.K) (t := td) (u := fun z E σ m3 k => rCmp p' y z m3 fun r => k r m3) (Q := Q) (R := RB) ⟨σ', m', k', E, hs.kp (hr.kp se), sr, z.1 rfl, pp.step se⟩ fun z' w' H3 k3 s3 l3 => ?_
    exact lop_of_lift (r := cV (rCmp p')) ((s2.kp (hr.kp se)).kp k3) s3 (Lift.truth (t := fun _ _ m k => cV (rCmp p') y z' m k) l3 fun _ _ _ _ z => z)

/-- a value's truth decides -/
theorem Lift.tru {K : PySem.W.Frag} {R : Hp → α → β → Prop} {x : D} {v : V} {σv : L2.St} {H : Hp} {Q : β → Hp → Prop} {f : Bool → Rd α} (hx : IsV K H x v) (h : Lift cl K W R (fun E σ m k => rTru x m fun p => f p E σ m k) σv H Q) :
    ∃ b, L2.TruV K v H b ∧ Lift cl K W R (f b) σv H Q := by
  obtain ⟨σ, m, k, E, hs, hr, ht, p⟩ := h
  obtain ⟨b, tb, kb⟩ := tru_D hx hr ht
  exact ⟨b, tb, σ, m, k, E, hs, hr, kb, p⟩
theorem pe_andD {a b : Expr} {r : List Expr} {ta tb : Rd D} {pos : Pos} (ha : PEl cl W X a ta) (hb : PEl cl W X (.BoolOp .And (b :: r) pos) tb) :
    PEl cl W X (.BoolOp .And (a :: b :: r) pos) fun E σ m k => ta E σ m fun x m1 => rTru x m1 fun p => (p = true → tb E σ m1 k) ∧ (p = false → k x m1) := by
  refine pe_imp (L2.pe_andT ha hb) fun σ H Q q => ?_
  refine Lift.then_ (S := RV X.K) (u := fun x E σ m1 k => rTru x m1 fun p => (p = true → tb E σ m1 k) ∧ (p = false → k x m1)) q fun x v H1 k1 s1 l1 => ?_
  obtain ⟨b, t, l⟩ := Lift.tru (f := fun p E σ m1 k => (p = true → tb E σ m1 k) ∧ (p = false → k x m1)) s1 l1
  refine ⟨b, t, ?_⟩
  cases b with
  | true => exact L2.iteT (l.imp fun _ _ _ _ z => z.1 rfl)
  | false => exact L2.iteF (l.at0 (fun _ _ _ _ z => z.2 rfl) s1)
theorem pe_orD {a b : Expr} {r : List Expr} {ta tb : Rd D} {pos : Pos} (ha : PEl cl W X a ta) (hb : PEl cl W X (.BoolOp .Or (b :: r) pos) tb) :
    PEl cl W X (.BoolOp .Or (a :: b :: r) pos) fun E σ m k => ta E σ m fun x m1 => rTru x m1 fun p => (p = true → k x m1) ∧ (p = false → tb E σ m1 k) := by
  refine pe_imp (L2.pe_orT ha hb) fun σ H Q q => ?_
  refine Lift.then_ (S := RV X.K) (u := fun x E σ m1 k => rTru x m1 fun p => (p = true → k x m1) ∧ (p = false → tb E σ m1 k)) q fun x v H1 k1 s1 l1 => ?_
  obtain ⟨b, t, l⟩ := Lift.tru (f := fun p E σ m1 k => (p = true → k x m1) ∧ (p = false → tb E σ m1 k)) s1 l1
  refine ⟨b, t, ?_⟩
  cases b with
  | false => exact L2.iteF (l.imp fun _ _ _ _ z => z.2 rfl)
  | true => exact L2.iteT (l.at0 (fun _ _ _ _ z => z.1 rfl) s1)
theorem pe_notD {a : Expr} {ta : Rd D} {pos : Pos} (ha : PEl cl W X a ta) : PEl cl W X (.UnaryOp .Not a pos) fun E σ m k => ta E σ m fun x m1 => rTru x m1 fun p => k (D.bl (!p)) m1 := by
  refine pe_imp (L2.pe_notT ha) fun σ H Q q => ?_
  refine Lift.then_ (S := RV X.K) (u := fun x E σ m1 k => rTru x m1 fun p => k (D.bl (!p)) m1) q fun x v H1 k1 s1 l1 => ?_
  obtain ⟨b, t, l⟩ := Lift.tru (f := fun p E σ m1 k => k (D.bl (!p)) m1) s1 l1
  exact ⟨b, t, l.at0 (fun _ _ _ _ z => z) rfl⟩
theorem pt_truD {a : Expr} {ta : Rd D} (ha : PEl cl W X a ta) (he : ∀ whole, isTrue a X.env whole = (do let v ← whole; standAt a.pos; holding [v] (truthy v))) :
    PTl cl W X a fun E σ m k => ta E σ m fun x m1 => rTru x m1 fun p => k p m1 := by
  refine pt_imp (L2.pt_truth ha he) fun σ H Q q => ?_
  refine Lift.then_ (S := RV X.K) (u := fun x E σ m1 k => rTru x m1 fun p => k p m1) q fun x v H1 k1 s1 l1 => ?_
  obtain ⟨b, t, l⟩ := Lift.tru (f := fun p E σ m1 k => k p m1) s1 l1
  exact ⟨b, t, l.at0 (fun _ _ _ _ z => z) rfl⟩
theorem pt_notD {a : Expr} {ta : Rd Bool} {pos : Pos} (ha : PTl cl W X a ta) : PTl cl W X (.UnaryOp .Not a pos) fun E σ m k => ta E σ m fun p m1 => k (!p) m1 := by
  refine pt_imp (L2.pt_not ha) fun σ H Q q => ?_
  refine Lift.then_ (S := RB) (u := fun p E σ m1 k => k (!p) m1) q fun x v H1 k1 s1 l1 => ?_
  cases s1
  exact l1.at0 (fun _ _ _ _ z => z) rfl
abbrev PWl (cl : Nat → Addr) (W : WX) (X : Cx) (e : Expr) (t : Rd Bool) : Prop := PW X e (Lift cl X.K W RB t)
theorem pw_andD {a b : Expr} {r : List Expr} {ta tb : Rd Bool} {pos : Pos} (ha : PTl cl W X a ta) (hb : PWl cl W X (.BoolOp .And (b :: r) pos) tb) :
    PWl cl W X (.BoolOp .And (a :: b :: r) pos) fun E σ m k => ta E σ m fun p m1 => (p = true → tb E σ m1 k) ∧ (p = false → k false m1) := by
  refine pw_imp (L2.pw_and ha hb) fun σ H Q q => ?_
  refine Lift.then_ (S := RB) (u := fun p E σ m1 k => (p = true → tb E σ m1 k) ∧ (p = false → k false m1)) q fun x v H1 k1 s1 l1 => ?_
  cases s1
  cases x with
  | true => exact L2.iteT (l1.imp fun _ _ _ _ z => z.1 rfl)
  | false => exact L2.iteF (l1.at0 (fun _ _ _ _ z => z.2 rfl) rfl)
theorem pw_orD {a b : Expr} {r : List Expr} {ta tb : Rd Bool} {pos : Pos} (ha : PTl cl W X a ta) (hb : PWl cl W X (.BoolOp .Or (b :: r) pos) tb) :
    PWl cl W X (.BoolOp .Or (a :: b :: r) pos) fun E σ m k => ta E σ m fun p m1 => (p = true → k true m1) ∧ (p = false → tb E σ m1 k) := by
  refine pw_imp (L2.pw_or ha hb) fun σ H Q q => ?_
  refine Lift.then_ (S := RB) (u := fun p E σ m1 k => (p = true → k true m1) ∧ (p = false → tb E σ m1 k)) q fun x v H1 k1 s1 l1 => ?_
  cases s1
  cases x with
  | false => exact L2.iteF (l1.imp fun _ _ _ _ z => z.2 rfl)
  | true => exact L2.iteT (l1.at0 (fun _ _ _ _ z => z.1 rfl) rfl)
theorem pe_iteD {t a b : Expr} {tt : Rd Bool} {ta tb : Rd D} {pos : Pos} (ht : PTl cl W X t tt) (ha : PEl cl W X a ta) (hb : PEl cl W X b tb) :
    PEl cl W X (.IfExp t a b pos) fun E σ m k => tt E σ m fun p m1 => (p = true → ta E σ m1 k) ∧ (p = false → tb E σ m1 k) := by
  refine pe_imp (L2.pe_ifExp ht ha hb) fun σ H Q q => ?_
  refine Lift.then_ (S := RB) (u := fun p E σ m1 k => (p = true → ta E σ m1 k) ∧ (p = false → tb E σ m1 k)) q fun x v H1 k1 s1 l1 => ?_
  cases s1
  cases x with
  | true => exact L2.iteT (l1.imp fun _ _ _ _ z => z.1 rfl)
  | false => exact L2.iteF (l1.imp fun _ _ _ _ z => z.2 rfl)

theorem pe_ixD (G : Good cl c Γ k W sc X) {a b : Expr} {ta tb : Rd D} {pos : Pos} (hb' : plainE b = true) (ha : PEl cl W X a ta) (hb : PEl cl W X b tb) :
    PEl cl W X (.Subscript a b pos) fun E σ m k => ta E σ m fun x m1 => tb E σ m1 fun y m2 => rIx x y m2 k := by
  have hu := G.u65
  refine pe_imp (L2.pe_ix (ix_D (by omega)) ha hb ?_) fun σ H Q q => t_op q
  intro o i
  cases b <;> first | rfl | cases hb'
abbrev POl (cl : Nat → Addr) (W : WX) (X : Cx) (e : Option Expr) (t : Rd (Option Int)) : Prop := L2.PO X e (Lift cl X.K W RO t)
theorem pe_slD {a : Expr} {lo hi : Option Expr} {ta : Rd D} {tl th : Rd (Option Int)} {p2 pos : Pos} (ha : PEl cl W X a ta) (hl : POl cl W X lo tl) (hh : POl cl W X hi th) :
    PEl cl W X (.Subscript a (.Slice lo hi none p2) pos) fun E σ m k => ta E σ m fun x m1 => tl E σ m1 fun p m2 => th E σ m2 fun q m3 => rSl bv x p q m3 k := by
  refine pe_imp (L2.pe_slice (sl_D (cl := cl) (bv := bv)) ha hl hh) fun σ H Q q => ?_
  refine Lift.then_ (S := RV X.K) (u := fun x E σ m1 k => tl E σ m1 fun p m2 => th E σ m2 fun q m3 => rSl bv x p q m3 k) q fun x v H1 k1 s1 l1 =>
    Lift.then_ (S := RO) (u := fun p E σ m2 k => th E σ m2 fun q m3 => rSl bv x p q m3 k) l1 fun p p' H2 k2 s2 l2 => Lift.then_ (S := RO) (u := fun q E σ m3 k => rSl bv x p q m3 k) l2 fun q q' H3 k3 s3 l3 => ?_
  cases s2
  cases s3
  obtain ⟨σ', m, k', E, hs, hr, ht, pp⟩ := l3
  exact ⟨x, m, k', (s1.kp k2).kp k3, hr, ht, pp.ok⟩
theorem po_noneD : POl cl W X none fun _ _ m k => k none m := ⟨fun pins s σ H Q I h => L2.po_none.run pins s σ H Q I (h.at0 (fun _ _ _ _ z => z) rfl)⟩
theorem po_someD {e : Expr} {t : Rd D} (h : PEl cl W X e t) : POl cl W X (some e) fun E σ m k => t E σ m fun d m1 => ∃ j, d = .int j ∧ k (some j) m1 := ⟨fun pins s σ H Q I q => (L2.po_some h).run pins s σ H Q I (by
  refine Lift.then_ (S := RV X.K) (u := fun d E σ m1 k => ∃ j, d = .int j ∧ k (some j) m1) q fun x v H1 k1 s1 l1 => ?_
  obtain ⟨σ', m, k', E, hs, hr, ⟨j, e, ht⟩, pp⟩ := l1
  subst e
  cases s1
  exact ⟨j, rfl, pp.ok _ _ _ _ ht rfl hr (Ext.refl _ _)⟩)⟩

/-- n values -/
abbrev RN (K : PySem.W.Frag) (n : Nat) : Hp → List D → List V → Prop := fun H d v => d.length = n ∧ IsL K H d v
abbrev PAl (cl : Nat → Addr) (W : WX) (X : Cx) (es : List Expr) (t : Rd (List D)) : Prop := PA X es (Lift cl X.K W (RN X.K es.length) t)
theorem plain_star {e : Expr} (h : plainE e = true) (es : List Expr) (env : Env) : starEach (e :: es) env = (false, eval e env) :: starEach es env := by
  cases e <;> first | rfl | cases h
theorem pa_nilD : PAl cl W X [] fun _ _ m k => k [] m := pa_imp L2.pa_nil fun σ H Q q => q.at0 (fun _ _ _ _ z => z) ⟨rfl, rfl⟩
theorem pa_consD {e : Expr} {es : List Expr} {t : Rd D} {u : Rd (List D)} (hp : plainE e = true) (h : PEl cl W X e t) (hs : PAl cl W X es u) :
    PAl cl W X (e :: es) fun E σ m k => t E σ m fun d m1 => u E σ m1 fun ds m2 => k (d :: ds) m2 := by
  refine pa_imp (L2.pa_cons h hs (plain_star hp es X.env)) fun σ H Q q => ?_
  refine Lift.then_ (S := RV X.K) (u := fun d E σ m1 k => u E σ m1 fun ds m2 => k (d :: ds) m2) q fun x v H1 k1 s1 l1 => Lift.then_ (S := RN X.K es.length) (u := fun ds E σ m2 k => k (x :: ds) m2) l1 fun ds vs H2 k2 s2 l2 => ?_
  exact l2.at0 (fun _ _ _ _ z => z) ⟨congrArg (· + 1) s2.1, v, vs, rfl, s1.kp k2, s2.2⟩
theorem le1000 {n : Nat} (h : n ≤ 1000) : n ≤ sizeLine := Nat.le_trans h (by decide)
theorem pe_tupD {es : List Expr} {x1 : Nat} {t : Rd (List D)} {pos : Pos} (hl : es.length ≤ 1000) (h : PAl cl W X es t) : PEl cl W X (.Tuple es x1 pos) fun E σ m k => t E σ m fun ds m1 => k (D.tup ds) m1 := by
  refine pe_imp (L2.pe_tup h) fun σ H Q q => ?_
  refine Lift.then_ (S := RN X.K es.length) (u := fun ds E σ m1 k => k (D.tup ds) m1) q fun ds vs H1 k1 s1 l1 => ⟨by rw [s1.2.length, s1.1]; exact le1000 hl, fun p hp => ?_⟩
  obtain ⟨σ', m, k', E, hs, hr, ht, pp⟩ := l1
  exact pp.ok _ _ _ _ ht ⟨p, vs, rfl, L2.upd_same, s1.2.kp (kp_new hp)⟩ (hr.hid hp) (Ext.hid hp)
theorem pe_lstD {es : List Expr} {t : Rd (List D)} {pos : Pos} (hl : es.length ≤ 1000) (h : PAl cl W X es t) : PEl cl W X (.List es pos) fun E σ m k => t E σ m fun ds m1 => NewLv bv m1 ds k := by
  refine pe_imp (pe_frz (L2.pe_lst h)) fun σ H Q q => ?_
  refine Lift.then_ (S := RN X.K es.length) (u := fun ds E σ m1 k => NewLv bv m1 ds k) q fun ds vs H1 k1 s1 l1 => ⟨by rw [s1.2.length, s1.1]; exact le1000 hl, fun p hp => ?_⟩
  obtain ⟨σ', m, k', E, hs, hr, ht, pp⟩ := l1
  exact newL_ok ht.or hp s1.2 hr (Ext.refl _ _) pp.ok
theorem pe_dnKD {pos : Pos} : PEl cl W X (.Dict [] [] pos) fun _ _ m k => ∀ p, m p = none → k (D.ref p) (upd m p (.dK [])) := by
  refine pe_imp L2.pe_dnewK fun σ H Q q p hp => ?_
  obtain ⟨σ', m, k', E, hs, hr, ht, pp⟩ := q
  exact pp.ok _ _ _ _ (ht p (hr.free hp)) rfl (hr.new hp ⟨[], L2.upd_same, rfl⟩) (Ext.tell hp)
theorem pe_dnTD {pos : Pos} : PEl cl W X (.Dict [] [] pos) fun _ _ m k => ∀ p, m p = none → k (D.ref p) (upd m p (.dT [])) := by
  refine pe_imp L2.pe_dnewT fun σ H Q q p hp => ?_
  obtain ⟨σ', m, k', E, hs, hr, ht, pp⟩ := q
  exact pp.ok _ _ _ _ (ht p (hr.free hp)) rfl (hr.new hp ⟨[], L2.upd_same, rfl⟩) (Ext.tell hp)

theorem plain_any {es : List Expr} (h : es.all plainE = true) (pos : Pos) (env : Env) : (backTo pos (starEach es env)).any (·.1) = false := by
  induction es with
  | nil => rfl
  | cons e r ih =>
    rw [List.all_cons, Bool.and_eq_true] at h
    rw [plain_star h.1]
    show (false || (backTo pos (starEach r env)).any (·.1)) = false
    rw [ih h.2]
    rfl
theorem pe_callD (G : Good cl c Γ k W sc X) {x : Str} {e : Expr} {es : List Expr} {t : Rd (List D)} {p pos : Pos} {f n : Nat} (hg : isGl sc x = true) (ho : c.own.lookup x = some (f, n)) (hn : (e :: es).length = n) (hp : (e :: es).all plainE = true) (h : PAl cl W X (e :: es) t) :
    PEl cl W X (.Call (.Name x p) (e :: es) [] pos) fun E σ m k => t E σ m fun ds m1 => Γ.fn f ds m1 k (E σ) := by
  obtain ⟨g1, g2, g3⟩ := isGl_ok G hg
  obtain ⟨j, a, fd, ps, hj, F, hm, hk, hb⟩ := (G.own x f n ho).ex
  rw [List.all_cons, Bool.and_eq_true] at hp
  refine pe_imp (L2.Fi.pe_callF F ((G.room (G.coolO ho)).mono hj) g1 hm hk hb (fun σ => L2.passAt G.tk σ) h g2 (plain_star hp.1 es X.env) (plain_any hp.2 pos X.env)) fun σv H Q q => ?_
  obtain ⟨σ, m, k', E, hs, hr, ht, pp⟩ := q
  refine ⟨σ, m, fun ds m1 => Γ.fn f ds m1 k' (E σ), E, hs, hr, ht, ⟨fun ds m' vs H' z s r ee => ?_, pp.ex⟩⟩
  refine ⟨ds, m', k', E σ, by rw [s.1, ← hn], s.2, r, z, fun d m2 v H2 a b c e => pp.ok d m2 v H2 a b c (ee.trans e), fun ex m2 cls dd H2 a b c e => ?_⟩
  exact pp.ex.ex σ σv ex m2 cls dd H2 a ((hs.kp (hr.kp ee)).kp (r.kp e)) b c (ee.trans e)
theorem lcl_of {K : PySem.W.Frag} {r : List D → Mem → Kt → Prop} {n : Nat} {ds : List D} {vs : List V} {σv : L2.St} {H : Hp} {Q : V → Hp → Prop} (s : RN K n H ds vs) (h : Lift cl K W (RV K) (fun _ _ m k => r ds m k) σv H Q) : LCl cl K r vs H Q := by
  obtain ⟨σ, m, k', E, hs, hr, ht, pp⟩ := h
  exact ⟨ds, m, k', s.2, hr, ht, pp.ok⟩
theorem pe_bltD (G : Good cl c Γ k W sc X) {x : Str} {e : Expr} {es : List Expr} {t : Rd (List D)} {p pos : Pos} {b : Blt} (hg : isGl sc x = true) (ho : x ∈ c.free) (hb : bltOf x (e :: es).length = some b) (hp : (e :: es).all plainE = true) (h : PAl cl W X (e :: es) t) :
    PEl cl W X (.Call (.Name x p) (e :: es) [] pos) fun E σ m k => t E σ m fun ds m1 => rBlt bv b ds m1 k := by
  obtain ⟨g1, g2, g3⟩ := isGl_ok G hg
  have hm := G.free x ho
  rw [List.all_cons, Bool.and_eq_true] at hp
  have st := plain_star hp.1 es X.env
  have an := plain_any hp.2 pos X.env
  have fin : ∀ {σ H Q}, Lift cl X.K W (RV X.K) (fun E σ m k => t E σ m fun ds m1 => rBlt bv b ds m1 k) σ H Q → L2.tCB (LCl cl X.K (rBlt bv b)) (Lift cl X.K W (RN X.K (e :: es).length) t) σ H Q := fun {σ H Q} q =>
    Lift.then_ (S := RN X.K (e :: es).length) (u := fun ds E σ m1 k => rBlt bv b ds m1 k) q fun ds vs H1 k1 s1 l1 => lcl_of s1 l1
  have hb2 := tabOf_mem hb
  simp only [bltTab, List.mem_cons, List.not_mem_nil, or_false, Prod.mk.injEq] at hb2
  have two : ∀ {v : Value} {r : List V → Hp → L2.VK → Prop}, r = LCl cl X.K (rBlt bv b) → CallR X v r → bootBuiltins x = some v → (∃ id, v = .builtin id) ∨ (∃ T, v = .type T) → PEl cl W X (.Call (.Name x p) (e :: es) [] pos) fun E σ m k => t E σ m fun ds m1 => rBlt bv b ds m1 k := fun er hr hv hk => by
    subst er
    rcases hk with ⟨id, rfl⟩ | ⟨T, rfl⟩
    · exact pe_imp (L2.pe_callB hr g1 hm hv h g3 g2 st an) fun σ H Q q => fin q
    · exact pe_imp (L2.pe_callTy hr g1 hm hv h g3 g2 st an) fun σ H Q q => fin q
  have calm : X.calm = true := by
    refine G.calm (G.coolF ho ?_ ?_) <;> (intro z; subst z; rcases hb2 with z | z | z | z | z | z | z | z | z | z | z | z <;> exact absurd z.1 (by decide))
  rcases hb2 with ⟨rfl, _, rfl⟩ | ⟨rfl, _, rfl⟩ | ⟨rfl, _, rfl⟩ | ⟨rfl, _, rfl⟩ | ⟨rfl, _, rfl⟩ | ⟨rfl, _, rfl⟩ | ⟨rfl, _, rfl⟩ | ⟨rfl, _, rfl⟩ | ⟨rfl, _, rfl⟩ | ⟨rfl, _, rfl⟩ | ⟨rfl, _, rfl⟩ | ⟨rfl, _, rfl⟩
  · exact two rfl len_D PySem.boot_len (.inl ⟨_, rfl⟩)
  · exact two rfl int_D (by decide +kernel) (.inr ⟨_, rfl⟩)
  · exact two rfl str_D (by decide +kernel) (.inr ⟨_, rfl⟩)
  · exact two rfl (list_D calm) (by decide +kernel) (.inr ⟨_, rfl⟩)
  · exact two rfl (all_D calm) (by decide +kernel) (.inl ⟨_, rfl⟩)
  · exact two rfl (any_D calm) (by decide +kernel) (.inl ⟨_, rfl⟩)
  · exact two rfl (sum_D calm) (by decide +kernel) (.inl ⟨_, rfl⟩)
  · exact two rfl (max2_D calm) (by decide +kernel) (.inl ⟨_, rfl⟩)
  · exact two rfl (min2_D calm) (by decide +kernel) (.inl ⟨_, rfl⟩)
  · exact two rfl tuple_D (by decide +kernel) (.inr ⟨_, rfl⟩)
  · exact two rfl dict_D (by decide +kernel) (.inr ⟨_, rfl⟩)
  · exact two rfl (sorted_D calm (Nat.lt_of_le_of_lt (by omega) G.u65)) (by decide +kernel) (.inl ⟨_, rfl⟩)
theorem tyOf_name {x : Str} {b : Blt} (h : tyOf x = some b) : ∃ T, tyName b = some T ∧ bootBuiltins x = some (.type T) := by
  unfold tyOf at h
  split at h
  · rename_i e
    rw [e]
    cases h
    exact ⟨_, rfl, by decide +kernel⟩
  split at h
  · rename_i _ e
    rw [e]
    cases h
    exact ⟨_, rfl, by decide +kernel⟩
  split at h
  · rename_i _ _ e
    rw [e]
    cases h
    exact ⟨_, rfl, by decide +kernel⟩
  split at h
  · rename_i _ _ _ e
    rw [e]
    cases h
    exact ⟨_, rfl, by decide +kernel⟩
  split at h
  · rename_i _ _ _ _ e
    rw [e]
    cases h
    exact ⟨_, rfl, by decide +kernel⟩
  split at h
  · rename_i _ _ _ _ _ e
    rw [e]
    cases h
    exact ⟨_, rfl, by decide +kernel⟩
  · cases h
theorem ty_rIs {b : Blt} {T : String} (h : tyName b = some T) (x : D) (m : Mem) (k : Kt) : rBlt bv b [x] m k = rIsT b x m fun p => k (D.bl p) m := by
  cases b <;> first | rfl | cases h
theorem pe_isiD (G : Good cl c Γ k W sc X) {tn : Str} {a : Expr} {ta : Rd D} {p p2 pos : Pos} {b : Blt} (hg : isGl sc "isinstance" = true) (ho : ("isinstance" : Str) ∈ c.free) (hg2 : isGl sc tn = true) (ho2 : tn ∈ c.free) (hb : tyOf tn = some b) (hp : plainE a = true) (h : PEl cl W X a ta) :
    PEl cl W X (.Call (.Name "isinstance" p) [a, .Name tn p2] [] pos) fun E σ m k => ta E σ m fun x m1 => rBlt bv b [x] m1 k := by
  obtain ⟨g1, g2, g3⟩ := isGl_ok G hg
  obtain ⟨i1, i2, i3⟩ := isGl_ok G hg2
  obtain ⟨T, et, bt⟩ := tyOf_name hb
  refine ⟨fun pins s σ H Q I q => ?_⟩
  have pt : PE X (.Name tn p2) (L2.tC (.ty T)) := L2.pe_bltn i1 (G.free _ ho2) bt rfl i3 i2
  have hr : CallR X (.builtin "isinstance") (fun vs H Q => ∃ x v m k, vs = [v, .ty T] ∧ IsV X.K H x v ∧ Rep cl X.K H m ∧ rIsT b x m k ∧ ∀ b, k b → Q (.bl b) H) := by
    intro pins s σ H xs us Q I r h
    obtain ⟨x, v, m, k, rfl, hx, hr, ht, q⟩ := h
    exact isi_D et I r hx hr ht q
  refine (L2.pe_callB (t := L2.tCons (Lift cl X.K W (RV X.K) ta) (L2.tCons (L2.tC (.ty T)) L2.tNil)) hr g1 (G.free _ ho) (by decide +kernel) (L2.pa_cons h (L2.pa_cons pt L2.pa_nil) (plain_star hp _ _)) g3 g2 (plain_star hp _ _)).run pins s σ H Q I ?_
  refine Lift.then_ (S := RV X.K) (u := fun x E σ m1 k => rBlt bv b [x] m1 k) q fun x v H1 k1 s1 l1 => ?_
  obtain ⟨σ', m, k', E, hs, hr, ht, pp⟩ := l1
  exact ⟨x, v, m, fun p => k' (D.bl p) m, rfl, s1, hr, by rw [← ty_rIs et]; exact ht, fun b z => pp.ok _ _ _ _ z rfl hr (Ext.refl _ _)⟩
theorem kitAny2 {K : PySem.W.Frag} {u : Value} {T1 T2 : String} {b1 b2 : Bool} (h1 : PySem.W.kitOne K u (.type T1) = some b1) (h2 : PySem.W.kitOne K u (.type T2) = some b2) : PySem.W.kitAny K u [.type T1, .type T2] = some (b1 || b2) := by
  unfold PySem.W.kitAny
  rw [h1]
  cases b1 with
  | true => rfl
  | false =>
    dsimp only
    unfold PySem.W.kitAny
    rw [h2]
    cases b2 <;> rfl
theorem pe_isi2D (G : Good cl c Γ k W sc X) {tn tn2 : Str} {a : Expr} {ta : Rd D} {p p2 p3 p4 pos : Pos} {kk : Nat} {b b2 : Blt} (hg : isGl sc "isinstance" = true) (ho : ("isinstance" : Str) ∈ c.free) (hg2 : isGl sc tn = true) (ho2 : tn ∈ c.free) (hg3 : isGl sc tn2 = true) (ho3 : tn2 ∈ c.free) (hb : tyOf tn = some b) (hb2 : tyOf tn2 = some b2) (hp : plainE a = true) (h : PEl cl W X a ta) :
    PEl cl W X (.Call (.Name "isinstance" p) [a, .Tuple [.Name tn p2, .Name tn2 p3] kk p4] [] pos) fun E σ m k => ta E σ m fun x m1 => rIsT b x m1 fun p => rIsT b2 x m1 fun q => k (D.bl (p || q)) m1 := by
  obtain ⟨g1, g2, g3⟩ := isGl_ok G hg
  obtain ⟨i1, i2, i3⟩ := isGl_ok G hg2
  obtain ⟨j1, j2, j3⟩ := isGl_ok G hg3
  obtain ⟨T, et, bt⟩ := tyOf_name hb
  obtain ⟨T2, et2, bt2⟩ := tyOf_name hb2
  refine ⟨fun pins s σ H Q I q => ?_⟩
  have pt : PE X (.Name tn p2) (L2.tC (.ty T)) := L2.pe_bltn i1 (G.free _ ho2) bt rfl i3 i2
  have pt2 : PE X (.Name tn2 p3) (L2.tC (.ty T2)) := L2.pe_bltn j1 (G.free _ ho3) bt2 rfl j3 j2
  have ptt : PE X (.Tuple [.Name tn p2, .Name tn2 p3] kk p4) (L2.tTup (L2.tCons (L2.tC (.ty T)) (L2.tCons (L2.tC (.ty T2)) L2.tNil))) := L2.pe_tup (L2.pa_cons pt (L2.pa_cons pt2 L2.pa_nil))
  have hr : CallR X (.builtin "isinstance") (fun vs H Q => ∃ (x : D) (v : V) (m : Mem) (k : Bool → Prop) (tp : Addr), vs = [v, .ref tp] ∧ H tp = some (.tup [.ty T, .ty T2]) ∧ IsV X.K H x v ∧ Rep cl X.K H m ∧ (rIsT b x m fun p => rIsT b2 x m fun q => k (p || q)) ∧ ∀ b, k b → Q (.bl b) H) := by
    intro pins s σ H xs us Q I r h
    obtain ⟨x, v, m, k, tp, rfl, hT, hx, hr, ht, q⟩ := h
    obtain ⟨u, ty, hk⟩ := typ_D hx hr ht
    obtain ⟨c1, e1, ht⟩ := hk _ _ _ et ht
    obtain ⟨c2, e2, ht⟩ := hk _ _ _ et2 ht
    exact L2.call_isiT pins s σ H _ us Q I r ⟨v, tp, _, u, [.type T, .type T2], _, rfl, hT, .cons (.ty T) (.cons (.ty T2) .nil), ty, kitAny2 e1 e2, q _ ht⟩
  refine (L2.pe_callB (t := L2.tCons (Lift cl X.K W (RV X.K) ta) (L2.tCons (L2.tTup (L2.tCons (L2.tC (.ty T)) (L2.tCons (L2.tC (.ty T2)) L2.tNil))) L2.tNil)) hr g1 (G.free _ ho) (by decide +kernel) (L2.pa_cons h (L2.pa_cons ptt L2.pa_nil) (plain_star hp _ _)) g3 g2 (plain_star hp _ _)).run pins s σ H Q I ?_
  refine Lift.then_ (S := RV X.K) (u := fun x E σ m1 k => rIsT b x m1 fun p => rIsT b2 x m1 fun q => k (D.bl (p || q)) m1) q fun x v H1 k1 s1 l1 => ?_
  obtain ⟨σ', m, k', E, hs, hr, ht, pp⟩ := l1
  refine ⟨by show 2 ≤ sizeLine; decide, fun tp hp => ?_⟩
  exact ⟨x, v, m, fun p => k' (D.bl p) m, tp, rfl, L2.upd_same, s1.kp (kp_new hp), hr.hid hp, ht, fun b z => pp.ok _ _ _ _ z rfl (hr.hid hp) (Ext.hid hp)⟩
end
end DL

namespace DL
open PySem PySem.Spec PyProof.Rows
open L2 (V Hp HO SqL SqT TE TT TA TS TG TGs Cx Inv PE PT PW PA PS PSs PG PGs RelV Vals WX OpR UnR CallR IxR SlR MtR)
section
variable {cl : Nat → Addr} {c : Ctx} {Γ : En} {k : Nat} {W : WX} {sc : Scope} {X : Cx}
/-- the type of a method's receiver; dicts may be only read -/
def tyW (K : PySem.W.Frag) (T : String) (x : V) (H : Hp) : Prop := L2.tyV K T x H ∨ (T = "dict" ∧ ∃ p, x = .ref p ∧ L2.IsD H p)
theorem tyW_is {pins : List (Addr × Obj)} {σ : L2.St} {H : Hp} {s : Shared} {T : String} {x : V} {v : Value} (I : Inv X pins σ H s) (r : RelV x v) (ty : tyW X.K T x H) :
    s.TypeIs v T ∧ ∀ a, v = .ref a → ∃ ob, s.heap.get? a = some ob ∧ ob.dict = none := by
  rcases ty with ty | ⟨rfl, p, rfl, d⟩
  · exact L2.tyV_is I r ty
  · cases r
    obtain ⟨h1, h2, _⟩ := L2.isD_at I d
    exact ⟨h1, h2⟩
def tBM0W (K : PySem.W.Frag) (T : String) (r : V → List V → Hp → L2.VK → Prop) (to : TE) : TE := fun σ H Q => to σ H fun x H1 => tyW K T x H1 ∧ r x [] H1 Q
def tBMW (K : PySem.W.Frag) (T : String) (r : V → List V → Hp → L2.VK → Prop) (to : TE) (t : TA) : TE := fun σ H Q => to σ H fun x H1 => tyW K T x H1 ∧ t σ H1 fun xs H2 => r x xs H2 Q
theorem pe_bm0W {o : Expr} {to : TE} {name : Str} {apos cpos : Pos} {T id : String} {r : V → List V → Hp → L2.VK → Prop} (pa : PlainAttrs T) (slot : Slot T name id) (hty : typeOf (.builtin id) = pure (.type "method_descriptor")) (hm : MtR X id r) (ho : PE X o to)
    (hbase : attributeBase o name X.env (eval o X.env) = eval o X.env) (hline : (apos.endLine == cpos.line) = true) : PE X (.Call (.Attribute o name apos) [] [] cpos) (tBM0W X.K T r to) := by
  refine ⟨fun pins s σ H Q I h => ?_⟩
  refine wpAny_Call_method0_late hbase hline (L2.thn (ho.run pins s σ H _ I h) fun v s1 ⟨x, H1, I1, r1, ty, q1⟩ => ?_)
  obtain ⟨h1, h2⟩ := tyW_is I1 r1 ty
  exact ⟨T, id, pa, slot, hty, h1, h2, Calls.callWith_builtin rfl (PySem.evalArgs_none (hm pins s1 σ H1 x [] v [] Q I1 r1 .nil q1))⟩
theorem pe_bmW {o e : Expr} {es : List Expr} {to : TE} {t : TA} {name : Str} {apos cpos : Pos} {T id : String} {r : V → List V → Hp → L2.VK → Prop} (pa : PlainAttrs T) (slot : Slot T name id) (hty : typeOf (.builtin id) = pure (.type "method_descriptor")) (hm : MtR X id r) (ho : PE X o to) (ha : PA X (e :: es) t)
    (hbase : attributeBase o name X.env (eval o X.env) = eval o X.env)
    (hfew : ((backTo cpos (starEach (e :: es) X.env)).all (fun x => !x.1) && (backToKw cpos (keywordEach [] X.env)).all (fun x => x.1.isSome)
      && decide ((e :: es).length + ([] : List Keyword).length + (if ([] : List Keyword).isEmpty then 0 else 1) < 30)) = true)
    (hline : (apos.endLine == cpos.line) = true) (hs : starEach (e :: es) X.env = (false, eval e X.env) :: starEach es X.env) (hplain : (backTo cpos (starEach es X.env)).any (·.1) = false) :
    PE X (.Call (.Attribute o name apos) (e :: es) [] cpos) (tBMW X.K T r to t) := by
  refine ⟨fun pins s σ H Q I h => ?_⟩
  refine wpAny_Call_method_late hbase hfew hline rfl (L2.thn (ho.run pins s σ H _ I h) fun v s1 ⟨x, H1, I1, r1, ty, q1⟩ => ?_)
  obtain ⟨h1, h2⟩ := tyW_is I1 r1 ty
  refine ⟨T, id, pa, slot, hty, h1, h2, ?_⟩
  have hA := ha.run cpos pins s1 σ H1 _ I1 q1
  rw [hs] at hA ⊢
  refine Calls.callWith_builtin (by show (false || (backTo cpos (starEach es X.env)).any (·.1)) = false; rw [hplain] <;> rfl) (Calls.evalArgs_plain ?_)
  exact L2.thn hA fun us s2 ⟨vs, H2, I2, r2, q2⟩ => hm pins s2 σ H2 x vs v us Q I2 r1 r2 q2
theorem tyV_list {K : PySem.W.Frag} {H : Hp} {m : Mem} {x : D} {v : V} (hr : Rep cl K H m) (hx : IsV K H x v) (h : okLst x m) : tyW K "list" v H := by
  refine .inl ?_
  unfold okLst at h
  cases x with
  | ref a =>
    cases hx
    cases em : m a with
    | none => simp only [em] at h
    | some o =>
      simp only [em] at h
      cases o with
      | lst ds =>
        obtain ⟨vs, z, l⟩ := hr a _ em
        exact .inl ⟨rfl, vs, SqL.of z⟩
      | _ => exact h.elim
  | rol ds =>
    obtain ⟨a, vs, e, t, l⟩ := hx
    subst e
    exact .inl ⟨rfl, vs, t.sq⟩
  | _ => exact h.elim
theorem tyV_dict {K : PySem.W.Frag} {H : Hp} {m : Mem} {x : D} {v : V} (hr : Rep cl K H m) (hx : IsV K H x v) (h : okDic x m) : tyW K "dict" v H := by
  have hd : ∃ b kvs, dicOf m x = some (b, kvs) := by
    unfold okDic at h
    cases x with
    | ref a =>
      cases em : m a with
      | none => simp only [em] at h
      | some o =>
        simp only [em] at h
        cases o with
        | dK kvs => exact ⟨false, kvs, by simp only [dicOf, em]⟩
        | dT kvs => exact ⟨true, kvs, by simp only [dicOf, em]⟩
        | _ => exact h.elim
    | rod t ks vs => exact ⟨t, _, rfl⟩
    | _ => exact h.elim
  obtain ⟨b, kvs, e⟩ := hd
  cases b with
  | false =>
    obtain ⟨a, ws, e1, rd, _⟩ := dicK_is hr e hx
    exact .inr ⟨rfl, a, e1, .inl ⟨ws, rd⟩⟩
  | true =>
    obtain ⟨a, ws, e1, rd, _⟩ := dicT_is hr e hx
    exact .inr ⟨rfl, a, e1, .inr ⟨ws, rd⟩⟩
theorem tyV_str {K : PySem.W.Frag} {H : Hp} {x : D} {v : V} (hx : IsV K H x v) (h : okStr x) : tyW K "str" v H := by
  refine .inl ?_
  unfold okStr at h
  cases x with
  | str a =>
    cases hx
    rfl
  | _ => exact h.elim
theorem plain_few {es : List Expr} (h : es.all plainE = true) (hl : es.length < 30) (pos : Pos) (env : Env) : ((backTo pos (starEach es env)).all (fun x => !x.1) && (backToKw pos (keywordEach [] env)).all (fun x => x.1.isSome)
      && decide (es.length + ([] : List Keyword).length + (if ([] : List Keyword).isEmpty then 0 else 1) < 30)) = true := by
  have h1 : (backTo pos (starEach es env)).all (fun x => !x.1) = true := by
    clear hl
    induction es with
    | nil => rfl
    | cons e r ih =>
      rw [List.all_cons, Bool.and_eq_true] at h
      rw [plain_star h.1]
      show (true && (backTo pos (starEach r env)).all (fun x => !x.1)) = true
      rw [ih h.2]
      rfl
  rw [h1]
  show (true && true && decide (es.length + 0 + 0 < 30)) = true
  rw [decide_eq_true (by omega)]
  rfl
theorem base_ok {o : Expr} (h : baseE o = true) (m : Str) (env : Env) (w : Sem Value) : attributeBase o m env w = w := by
  unfold attributeBase
  cases o <;> try rfl
  rename_i f a kw p
  cases f <;> try rfl
  cases a <;> try rfl
  cases kw <;> try rfl
  cases h
theorem pe_bmD (G : Good cl c Γ k W sc X) {m : Str} {o e : Expr} {r : List Expr} {ta : Rd D} {t : Rd (List D)} {ap cpos : Pos} {b : Bm} {bd : List (Str × Str)} {rr : Str} (hb : bmOf bd rr m (e :: r).length = some b) (hl : (ap.endLine == cpos.line) = true) (hbase : baseE o = true)
    (hp : (e :: r).all plainE = true) (ho : PEl cl W X o ta) (h : PAl cl W X (e :: r) t) :
    PEl cl W X (.Call (.Attribute o m ap) (e :: r) [] cpos) fun E σ m k => ta E σ m fun x m1 => bmOk b x m1 ∧ t E σ m1 fun ds m2 => rBm b x ds m2 k := by
  have hu := G.u65
  have bs := base_ok hbase m X.env (eval o X.env)
  have hb2 := bmOf_mem hb
  simp only [bmTab, bmTabD, List.cons_append, List.nil_append, List.mem_cons, List.not_mem_nil, or_false, Prod.mk.injEq] at hb2
  have h30 : (e :: r).length < 30 := by
    rcases hb2 with ⟨_, z, _⟩ | ⟨_, z, _⟩ | ⟨_, z, _⟩ | ⟨_, z, _⟩ | ⟨_, z, _⟩ | ⟨_, z, _⟩ | ⟨_, z, _⟩ | ⟨_, z, _⟩ | ⟨_, z, _⟩ | ⟨_, z, _⟩ | ⟨_, z, _⟩ | ⟨_, z, _⟩ | ⟨_, z, _⟩ | ⟨_, z, _⟩ | ⟨_, z, _⟩ <;> (rw [z]; decide)
  have one : ∀ {T id : String}, PlainAttrs T → Slot T m id → typeOf (.builtin id) = pure (.type "method_descriptor") → MtR X id (LMt cl X.K b) →
      (∀ (H : Hp) (mm : Mem) (x : D) (v : V), Rep cl X.K H mm → IsV X.K H x v → bmOk b x mm → tyW X.K T v H) →
      PEl cl W X (.Call (.Attribute o m ap) (e :: r) [] cpos) fun E σ m k => ta E σ m fun x m1 => bmOk b x m1 ∧ t E σ m1 fun ds m2 => rBm b x ds m2 k := by
    intro T id pa sl ty mt tv
    have hp2 := hp
    rw [List.all_cons, Bool.and_eq_true] at hp2
    refine pe_imp (pe_bmW pa sl ty mt ho h bs (plain_few hp h30 cpos X.env) hl (plain_star hp2.1 r X.env) (plain_any hp2.2 cpos X.env)) fun σ H Q q => ?_
    refine Lift.then_ (S := RV X.K) (u := fun x E σ m1 k => bmOk b x m1 ∧ t E σ m1 fun ds m2 => rBm b x ds m2 k) q fun x v H1 k1 s1 l1 => ?_
    obtain ⟨σ', mm, k', E, hs, hr, ⟨hok, ht⟩, pp⟩ := l1
    refine ⟨tv _ _ _ _ hr s1 hok, ?_⟩
    refine Lift.then_ (R := RV X.K) (S := RN X.K (e :: r).length) (t := t) (u := fun ds E σ m2 k => rBm b x ds m2 k) (Q := Q) ⟨σ', mm, k', E, hs, hr, ht, pp⟩ fun ds vs H2 k2 s2 l2 => ?_
    obtain ⟨σ2, m2, k3, E2, hs2, hr2, ht2, pp2⟩ := l2
    exact ⟨x, ds, m2, k3, s1.kp k2, s2.2, hr2, ht2, pp2.ok⟩
  rcases hb2 with ⟨rfl, z, rfl⟩ | ⟨rfl, z, rfl⟩ | ⟨rfl, z, rfl⟩ | ⟨rfl, z, rfl⟩ | ⟨rfl, z, rfl⟩ | ⟨rfl, z, rfl⟩ | ⟨rfl, z, rfl⟩ | ⟨rfl, z, rfl⟩ | ⟨rfl, z, rfl⟩ | ⟨rfl, z, rfl⟩ | ⟨rfl, z, rfl⟩ | ⟨rfl, z, rfl⟩ | ⟨rfl, z, rfl⟩ | ⟨rfl, z, rfl⟩ | ⟨rfl, z, rfl⟩
  · exact one PySem.F.plainAttrs_list PySem.F.slot_list_append PySem.F.type_list_append mt_appendD fun _ _ _ _ hr hx z => tyV_list hr hx z
  · exact one PySem.F.plainAttrs_list PySem.F.slot_list_extend PySem.F.type_list_extend mt_extendD fun _ _ _ _ hr hx z => tyV_list hr hx z
  · cases z
  · exact one PySem.F.plainAttrs_str PySem.F.slot_str_join PySem.F.type_str_join mt_joinD fun _ _ _ _ hr hx z => tyV_str hx z
  · exact one PySem.F.plainAttrs_str PySem.F.slot_str_split PySem.F.type_str_split mt_splitD fun _ _ _ _ hr hx z => tyV_str hx z
  · exact one PySem.F.plainAttrs_dict PySem.F.slot_dict_get PySem.F.type_dict_get (mt_get2D (by omega)) fun _ _ _ _ hr hx z => tyV_dict hr hx z
  · exact one PySem.F.plainAttrs_str PySem.F.slot_str_index PySem.F.type_str_index mt_indexD fun _ _ _ _ hr hx z => tyV_str hx z
  · cases z
  · exact one PySem.F.plainAttrs_list PySem.F.slot_list_pop PySem.F.type_list_pop mt_popAtD fun _ _ _ _ hr hx z => tyV_list hr hx z
  · exact one PySem.F.plainAttrs_dict PySem.F.slot_dict_get PySem.F.type_dict_get (mt_get1D (by omega)) fun _ _ _ _ hr hx z => tyV_dict hr hx z
  · exact one PySem.F.plainAttrs_list PySem.F.slot_list_count PySem.F.type_list_count mt_countD fun _ _ _ _ hr hx z => tyV_list hr hx z
  · exact one PySem.F.plainAttrs_dict PySem.F.slot_dict_update PySem.F.type_dict_update mt_updateD fun _ _ _ _ hr hx z => tyV_dict hr hx z
  · exact one PySem.F.plainAttrs_dict PySem.F.slot_dict_pop PySem.F.type_dict_pop mt_popDD fun _ _ _ _ hr hx z => tyV_dict hr hx z
  · cases z
  · exact one PySem.F.plainAttrs_list PySem.F.slot_list_index PySem.F.type_list_index mt_indexLD fun _ _ _ _ hr hx z => tyV_list hr hx z
theorem pe_bm0D (G : Good cl c Γ k W sc X) {m : Str} {o : Expr} {ta : Rd D} {ap cpos : Pos} {b : Bm} {bd : List (Str × Str)} {rr : Str} (hb : bmOf bd rr m 0 = some b) (hl : (ap.endLine == cpos.line) = true) (hbase : baseE o = true) (ho : PEl cl W X o ta) :
    PEl cl W X (.Call (.Attribute o m ap) [] [] cpos) fun E σ m k => ta E σ m fun x m1 => bmOk b x m1 ∧ rBm b x [] m1 k := by
  have bs := base_ok hbase m X.env (eval o X.env)
  have hb2 := bmOf_mem hb
  simp only [bmTab, bmTabD, List.cons_append, List.nil_append, List.mem_cons, List.not_mem_nil, or_false, Prod.mk.injEq] at hb2
  have one : ∀ {T id : String}, PlainAttrs T → Slot T m id → typeOf (.builtin id) = pure (.type "method_descriptor") → MtR X id (LMt cl X.K b) →
      (∀ (H : Hp) (mm : Mem) (x : D) (v : V), Rep cl X.K H mm → IsV X.K H x v → bmOk b x mm → tyW X.K T v H) →
      PEl cl W X (.Call (.Attribute o m ap) [] [] cpos) fun E σ m k => ta E σ m fun x m1 => bmOk b x m1 ∧ rBm b x [] m1 k := by
    intro T id pa sl ty mt tv
    refine pe_imp (pe_bm0W pa sl ty mt ho bs hl) fun σ H Q q => ?_
    refine Lift.then_ (S := RV X.K) (u := fun x E σ m1 k => bmOk b x m1 ∧ rBm b x [] m1 k) q fun x v H1 k1 s1 l1 => ?_
    obtain ⟨σ', mm, k', E, hs, hr, ⟨hok, ht⟩, pp⟩ := l1
    exact ⟨tv _ _ _ _ hr s1 hok, x, [], mm, k', s1, rfl, hr, ht, pp.ok⟩
  rcases hb2 with ⟨rfl, z, rfl⟩ | ⟨rfl, z, rfl⟩ | ⟨rfl, z, rfl⟩ | ⟨rfl, z, rfl⟩ | ⟨rfl, z, rfl⟩ | ⟨rfl, z, rfl⟩ | ⟨rfl, z, rfl⟩ | ⟨rfl, z, rfl⟩ | ⟨rfl, z, rfl⟩ | ⟨rfl, z, rfl⟩ | ⟨rfl, z, rfl⟩ | ⟨rfl, z, rfl⟩ | ⟨rfl, z, rfl⟩ | ⟨rfl, z, rfl⟩ | ⟨rfl, z, rfl⟩ <;> first | (cases z; done) | skip
  · exact one PySem.F.plainAttrs_list PySem.F.slot_list_pop PySem.F.type_list_pop (mt_popD (cl := cl)) fun _ _ _ _ hr hx z => tyV_list hr hx z
  · exact one PySem.F.plainAttrs_dict PySem.F.slot_dict_clear PySem.F.type_dict_clear (mt_clearD (cl := cl)) fun _ _ _ _ hr hx z => tyV_dict hr hx z
  · exact one PySem.F.plainAttrs_list PySem.F.slot_list_clear PySem.F.type_list_clear (mt_clearLD (cl := cl)) fun _ _ _ _ hr hx z => tyV_list hr hx z

theorem wipe_set {σv : L2.St} {i : Nat} {x : V} : ∀ {vs : List Nat}, i ∈ vs → L2.wipe (σv.set i (some x)) vs = L2.wipe σv vs
  | [], h => by cases h
  | v :: vs, h => by
    show (L2.wipe (σv.set i (some x)) vs).set v none = (L2.wipe σv vs).set v none
    by_cases e : i ∈ vs
    · rw [wipe_set e]
    · have e2 : i = v := by
        rcases List.mem_cons.mp h with h | h
        · exact h
        · exact absurd h e
      subst e2
      have key : ∀ (us : List Nat) (τ : L2.St), i ∉ us → L2.wipe (τ.set i (some x)) us = (L2.wipe τ us).set i (some x) := by
        intro us
        induction us with
        | nil => intro τ _; rfl
        | cons u us ih =>
          intro τ hu
          rw [List.mem_cons, not_or] at hu
          show (L2.wipe (τ.set i (some x)) us).set u none = ((L2.wipe τ us).set u none).set i (some x)
          rw [ih τ hu.2, List.set_comm _ _ hu.1]
      rw [key vs σv e, List.set_set]
/-- a target's reading over the heap -/
def LG (cl : Nat → Addr) (K : PySem.W.Frag) (t : Tg) : TG := fun v σv H Q => ∃ d σ m k, IsV K H d v ∧ StR K H σv σ ∧ Rep cl K H m ∧ rTg t d σ m k ∧ ∀ σ' m' σv' H', k σ' m' → StR K H' σv' σ' → Rep cl K H' m' → Ext H m H' m' → (∀ vs : List Nat, (∀ i ∈ tgSlots t, i ∈ vs) → L2.wipe σv' vs = L2.wipe σv vs) → Q σv' H'
def LGs (cl : Nat → Addr) (K : PySem.W.Frag) (t : Tgs) : TGs := fun vs σv H Q => ∃ ds σ m k, IsL K H ds vs ∧ StR K H σv σ ∧ Rep cl K H m ∧ rTgs t ds σ m k ∧ ∀ σ' m' σv' H', k σ' m' → StR K H' σv' σ' → Rep cl K H' m' → Ext H m H' m' → (∀ vs : List Nat, (∀ i ∈ tgsSlots t, i ∈ vs) → L2.wipe σv' vs = L2.wipe σv vs) → Q σv' H'
theorem pg_imp {e : Expr} {t t' : TG} (h : PG X e t) (i : ∀ v σ H Q, t' v σ H Q → t v σ H Q) : PG X e t' := ⟨fun pins s σ H v u Q I r q => h.run pins s σ H v u Q I r (i _ _ _ _ q)⟩
theorem pgs_imp {e : List Expr} {t t' : TGs} (h : PGs X e t) (i : ∀ v σ H Q, t' v σ H Q → t v σ H Q) : PGs X e t' := ⟨fun pins s σ H v u Q I r q => h.run pins s σ H v u Q I r (i _ _ _ _ q)⟩
theorem pg_or {e : Expr} {t t' : TG} (h : PG X e t) (h' : PG X e t') : PG X e fun v σ H Q => t v σ H Q ∨ t' v σ H Q := ⟨fun pins s σ H v u Q I r q => q.elim (h.run pins s σ H v u Q I r) (h'.run pins s σ H v u Q I r)⟩
def noStar : Expr → Bool
  | .Starred .. => false
  | _ => true
theorem asg_cons {e : Expr} (h : noStar e = true) (es : List Expr) (env : Env) : assignEach (e :: es) env = (false, assign e env) :: assignEach es env := by
  cases e <;> first | rfl | cases h
theorem cTg_star {N : List Str} {ok : Str → Bool} {n : Nat} {e : Expr} {t : Tg} (h : cTg N ok n e = some t) : noStar e = true := by
  cases n with
  | zero => simp [cTg] at h
  | succ n => cases e <;> first | rfl | (simp [cTg] at h)
theorem cTgs_len {N : List Str} {ok : Str → Bool} : ∀ {n : Nat} {es : List Expr} {ts : Tgs}, cTgs N ok n es = some ts → es.length = tgsLen ts
  | 0, _, _, h => by simp [cTgs] at h
  | n + 1, es, ts, h => by
    unfold cTgs at h
    split at h
    · cases h
      rfl
    · obtain ⟨t1, q1, h⟩ := Option.bind_eq_some_iff.mp h
      obtain ⟨t2, q2, h⟩ := Option.map_eq_some_iff.mp h
      subst h
      rw [List.length_cons, cTgs_len q2]
      rfl
theorem unp_cases {K : PySem.W.Frag} {H : Hp} {m : Mem} {d : D} {ds : List D} {v : V} (hr : Rep cl K H m) (e : unp m d = some ds) (h : IsV K H d v) : ∃ a vs, v = .ref a ∧ (SqT K H a vs ∨ SqL K H a vs) ∧ IsL K H ds vs := by
  unfold unp at e
  split at e
  · rename_i es q
    cases e
    obtain ⟨a, vs, e, t, l⟩ := tupS_sq q h
    exact ⟨a, vs, e, .inl t, l⟩
  · obtain ⟨a, vs, e, t, l⟩ := lstOf_is hr e h
    exact ⟨a, vs, e, .inr t, l⟩
theorem pg_both (G : Good cl c Γ k W sc X) (cool : c.hot = false) {ok : Str → Bool} (hok : ∀ x, ok x = true → L2.Loc X.env.scope x ∧ (X.fn x = true ∨ X.env.scope.names.lookup x = some .local)) : ∀ n : Nat, (∀ {e : Expr} {t : Tg}, cTg c.N ok n e = some t → PG X e (LG cl X.K t)) ∧
    ∀ {es : List Expr} {ts : Tgs}, cTgs c.N ok n es = some ts → PGs X es (LGs cl X.K ts) ∧ assignEach es X.env = es.map fun e => (false, assign e X.env)
  | 0 => ⟨fun h => by simp [cTg] at h, fun h => by simp [cTgs] at h⟩
  | n + 1 => by
    obtain ⟨ih1, ih2⟩ := pg_both G cool hok n
    refine ⟨fun {e t} h => ?_, fun {es ts} h => ?_⟩
    · unfold cTg at h
      split at h
      · rename_i x pos
        split at h
        · rename_i hx
          obtain ⟨i, e1, e2⟩ := Option.map_eq_some_iff.mp h
          subst e2
          obtain ⟨l1, l2⟩ := hok x hx
          refine pg_imp (L2.pg_name (i := i) (by rw [G.hN]; exact G.nd) (by rw [G.hN]; exact slotOf_get e1) l1 l2) fun v σv H Q q => ?_
          obtain ⟨d, σ, m, k, hd, hs, hr, ht, p⟩ := q
          exact p _ _ _ _ ht (hs.set hd i) hr (Ext.refl H m) fun vs h => wipe_set (h i (by simp [tgSlots]))
        · cases h
      · rename_i es j pos
        obtain ⟨ts, e1, e2⟩ := Option.map_eq_some_iff.mp h
        subst e2
        obtain ⟨hg, ha⟩ := ih2 e1
        have hn : (assignEach es X.env).length = es.length := by rw [ha, List.length_map]
        have hst : (assignEach es X.env).findIdx? (·.1) = none := by rw [ha, List.findIdx?_eq_none_iff]; intro q hq; obtain ⟨_, _, rfl⟩ := List.mem_map.mp hq; rfl
        refine pg_imp (pg_or (L2.pg_tup (n := es.length) (k := j) (pos := pos) (G.calm cool) hg hn hst) (L2.pg_lst (n := es.length) (k := j) (pos := pos) (G.calm cool) hg hn hst)) fun v σv H Q q => ?_
        obtain ⟨d, σ, m, k, hd, hs, hr, ht, p⟩ := q
        unfold rTg at ht
        split at ht
        · rename_i ds hu
          obtain ⟨a, vs, ev, hq, hl⟩ := unp_cases hr hu hd
          have len : vs.length = es.length := by
            rw [hl.length, ht.1]
            exact (cTgs_len e1).symm
          have both : LGs cl X.K ts vs σv H Q := ⟨ds, σ, m, k, hl, hs, hr, ht.2, p⟩
          rcases hq with hq | hq
          · exact .inl ⟨a, vs, ev, hq, len, both⟩
          · exact .inr ⟨a, vs, ev, hq, len, both⟩
        · exact ht.elim
      · cases h
    · unfold cTgs at h
      split at h
      · cases h
        refine ⟨pgs_imp L2.pgs_nil fun v σv H Q q => ?_, rfl⟩
        obtain ⟨ds, σ, m, k, hd, hs, hr, ht, p⟩ := q
        unfold rTgs at ht
        cases ds with
        | nil => exact ⟨hd, p _ _ _ _ ht hs hr (Ext.refl H m) fun _ _ => rfl⟩
        | cons d ds => exact ht.elim
      · rename_i e r
        obtain ⟨t1, q1, h⟩ := Option.bind_eq_some_iff.mp h
        obtain ⟨t2, q2, h⟩ := Option.map_eq_some_iff.mp h
        subst h
        have ga := ih1 q1
        obtain ⟨gb, eb⟩ := ih2 q2
        have st := cTg_star q1
        refine ⟨pgs_imp (L2.pgs_cons ga gb (by rw [asg_cons st]; rfl)) fun v σv H Q q => ?_, by rw [asg_cons st, eb]; rfl⟩
        obtain ⟨ds, σ, m, k, hd, hs, hr, ht, p⟩ := q
        unfold rTgs at ht
        cases ds with
        | nil => exact ht.elim
        | cons d ds =>
          obtain ⟨v1, vr, ev, h1, hl⟩ := hd
          refine ⟨v1, vr, ev, d, σ, m, _, h1, hs, hr, ht, fun σ1 m1 σv1 H1 z1 s1 r1 e1 w1 => ?_⟩
          exact ⟨ds, σ1, m1, k, hl.kp (hr.kp e1), s1, r1, z1, fun σ2 m2 σv2 H2 z2 s2 r2 e2 w2 => p _ _ _ _ z2 s2 r2 (e1.trans e2) fun vs h => (w2 vs fun i hi => h i (by simp [tgsSlots, hi])).trans (w1 vs fun i hi => h i (by simp [tgsSlots, hi]))⟩
theorem pg_D (G : Good cl c Γ k W sc X) (cool : c.hot = false) {ok : Str → Bool} (hok : ∀ x, ok x = true → L2.Loc X.env.scope x ∧ (X.fn x = true ∨ X.env.scope.names.lookup x = some .local)) {n : Nat} {e : Expr} {t : Tg} (h : cTg c.N ok n e = some t) : PG X e (LG cl X.K t) := (pg_both G cool hok n).1 h
end
end DL

namespace DL
open PySem PySem.Spec PyProof.Rows
open L2 (V Hp HO SqL SqT TE TT TA TS TG TGs Cx Inv PE PT PW PA PS PSs PG PGs RelV Vals WX OpR UnR CallR IxR SlR MtR It TI PI)
section
variable {cl : Nat → Addr} {c : Ctx} {Γ : En} {k : Nat} {W : WX} {sc : Scope} {X : Cx} {bv : Bool}
/-- an iterator that gives these items as long as g stands -/
structure IsIt (cl : Nat → Addr) (K : PySem.W.Frag) (H0 : Hp) (J : It) (g : Mem → Prop) (items : List D) : Prop where
  go : ∀ i d H m, items[i]? = some d → Kp H0 H → Rep cl K H m → g m → J.go i H
  yld : ∀ i d H m x H', items[i]? = some d → Kp H0 H → Rep cl K H m → g m → J.yld i H x H' → IsV K H' d x ∧ Rep cl K H' m ∧ Ext H m H' m
  stop : ∀ H m, Kp H0 H → Rep cl K H m → g m → J.stop items.length H
theorem isIt_list {K : PySem.W.Frag} {H0 : Hp} {a : Addr} {g : Mem → Prop} {items : List D} (h : ∀ H m, Kp H0 H → Rep cl K H m → g m → ∃ vs, SqL K H a vs ∧ IsL K H items vs) : IsIt cl K H0 (L2.Itl K a) g items where
  go := fun i d H m e k r q => by
    obtain ⟨vs, s, l⟩ := h H m k r q
    obtain ⟨v, e1, _⟩ := l.get e
    exact ⟨vs, v, s, e1⟩
  yld := fun i d H m x H' e k r q y => by
    obtain ⟨rfl, y⟩ := y
    obtain ⟨vs, s, l⟩ := h H' m k r q
    obtain ⟨v, e1, e2⟩ := l.get e
    have := y vs s
    rw [e1] at this
    cases this
    exact ⟨e2, r, Ext.refl _ _⟩
  stop := fun H m k r q => by
    obtain ⟨vs, s, l⟩ := h H m k r q
    exact ⟨vs, s, by rw [l.length]; exact Nat.le_refl _⟩
theorem isIt_tup {K : PySem.W.Frag} {H0 : Hp} {a : Addr} {vs : List V} {items : List D} (s : ∀ H, Kp H0 H → SqT K H a vs) (l : IsL K H0 items vs) : IsIt cl K H0 (L2.Itt K a) gTrue items where
  go := fun i d H m e k r q => by
    obtain ⟨v, e1, _⟩ := l.get e
    exact ⟨vs, v, s H k, e1⟩
  yld := fun i d H m x H' e k r q y => by
    obtain ⟨rfl, y⟩ := y
    obtain ⟨v, e1, e2⟩ := l.get e
    have := y vs (s _ k)
    rw [e1] at this
    cases this
    exact ⟨e2.kp k, r, Ext.refl _ _⟩
  stop := fun H m k r q => ⟨vs, s H k, by rw [l.length]; exact Nat.le_refl _⟩
theorem rangeD_get {c : Int} : ∀ {n : Nat} {lo : Int} {i : Nat} {d : D}, (rangeD lo c n)[i]? = some d → i < n ∧ d = .int (lo + (i : Int) * c)
  | 0, _, _, _, h => by simp [rangeD] at h
  | n + 1, lo, 0, d, h => by
    have : D.int lo = d := by simpa [rangeD] using h
    subst this
    exact ⟨Nat.zero_lt_succ _, by simp⟩
  | n + 1, lo, i + 1, d, h => by
    obtain ⟨a, b⟩ := rangeD_get (n := n) (lo := lo + c) (i := i) (by simpa [rangeD] using h)
    refine ⟨Nat.succ_lt_succ a, ?_⟩
    rw [b]
    congr 1
    rw [Int.natCast_succ, Int.add_mul]
    omega
theorem rangeD_len (c : Int) : ∀ (n : Nat) (lo : Int), (rangeD lo c n).length = n
  | 0, _ => rfl
  | n + 1, lo => congrArg (· + 1) (rangeD_len c n (lo + c))
theorem isIt_rng {K : PySem.W.Frag} {H0 : Hp} {lo : Int} {n : Nat} : IsIt cl K H0 (L2.Itr lo n) gTrue (rangeD lo 1 n) where
  go := fun i d H m e k r q => (rangeD_get e).1
  yld := fun i d H m x H' e k r q y => by
    obtain ⟨rfl, y⟩ := y
    subst y
    rw [(rangeD_get e).2]
    exact ⟨by show V.int _ = V.int _; congr 1; omega, r, Ext.refl _ _⟩
  stop := fun H m k r q => by
    rw [rangeD_len]
    exact Nat.le_refl _
/-- what a for or a comprehension walks -/
def LI (cl : Nat → Addr) (K : PySem.W.Frag) (W : WX) (t : XK → St → Mem → ((Mem → Prop) → List D → Mem → Prop) → Prop) : TI := fun σv H R => ∃ σ m k E, StR K H σv σ ∧ Rep cl K H m ∧ t E σ m k ∧
  (∀ g items m' H' J, k g items m' → IsIt cl K H' J g items → Rep cl K H' m' → Ext H m H' m' → R J H') ∧ PostX cl K W H m E
abbrev PIl (cl : Nat → Addr) (W : WX) (X : Cx) (tg e : Expr) (t : XK → St → Mem → ((Mem → Prop) → List D → Mem → Prop) → Prop) : Prop := PI X tg e (LI cl X.K W t)
/-- the same code by one reading or another -/
theorem PI.or_ {tg e : Expr} {a b : TI} (ha : PI X tg e a) (hb : PI X tg e b) : PI X tg e fun σ H R => a σ H R ∨ b σ H R := ⟨fun pins s σ H R I h => h.elim (ha.run pins s σ H R I) (hb.run pins s σ H R I)⟩
theorem pi_imp {tg e : Expr} {t t' : TI} (h : PI X tg e t) (i : ∀ σ H Q, t' σ H Q → t σ H Q) : PI X tg e t' := ⟨fun pins s σ H Q I q => h.run pins s σ H Q I (i _ _ _ q)⟩
/-- a list, a tuple or a text is walked -/
theorem pi_any {tg l : Expr} {tl : TE} (hl : PE X l tl) : PI X tg l fun σ H R => tl σ H fun x Hx => (∃ a vs, x = .ref a ∧ SqL X.K Hx a vs ∧ R (L2.Itl X.K a) Hx) ∨ (∃ a vs, x = .ref a ∧ SqT X.K Hx a vs ∧ R (L2.Itt X.K a) Hx) ∨ (∃ z, x = .str z ∧ R (L2.Its z) Hx) ∨
    (∃ a o kvs, x = .ref a ∧ Hx a = some (.frz o (.dK kvs)) ∧ R (L2.Itk a o kvs) Hx) ∨ ∃ a o kvs, x = .ref a ∧ Hx a = some (.frz o (.dT kvs)) ∧ R (L2.Itkt a o kvs) Hx := by
  refine ⟨fun pins s σ H R I h => L2.thn (hl.run pins s σ H _ I h) ?_⟩
  rintro v s' ⟨x, Hx, J, rx, ⟨a, vs, rfl, hq, q⟩ | ⟨a, vs, rfl, hq, q⟩ | ⟨z, rfl, q⟩ | ⟨a, o, kvs, rfl, hd, q⟩ | ⟨a, o, kvs, rfl, hd, q⟩⟩
  · obtain rfl : v = Value.ref a := rx
    obtain ⟨us, _, pl, _⟩ := J.list hq
    refine wpAny_pyIter_list pl.isList ⟨s'.heap.objs.size, [s'.heap.objs.size], _, _, Hx, rfl, J.kept (t' := s'.toks) fun b o e => Heap.get?_push_of_some _ e, L2.turn_list a _, ⟨_, Heap.get?_push_size _ rfl, rfl, rfl⟩, ?_, q⟩
    intro b hb
    rw [List.mem_singleton] at hb
    rw [hb]
    exact J.fpOk (Nat.le_refl _) (J.hok.fresh (Nat.le_refl _))
  · obtain rfl : v = Value.ref a := rx
    obtain ⟨us, _, pl, _⟩ := J.tuple hq
    refine wpAny_pyIter_tuple (show s'.heap.IsTuple a us.toArray from pl) ⟨s'.heap.objs.size, [s'.heap.objs.size], _, _, Hx, rfl, J.kept (t' := s'.toks) fun b o e => Heap.get?_push_of_some _ e, L2.turn_tuple a _, ⟨_, Heap.get?_push_size _ rfl, rfl, rfl⟩, ?_, q⟩
    intro b hb
    rw [List.mem_singleton] at hb
    rw [hb]
    exact J.fpOk (Nat.le_refl _) (J.hok.fresh (Nat.le_refl _))
  · obtain ⟨t, rfl⟩ := rx
    cases hw : z.cps.all (· < 128) with
    | false => exact wpAny_pyIter_wide hw (L2.pi_one (tk := s'.toks) J _ (L2.turn_str _ z t _ (.inr rfl)) ⟨_, Heap.get?_push_size _ rfl, rfl, rfl⟩ q)
    | true => exact wpAny_pyIter_ascii hw (L2.pi_one (tk := s'.toks) J _ (L2.turn_str _ z t _ (.inl rfl)) ⟨_, Heap.get?_push_size _ rfl, rfl, rfl⟩ q)
  · obtain rfl : v = Value.ref a := rx
    obtain ⟨hs, hgd, hx, es, ep, vs, hdt, hsz, kv, hm⟩ := J.frzK hd
    refine L2.iter_keys hs hgd hx hdt (L2.pi_one (tk := s'.toks) J _ (L2.turn_keys _ hdt) ⟨_, Heap.get?_push_size _ rfl, rfl, ?_⟩ q)
    rw [hsz] <;> rfl
  · obtain rfl : v = Value.ref a := rx
    obtain ⟨hs, hgd, hx, es, ep, hdt, hsz, ent⟩ := J.frzT hd
    refine L2.iter_keys hs hgd hx hdt (L2.pi_one (tk := s'.toks) J _ (L2.turn_keysT _ hdt) ⟨_, Heap.get?_push_size _ rfl, rfl, ?_⟩ q)
    rw [hsz] <;> rfl
theorem isKs_at {K : PySem.W.Frag} {H : Hp} : ∀ {kvs : List (D × D)} {ws : List (L2.Key × V)}, IsKs K H kvs ws → ∀ {i : Nat} {d : D}, (kvs.map (·.1))[i]? = some d → ∃ k v, ws[i]? = some (k, v) ∧ IsV K H d (L2.kV k)
  | [], _, _, _, _, e => by simp at e
  | (x, d) :: r, _, ⟨k, v, t, e, q, h, z⟩, 0, y, e2 => by
    subst e
    have e3 : x = y := by simpa using e2
    subst e3
    refine ⟨k, v, rfl, ?_⟩
    cases x <;> simp only [keyOf, Option.some.injEq, reduceCtorEq] at q <;> (subst q; rfl)
  | (x, d) :: r, _, ⟨k, v, t, e, q, h, z⟩, i + 1, y, e2 => by
    subst e
    obtain ⟨k', v', a, b⟩ := isKs_at z (i := i) (by simpa using e2)
    exact ⟨k', v', by simpa using a, b⟩
theorem keysOf_is {K : PySem.W.Frag} {H : Hp} : ∀ {ds : List D} {ks : List L2.Key}, keysOf ds = some ks → IsL K H ds (ks.map L2.kV)
  | [], ks, h => by
    cases h
    rfl
  | d :: ds, ks, h => by
    obtain ⟨k, h1, h2⟩ := Option.bind_eq_some_iff.mp h
    obtain ⟨r, h3, h4⟩ := Option.map_eq_some_iff.mp h2
    subst h4
    refine ⟨_, _, rfl, ?_, keysOf_is h3⟩
    cases d <;> simp only [keyOf, Option.some.injEq, reduceCtorEq] at h1 <;> (subst h1; rfl)
theorem isTs_at {K : PySem.W.Frag} {H : Hp} : ∀ {kvs : List (D × D)} {ws : List (List L2.Key × V)}, IsTs K H kvs ws → ∀ {i : Nat} {d : D}, (kvs.map (·.1))[i]? = some d → ∃ k v, ws[i]? = some (k, v) ∧ tkeyOf d = some k
  | [], _, _, _, _, e => by simp at e
  | (x, d) :: r, _, ⟨k, v, t, e, q, h, z⟩, 0, y, e2 => by
    subst e
    have e3 : x = y := by simpa using e2
    subst e3
    exact ⟨k, v, rfl, q⟩
  | (x, d) :: r, _, ⟨k, v, t, e, q, h, z⟩, i + 1, y, e2 => by
    subst e
    obtain ⟨k', v', a, b⟩ := isTs_at z (i := i) (by simpa using e2)
    exact ⟨k', v', by simpa using a, b⟩
theorem isIt_keys {K : PySem.W.Frag} {H0 : Hp} {a : Addr} {o : Obj} {kvs : List (D × D)} {ws : List (L2.Key × V)} (h : H0 a = some (.frz o (.dK ws))) (l : IsKs K H0 kvs ws) : IsIt cl K H0 (L2.Itk a o ws) gTrue (kvs.map (·.1)) where
  go := fun i d H m e k r q => by
    obtain ⟨k', v', e1, _⟩ := isKs_at l e
    exact ⟨k.frz _ _ _ h, (List.getElem?_eq_some_iff.mp e1).1⟩
  yld := fun i d H m x H' e k r q y => by
    obtain ⟨rfl, k1, v1, e1, rfl⟩ := y
    obtain ⟨k', v', e2, b⟩ := isKs_at l e
    rw [e1] at e2
    cases e2
    exact ⟨b.kp k, r, Ext.refl _ _⟩
  stop := fun H m k r q => ⟨k.frz _ _ _ h, by rw [List.length_map, isKs_len l]; exact Nat.le_refl _⟩
theorem isIt_keysT {K : PySem.W.Frag} {H0 : Hp} {a : Addr} {o : Obj} {kvs : List (D × D)} {ws : List (List L2.Key × V)} (h : H0 a = some (.frz o (.dT ws))) (l : IsTs K H0 kvs ws) : IsIt cl K H0 (L2.Itkt a o ws) gTrue (kvs.map (·.1)) where
  go := fun i d H m e k r q => by
    obtain ⟨k', v', e1, _⟩ := isTs_at l e
    exact ⟨k.frz _ _ _ h, (List.getElem?_eq_some_iff.mp e1).1⟩
  yld := fun i d H m x H' e k r q y => by
    obtain ⟨rfl, k1, v1, q1, e1, rfl, tq⟩ := y
    obtain ⟨k', v', e2, b⟩ := isTs_at l e
    rw [e1] at e2
    cases e2
    refine ⟨?_, r, Ext.refl _ _⟩
    cases d <;> simp only [tkeyOf, reduceCtorEq] at b
    exact ⟨q1, _, rfl, tq, keysOf_is b⟩
  stop := fun H m k r q => ⟨k.frz _ _ _ h, by rw [List.length_map, isTs_len l]; exact Nat.le_refl _⟩
theorem isIt_str {K : PySem.W.Frag} {H0 : Hp} {s : List Nat} : IsIt cl K H0 (L2.Its (SX.S s)) gTrue (s.map fun c => .str [c]) where
  go := fun i d H m e k r q => by
    have := (List.getElem?_eq_some_iff.mp e).1
    show i < (SX.S s).cps.size
    simpa using this
  yld := fun i d H m x H' e k r q y => by
    obtain ⟨rfl, c, e2, y⟩ := y
    subst y
    rw [List.getElem?_map] at e
    have e3 : s[i]? = some c := by simpa using e2
    rw [e3] at e
    cases e
    exact ⟨rfl, r, Ext.refl _ _⟩
  stop := fun H m k r q => by
    show (SX.S s).cps.size ≤ _
    simp
theorem pi_ofD {tg e : Expr} {ta : Rd D} (ha : PEl cl W X e ta) : PIl cl W X tg e fun E σ m k => ta E σ m fun x m1 => iter x m1 fun g ds => k g ds m1 := by
  refine pi_imp (pi_any ha) fun σv H R q => ?_
  obtain ⟨σ, m, k, E, hs, hr, ht, p, px⟩ := q
  refine ⟨σ, m, _, E, hs, hr, ht, ⟨fun x m1 v H1 z s r e => ?_, px⟩⟩
  unfold iter at z
  cases ec : conS x with
  | some ds =>
    rw [ec] at z
    cases x with
    | tup es =>
      obtain ⟨a, vs, ea, t, l⟩ := s
      cases ec
      exact .inr (.inl ⟨a, vs, ea, sqt_of t, p _ _ _ _ _ z (isIt_tup (fun H' kp => sqt_of (kp.tup a vs t)) l) r e⟩)
    | ktup es =>
      obtain ⟨a, vs, ea, t, l⟩ := s
      cases ec
      exact .inr (.inl ⟨a, vs, ea, sqt_none t, p _ _ _ _ _ z (isIt_tup (fun H' kp => sqt_none t) l) r e⟩)
    | rol es =>
      obtain ⟨a, vs, ea, t, l⟩ := s
      cases ec
      exact .inl ⟨a, vs, ea, t.sq, p _ _ _ _ _ z (isIt_list fun H' m' kp _ _ => ⟨vs, (t.kp kp).sq, l.kp kp⟩) r e⟩
    | scr ns =>
      obtain ⟨a, ea, t⟩ := s
      cases ec
      exact .inl ⟨a, _, ea, t.sq, p _ _ _ _ _ z (isIt_list fun H' m' kp _ _ => ⟨_, (t.kp kp).sq, IsL.ints ns⟩) r e⟩
    | rod _ _ _ => cases ec
    | exc _ _ _ => cases ec
    | non => cases ec
    | bl _ => cases ec
    | int _ => cases ec
    | str _ => cases ec
    | ref _ => cases ec
  | none =>
    rw [ec] at z
    cases x with
    | str t =>
      cases s
      exact .inr (.inr (.inl ⟨_, rfl, p _ _ _ _ _ z isIt_str r e⟩))
    | ref a =>
      cases s
      cases em : m1 a with
      | none => simp only [em] at z
      | some o =>
        simp only [em] at z
        cases o with
        | lst ds =>
          obtain ⟨vs, y, l⟩ := r a _ em
          refine .inl ⟨a, vs, rfl, SqL.of y, p _ _ _ _ _ z (isIt_list fun H' m' kp r' g' => ?_) r e⟩
          obtain ⟨ws, y', l'⟩ := r' a _ g'
          exact ⟨ws, SqL.of y', l'⟩
        | _ => exact z.elim
    | rod b ks vs =>
      cases b with
      | false =>
        obtain ⟨a, kl, ws, o, e1, e2, l, q1, z1⟩ := s
        exact .inr (.inr (.inr (.inl ⟨a, o, _, e1, z1, p _ _ _ _ _ z (isIt_keys z1 (isKs_zip e2 l q1)) r e⟩)))
      | true =>
        obtain ⟨a, kl, ws, o, e1, e2, l, q1, z1⟩ := s
        exact .inr (.inr (.inr (.inr ⟨a, o, _, e1, z1, p _ _ _ _ _ z (isIt_keysT z1 (isTs_zip e2 l q1)) r e⟩)))
    | exc _ _ _ => exact z.elim
    | scr _ => cases ec
    | non => exact z.elim
    | bl _ => exact z.elim
    | int _ => exact z.elim
    | tup _ => cases ec
    | rol _ => cases ec
    | ktup _ => cases ec
theorem pi_rng1D (G : Good cl c Γ k W sc X) {tg a : Expr} {ta : Rd D} {p pos : Pos} (hg : isGl sc "range" = true) (ho : ("range" : Str) ∈ c.free) (hp : plainE a = true) (ha : PEl cl W X a ta) :
    PIl cl W X tg (.Call (.Name "range" p) [a] [] pos) fun E σ m k => ta E σ m fun x m1 => ∃ j, x = .int j ∧ i62 j ∧ k gTrue (rangeD 0 1 j.toNat) m1 := by
  obtain ⟨g1, g2, g3⟩ := isGl_ok G hg
  have st := plain_star hp [] X.env
  refine pi_imp (L2.pi_range1 g1 (G.free _ ho) (L2.pa_cons ha L2.pa_nil st) (by rw [st]; rfl)) fun σv H R q => ?_
  obtain ⟨σ, m, k, E, hs, hr, ht, p, px⟩ := q
  refine ⟨σ, m, _, E, hs, hr, ht, ⟨fun x m1 v H1 z s r e => ?_, px⟩⟩
  obtain ⟨j, ej, ⟨j1, j2⟩, z⟩ := z
  subst ej
  cases s
  exact ⟨j, rfl, j1, j2, p _ _ _ _ _ z isIt_rng r e⟩
theorem pi_rng2D (G : Good cl c Γ k W sc X) {tg a b : Expr} {ta tb : Rd D} {p pos : Pos} (hg : isGl sc "range" = true) (ho : ("range" : Str) ∈ c.free) (hp : plainE a = true) (hp2 : plainE b = true) (ha : PEl cl W X a ta) (hb : PEl cl W X b tb) :
    PIl cl W X tg (.Call (.Name "range" p) [a, b] [] pos) fun E σ m k => ta E σ m fun x m1 => tb E σ m1 fun y m2 => ∃ i j, x = .int i ∧ y = .int j ∧ i62 i ∧ i62 j ∧ k gTrue (rangeD i 1 (j - i).toNat) m2 := by
  obtain ⟨g1, g2, g3⟩ := isGl_ok G hg
  have st2 := plain_star hp2 [] X.env
  have st := plain_star hp [b] X.env
  refine pi_imp (L2.pi_range2 g1 (G.free _ ho) (L2.pa_cons ha (L2.pa_cons hb L2.pa_nil st2) st) (by rw [st, st2]; rfl) (by rw [st2]; rfl)) fun σv H R q => ?_
  obtain ⟨σ, m, k, E, hs, hr, ht, p, px⟩ := q
  refine ⟨σ, m, _, E, hs, hr, ht, ⟨fun x m1 v H1 z s r e => ?_, px⟩⟩
  refine ⟨σ, m1, _, E, hs.kp (hr.kp e), r, z, ⟨fun y m2 w H2 z2 s2 r2 e2 => ?_, px.step e⟩⟩
  obtain ⟨i, j, ei, ej, ⟨i1, i2⟩, ⟨j1, j2⟩, z2⟩ := z2
  subst ei ej
  cases s
  cases s2
  exact ⟨i, j, rfl, ⟨i1, i2, j1, j2⟩, p _ _ _ _ _ z2 isIt_rng r2 (e.trans e2)⟩

theorem isL_rg {K : PySem.W.Frag} {H : Hp} {a b : Int} : IsL K H (rangeD a 1 (b - a).toNat) (L2.rgV a b) := by
  unfold L2.rgV
  generalize (b - a).toNat = n
  induction n generalizing a with
  | zero => rfl
  | succ n ih =>
    rw [List.range_succ_eq_map, List.map_cons, List.map_map]
    refine ⟨_, _, rfl, by show V.int _ = V.int _; congr 1; simp, ?_⟩
    have e : ((fun i : Nat => V.int (a + (i : Int))) ∘ Nat.succ) = fun i : Nat => V.int (a + 1 + (i : Int)) := by
      funext i
      show V.int _ = V.int _
      congr 1
      show a + ((i + 1 : Nat) : Int) = a + 1 + (i : Int)
      omega
    rw [e]
    exact ih
theorem rg_ok {a b : Int} (h1 : i62 a) (h2 : i62 b) (h3 : (rangeD a 1 (b - a).toNat).length ≤ big) : L2.RgOk a b := by
  rw [rangeD_len] at h3
  unfold i62 at h1 h2
  unfold big at h3
  exact ⟨h1.1, h1.2, h2.1, h2.2, by omega⟩
theorem pe_lrg1 (G : Good cl c Γ k W sc X) {a : Expr} {ta : Rd D} {p q pos ps : Pos} (hl : isGl sc "list" = true) (hm : ("list" : Str) ∈ c.free) (hg : isGl sc "range" = true) (ho : ("range" : Str) ∈ c.free) (hp : plainE a = true) (ha : PEl cl W X a ta) :
    PEl cl W X (.Call (.Name "list" p) [.Call (.Name "range" q) [a] [] ps] [] pos) fun E σ m k => ta E σ m fun x m1 => ∃ j, x = .int j ∧ i62 j ∧ (rangeD 0 1 j.toNat).length ≤ big ∧ NewLv bv m1 (rangeD 0 1 j.toNat) k := by
  obtain ⟨g1, _, _⟩ := isGl_ok G hg
  obtain ⟨l1, _, _⟩ := isGl_ok G hl
  refine pe_imp (pe_frz <| L2.pe_listRg (G.calm (G.coolF hm (by decide) (by decide))) l1 (G.free _ hm) (L2.prg_1 g1 (G.free _ ho) ha (plain_star hp [] X.env))) fun σv H Q z => ?_
  obtain ⟨σ, m, k, E, hs, hr, ht, pp⟩ := z
  refine ⟨σ, m, _, E, hs, hr, ht, ⟨fun x m1 v H1 z s r e => ?_, pp.ex⟩⟩
  obtain ⟨j, ej, h1, h2, z⟩ := z
  subst ej
  cases s
  have e0 : (j - 0).toNat = j.toNat := by omega
  refine ⟨j, rfl, rg_ok (by unfold i62; omega) h1 (by rw [e0]; exact h2), fun q hq => ?_⟩
  exact newL_ok z.or hq (by rw [← e0]; exact isL_rg) r e pp.ok
theorem pe_lrg2 (G : Good cl c Γ k W sc X) {a b : Expr} {ta tb : Rd D} {p q pos ps : Pos} (hl : isGl sc "list" = true) (hm : ("list" : Str) ∈ c.free) (hg : isGl sc "range" = true) (ho : ("range" : Str) ∈ c.free) (hp : plainE a = true) (hp2 : plainE b = true) (ha : PEl cl W X a ta) (hb : PEl cl W X b tb) :
    PEl cl W X (.Call (.Name "list" p) [.Call (.Name "range" q) [a, b] [] ps] [] pos) fun E σ m k => ta E σ m fun x m1 => tb E σ m1 fun y m2 => ∃ i j, x = .int i ∧ y = .int j ∧ i62 i ∧ i62 j ∧ (rangeD i 1 (j - i).toNat).length ≤ big ∧ NewLv bv m2 (rangeD i 1 (j - i).toNat) k := by
  obtain ⟨g1, _, _⟩ := isGl_ok G hg
  obtain ⟨l1, _, _⟩ := isGl_ok G hl
  have st2 := plain_star hp2 [] X.env
  refine pe_imp (pe_frz <| L2.pe_listRg (G.calm (G.coolF hm (by decide) (by decide))) l1 (G.free _ hm) (L2.prg_2 g1 (G.free _ ho) ha hb (plain_star hp [b] X.env) st2 (by rw [st2]; rfl))) fun σv H Q z => ?_
  obtain ⟨σ, m, k, E, hs, hr, ht, pp⟩ := z
  refine ⟨σ, m, _, E, hs, hr, ht, ⟨fun x m1 v H1 z s r e => ?_, pp.ex⟩⟩
  refine ⟨σ, m1, _, E, hs.kp (hr.kp e), r, z, ⟨fun y m2 w H2 z2 s2 r2 e2 => ?_, pp.ex.step e⟩⟩
  obtain ⟨i, j, ei, ej, h1, h2, h3, z2⟩ := z2
  subst ei ej
  cases s
  cases s2
  refine ⟨i, j, rfl, rfl, rg_ok h1 h2 h3, fun q hq => ?_⟩
  exact newL_ok z2.or hq isL_rg r2 (e.trans e2) pp.ok
theorem swipe_get {σ : St} {i : Nat} {e : D} : ∀ {vs : List Nat}, sget (swipe σ vs) i = some e → sget σ i = some e ∧ i ∉ vs
  | [], h => ⟨h, by simp⟩
  | v :: vs, h => by
    obtain ⟨a, b⟩ := sget_swipe1 (show sget (swipe1 (swipe σ vs) v) i = some e from h)
    obtain ⟨c, d⟩ := swipe_get b
    exact ⟨c, by simp [a, d]⟩
theorem wipe_mem {σv : L2.St} : ∀ {vs : List Nat} {i : Nat}, i ∈ vs → (L2.wipe σv vs).set i none = L2.wipe σv vs
  | [], _, h => by cases h
  | v :: vs, i, h => by
    show ((L2.wipe σv vs).set v none).set i none = (L2.wipe σv vs).set v none
    by_cases e : i = v
    · rw [e, List.set_set]
    · rw [List.set_comm _ _ (Ne.symm e), wipe_mem ((List.mem_cons.mp h).resolve_left e)]
theorem wipe_two {σv : L2.St} {vs : List Nat} : L2.wipe (L2.wipe σv vs) vs = L2.wipe σv vs := by
  have key : ∀ us : List Nat, (∀ i ∈ us, i ∈ vs) → L2.wipe (L2.wipe σv vs) us = L2.wipe σv vs := by
    intro us
    induction us with
    | nil => intro _; rfl
    | cons u us ih =>
      intro h
      show (L2.wipe (L2.wipe σv vs) us).set u none = _
      rw [ih fun i hi => h i (List.mem_cons_of_mem _ hi), wipe_mem (h u (List.mem_cons_self ..))]
  exact key vs fun _ h => h
theorem Rep.hmut {K : PySem.W.Frag} {H : Hp} {m : Mem} {p : Addr} {ws us : List V} (r : Rep cl K H m) (n : m p = none) (h : H p = some (.lst ws)) : Rep cl K (L2.upd H p (.lst us)) m := fun a w e => by
  have z : a ≠ p := fun z => by
    subst z
    rw [n] at e
    cases e
  exact (r a w e).kp (kp_mut h (fun _ h => nomatch h) fun _ _ h => nomatch h) (L2.upd_ne z)
/-- the turns of a comprehension -/
theorem tLc_of {K : PySem.W.Frag} {ts : XK → St → Mem → ((Mem → Prop) → List D → Mem → Prop) → Prop} {t : Tg} {tt : Rd Bool} {te : Rd D} {vs : List Nat} {σv : L2.St} {H : Hp} {Q Q' : V → Hp → Prop} (hq : ∀ v H, FQ Q v H → Q' v H) (hv : ∀ i ∈ tgSlots t, i ∈ vs)
    (h : Lift cl K W (RV K) (fun E σ m k => ts E σ m fun g items m1 => items.length ≤ big ∧ rLc g (rTg t) (tt fun _ _ _ => False) (te fun _ _ _ => False) (swipe σ vs) items [] m1 fun ds m2 => NewLv bv m2 ds k) σv H Q) :
    L2.tLc (LI cl K W ts) (LG cl K t) (Lift cl K (fun _ _ _ _ => False) RB tt) (Lift cl K (fun _ _ _ _ => False) (RV K) te) vs σv H Q' := by
  obtain ⟨σ, m, k, E, hs, hr, ht, p⟩ := h
  refine ⟨σ, m, _, E, hs, hr, ht, fun g items m1 H1 J z it r e => ?_, p.ex⟩
  obtain ⟨zl, z⟩ := z
  intro D hD
  refine ⟨fun i n H => n = items.length - i ∧ i ≤ items.length ∧ ∃ acc ws m2, H D = some (.lst ws) ∧ IsL K H acc ws ∧ acc.length ≤ i ∧ Rep cl K H m2 ∧ m2 D = none ∧ Ext H1 m1 H m2 ∧
    rLc g (rTg t) (tt fun _ _ _ => False) (te fun _ _ _ => False) (swipe σ vs) (items.drop i) acc m2 (fun ds m2 => NewLv bv m2 ds k),
    ⟨_, rfl, Nat.zero_le _, [], [], m1, L2.upd_same, rfl, Nat.le_refl _, r.hid hD, r.free hD, Ext.hid hD, z⟩, ?_⟩
  rintro i n H2 ⟨rfl, hi, acc, ws, m2, hd, hl, ha, r2, n2, e2, z2⟩
  have kp2 : Kp H1 H2 := r.kp e2
  by_cases hlt : i < items.length
  · have dr : items.drop i = items[i] :: items.drop (i + 1) := List.drop_eq_getElem_cons hlt
    rw [dr] at z2
    obtain ⟨gg, z2⟩ := z2
    refine .inr ⟨it.go i _ H2 m2 (List.getElem?_eq_getElem hlt) kp2 r2 gg, fun H' => ∃ acc ws m2, H' D = some (.lst ws) ∧ IsL K H' acc ws ∧ acc.length ≤ i + 1 ∧ Rep cl K H' m2 ∧ m2 D = none ∧ Ext H1 m1 H' m2 ∧
      rLc g (rTg t) (tt fun _ _ _ => False) (te fun _ _ _ => False) (swipe σ vs) (items.drop (i + 1)) acc m2 (fun ds m2 => NewLv bv m2 ds k),
      fun H' q => ⟨items.length - (i + 1), by omega, rfl, hlt, q⟩, fun x H' y => ?_⟩
    obtain ⟨hx, r3, e3⟩ := it.yld i _ H2 m2 x H' (List.getElem?_eq_getElem hlt) kp2 r2 gg y
    refine ⟨items[i], swipe σ vs, m2, _, hx, ((hs.kp (hr.kp e)).kp (kp2.trans (r2.kp e3))).wipe vs, r3, z2, fun σ' m' σv' H3 z3 s3 r4 e4 w4 => ⟨(w4 vs hv).trans wipe_two, ?_⟩⟩
    refine ⟨σ', m', _, fun _ _ _ => False, s3, r4, z3, ⟨fun b m5 b' H5 z5 s5 r5 e5 => ?_, ⟨fun _ _ _ _ _ _ _ z => z.elim⟩⟩⟩
    cases s5
    cases b with
    | true =>
      rw [if_pos rfl]
      refine ⟨σ', m5, _, fun _ _ _ => False, s3.kp (r4.kp e5), r5, z5.1 rfl, ⟨fun v m6 y H6 z6 s6 r6 e6 => ?_, ⟨fun _ _ _ _ _ _ _ z => z.elim⟩⟩⟩
      obtain ⟨m7, sb, z6⟩ := z6
      have tot : Ext H2 m2 H6 m6 := ((e3.trans e4).trans e5).trans e6
      have hd6 : H6 D = some (.lst ws) := tot.keep D _ hd n2
      have n7 : m7 D = none := (tot.sub sb).new D n2 (by rw [hd]; exact fun z => nomatch z)
      have kq : Kp H6 (L2.upd H6 D (.lst (ws ++ [y]))) := kp_mut hd6 (fun _ h => nomatch h) fun _ _ h => nomatch h
      refine ⟨ws, hd6, ?_, acc ++ [v], ws ++ [y], m7, L2.upd_same, ((hl.kp (r2.kp tot)).kp kq).append ⟨y, [], rfl, s6.kp kq, rfl⟩, ?_, (r6.sub sb).hmut n7 hd6, n7, ?_, z6⟩
      · rw [hl.length]
        have := big_le zl
        have : items.length ≤ sizeLine := this
        omega
      · rw [List.length_append, List.length_singleton]
        omega
      · have q := e2.trans (tot.sub sb)
        refine ⟨fun a o h n => ?_, q.new⟩
        rw [L2.upd_ne (L2.ne_of_none h hD)]
        exact q.keep a o h n
    | false =>
      rw [if_neg (by decide)]
      obtain ⟨m7, sb, z6⟩ := z5.2 rfl
      have tot : Ext H2 m2 H5 m5 := (e3.trans e4).trans e5
      exact ⟨acc, ws, m7, tot.keep D _ hd n2, hl.kp (r2.kp tot), by omega, r5.sub sb, (tot.sub sb).new D n2 (by rw [hd]; exact fun z => nomatch z), e2.trans (tot.sub sb), z6⟩
  · have ei : i = items.length := by omega
    subst ei
    rw [List.drop_length] at z2
    obtain ⟨gg, z2⟩ := z2
    refine .inl ⟨it.stop H2 m2 kp2 r2 gg, hq _ _ (fz_ok (m := upd m2 D (.lst acc)) (H0 := H) (m0 := m) (newL_fz z2.or n2) rfl (fun a o q => ?_) (e.trans ⟨e2.keep, fun a n h => ?_⟩) p.ok)⟩
    · by_cases z : a = D
      · subst z
        rw [upd_same] at q
        cases q
        exact ⟨ws, hd, hl⟩
      · rw [upd_ne z] at q
        exact r2 a o q
    · rw [upd_ne (fun z => h (by rw [z, hD]))]
      exact e2.new a n h
theorem lc_hok (G : Good cl c Γ k W sc X) (s : Shared) (H : Hp) (scope : Scope) (C : Addr) (cc : List (Str × Addr)) (fp : List Addr) (x : Str) (h : lcOk scope sc x = true) :
    L2.Loc (X.blk s H scope (compEnvC scope cc C X.env) fp).env.scope x ∧ ((X.blk s H scope (compEnvC scope cc C X.env) fp).fn x = true ∨ (X.blk s H scope (compEnvC scope cc C X.env) fp).env.scope.names.lookup x = some .local) := by
  have e : (X.blk s H scope (compEnvC scope cc C X.env) fp).env.scope = L2.relS scope sc := by
    rw [← G.hsc]
    rfl
  unfold lcOk isLoc isLocC at h
  rw [e]
  rw [Bool.or_eq_true] at h
  rcases h with h | h
  · have h := of_decide_eq_true h
    exact ⟨.inl h, .inr h⟩
  · rw [Bool.and_eq_true, Bool.or_eq_true] at h
    obtain ⟨h1, h2⟩ := h
    have h2 := of_decide_eq_true h2
    refine ⟨h1.elim (fun z => .inl (of_decide_eq_true z)) fun z => .inr (of_decide_eq_true z), .inl ?_⟩
    show (scope.names.lookup x == some .cell) = true
    rw [h2]
    rfl
theorem plain_fold {e : Expr} (h : plainE e = true) (env : Env) (x : Value) : foldedSetIterable e env x = pure x := by
  cases e <;> first | rfl | cases h
section
variable {elt tg it : Expr} {ifs : List Expr} {scope : Scope} {own : List (Str × Nat)} {t : Tg} {n : Nat} {pos : Pos} {ts : XK → St → Mem → ((Mem → Prop) → List D → Mem → Prop) → Prop} {tt : Rd Bool} {te : Rd D}
theorem lc_slots (hv : ((tgSlots t).all fun i => own.any fun q => q.2 == i) = true) : ∀ i ∈ tgSlots t, i ∈ own.map (·.2) := fun i hi => by
  have := List.all_eq_true.mp hv i hi
  obtain ⟨q, q1, q2⟩ := List.any_eq_true.mp this
  exact List.mem_map.mpr ⟨q, q1, by simpa using q2⟩
theorem blkC_kind (hb : L2.blkC c.N sc scope own = true) : scope.kind = .function ∧ ∀ y ∈ scope.names, scope.names.lookup y.1 = some y.2 :=
  ⟨(L2.blkOk_by hb).kind, (L2.blkOk_by hb).uniq⟩
theorem pe_lcD (G : Good cl c Γ k W sc X) (cool : c.hot = false) (hb : L2.blkC c.N sc scope own = true) (ht : cTg c.N (lcOk scope sc) n tg = some t) (hv : ((tgSlots t).all fun i => own.any fun q => q.2 == i) = true) (hp : plainE it = true) (hs : PIl cl W X tg it ts)
    (hi : ∀ Y, Good cl c Γ k (fun _ _ _ _ => False) (L2.relS scope sc) Y → L2.PTs Y ifs (Lift cl Y.K (fun _ _ _ _ => False) RB tt))
    (he : ∀ Y, Good cl c Γ k (fun _ _ _ _ => False) (L2.relS scope sc) Y → PEl cl (fun _ _ _ _ => False) Y elt te) :
    PEl cl W X (.ListComp elt [⟨tg, it, ifs, 0⟩] scope pos) fun E σ m k => ts E σ m fun g items m1 => items.length ≤ big ∧ rLc g (rTg t) (tt fun _ _ _ => False) (te fun _ _ _ => False) (swipe σ (own.map (·.2))) items [] m1 fun ds m2 => NewLv bv m2 ds k := by
  obtain ⟨b1, b2⟩ := blkC_kind hb
  refine pe_imp (pe_frz <| L2.pe_lc (own := own) (g := LG cl X.K t) (tt := Lift cl X.K (fun _ _ _ _ => False) RB tt) (te := Lift cl X.K (fun _ _ _ _ => False) (RV X.K) te) (G.calm cool) (by rw [G.hN]; exact G.nd) hs (by rw [G.hN, G.hsc]; exact L2.blkOk_by hb)
    (fun s H C cc fp => pg_D (G.blk s H scope C cc fp b1 b2) cool (lc_hok G s H scope C cc fp) ht)
    (fun s H C cc fp => hi _ (G.blk s H scope C cc fp b1 b2)) (fun s H C cc fp => he _ (G.blk s H scope C cc fp b1 b2)) (plain_fold hp X.env)) fun σv H Q q => ?_
  exact tLc_of (fun _ _ h => h) (lc_slots hv) q
end
end
end DL

namespace DL
open PySem
open Sem (wp)
open AutoSeq1 (wpAny_loadPart')
theorem meets_enumerate_newT (l : Addr) (items : Array Value) :
    Meets (Builtin.«enumerate.__new__» ⟨[.type "enumerate", .ref l], []⟩) (fun _ R s => s.heap.IsTuple l items ∧
      R (.ok (.ret (.ref (s.heap.push { cls := .type "tuple_iterator", data := .fields #[.ref l, .int 0 0] }).objs.size)))
        { s with heap := (s.heap.push { cls := .type "tuple_iterator", data := .fields #[.ref l, .int 0 0] }).push { cls := .type "enumerate", data := .fields #[.none, .bool false, .ref s.heap.objs.size, rawInt 0, .none, .none] } }) :=
  .of_wp fun prog w A R s h => by
    obtain ⟨hp, g, d, tk, os⟩ := s; obtain ⟨hL, h⟩ := h
    have hsub := sub_enumerate
    obtain ⟨o, hl, ho⟩ := id hL
    wp_walk using wpAny_loadPart' hl
    refine wpAny_stack_any fun st => wpAny_pure ?_
    split
    · rename_i c _ _ _ _ _
      cases (c == Value.type "enumerate")
      · wp_walk using wpAny_loadPart' hl, wpAny_pyIter_tuple hL
        exact ⟨_, rfl, h⟩
      · wp_walk using wpAny_loadPart' hl, wpAny_pyIter_tuple hL
        exact ⟨_, rfl, h⟩
    · wp_walk using wpAny_loadPart' hl, wpAny_pyIter_tuple hL
      exact ⟨_, rfl, h⟩
section
variable {prog : Program} {w : World} {A : Around} {E : Value → Shared → Prop} {s : Shared}
theorem call_enumerate_tuple {l : Addr} {items : Array Value} {Q : Value → Shared → Prop} (hL : s.heap.IsTuple l items)
    (h : ∀ h', IsEnum h' (s.heap.objs.size + 1) s.heap.objs.size 0 .none → h'.IsTupleIter s.heap.objs.size l 0 → h'.objs.size = s.heap.objs.size + 2 →
      (∀ b o, s.heap.get? b = some o → h'.get? b = some o) → Q (.ref (s.heap.objs.size + 1)) { s with heap := h' }) :
    wpAny (model prog w) A (call (.type "enumerate") [.ref l]) Q E s := by
  refine callType_new F.called_enumerate (by decide) (F.typeCall_enumerate_1 _) (F.newCall_enumerate_1 _) (fun obj => F.args_object_init_2 obj _) F.entry_enumerate_new
    (meets_enumerate_newT l items) ⟨hL, ?_⟩
  have hz : (s.heap.push { cls := .type "tuple_iterator", data := .fields #[.ref l, .int 0 0] }).objs.size = s.heap.objs.size + 1 := Heap.size_push ..
  show _ ∧ _
  rw [hz]
  have he : IsEnum ((s.heap.push { cls := .type "tuple_iterator", data := .fields #[.ref l, .int 0 0] }).push
      { cls := .type "enumerate", data := .fields #[.none, .bool false, .ref s.heap.objs.size, rawInt 0, .none, .none] }) (s.heap.objs.size + 1) s.heap.objs.size 0 .none := by
    have := Heap.get?_push_size (s.heap.push { cls := .type "tuple_iterator", data := .fields #[.ref l, .int 0 0] })
      (o := { cls := .type "enumerate", data := .fields #[.none, .bool false, .ref s.heap.objs.size, rawInt 0, .none, .none] }) rfl
    rw [hz] at this; exact this
  refine ⟨⟨_, he, rfl⟩, h _ he ⟨_, Heap.get?_push_of_some _ (Heap.get?_push_size _ rfl), rfl, rfl⟩ (by rw [Heap.size_push, hz]) fun b o x => Heap.get?_push_of_some _ (Heap.get?_push_of_some _ x)⟩
end
open PySem PySem.Spec PyProof.Rows
open L2 (V Hp HO SqL SqT TE TT TA TS TG TGs Cx Inv PE PT PW PA PS PSs PG PGs RelV Vals WX OpR UnR CallR IxR SlR MtR It TI PI Turn)
def IteT (K : PySem.W.Frag) (a : Addr) : It :=
  ⟨fun i H => ∃ (xs : List V) (x : V), SqT K H a xs ∧ xs[i]? = some x, fun i H v H' => ∃ T x, v = .ref T ∧ H T = none ∧ H' = L2.upd H T (.tup [.int (i : Nat), x]) ∧ ∀ xs, SqT K H a xs → xs[i]? = some x, fun i H => ∃ xs : List V, SqT K H a xs ∧ xs.length ≤ i⟩
theorem turn_enumT {P : Program} {w : World} {K : PySem.W.Frag} {elts : List Expr} {kk : Nat} {tpos : Pos} (a e it : Addr) :
    Turn P w K (.Tuple elts kk tpos) (IteT K a) [e, it] e (fun i h => (∃ old, IsEnum h e it ((i : Nat) : Int) old) ∧ h.IsTupleIter it a i ∧ e ≠ it ∧ e ≠ a ∧ a ≠ it) where
  mem := by simp
  obj := fun i h st b hb => by
    obtain ⟨⟨old, he⟩, ⟨o, ho, hc, hd⟩, _⟩ := st
    have e' : b = e ∨ b = it := by simpa using hb
    rcases e' with z | z
    · rw [z]; exact ⟨_, he, fun v q => nomatch q⟩
    · rw [z]; exact ⟨o, ho, fun v q => by rw [hd] at q; cases q⟩
  keep := fun i h h' st k => let ⟨⟨old, he⟩, hi, hne⟩ := st; ⟨⟨old, k e (by simp) _ he⟩, hi.at fun o q => k it (by simp) o q, hne⟩
  item := by
    intro X hP hw hK hc i pins s σ H E I hf st hg
    subst hP hw hK
    obtain ⟨⟨old, he⟩, hit, hne, hea, hai⟩ := st
    obtain ⟨xs, x, hq, hx⟩ := hg
    obtain ⟨its, rv, p, hz⟩ := I.tuple hq
    obtain ⟨u, hu, ru⟩ := rv.get hx
    have hel : e < s.heap.objs.size := Heap.lt_size he
    have hil : it < s.heap.objs.size := by obtain ⟨_, q, _⟩ := hit; exact Heap.lt_size q
    have hlt : i < its.toArray.size := by
      have := (List.getElem?_eq_some_iff.mp hu).1
      simpa using this
    have D : Draws X.prog X.w X.A.in1 it [it, a] its.toArray.size (fun i v => its.toArray[i]? = some v) (fun i h => h.IsTupleIter it a i ∧ h.IsTuple a its.toArray) := Draws.tuple (show X.A.in1.handled = none from I.ok.hd hc) it a hai its.toArray
    refine wpAny_pyNext_enum_itemD D he ⟨hit, p⟩ hlt hne (by simp [hne, hea]) fun y h' tk hy ho hit' hT hsz hk => ?_
    have ey : y = u := by
      have h1 : its.toArray[i]? = some u := by simpa using hu
      have h2 : its.toArray[i]? = some y := hy
      rw [h1] at h2
      exact (Option.some.inj h2).symm
    subst ey
    refine ⟨_, rfl, wpAny_letOwnedTupleGo_enum (s := { s with heap := h', toks := tk + 1 }) ho fun h'' he' sb => ?_⟩
    have hT2 : h''.get? s.heap.objs.size = some { cls := .type "tuple", data := .seq #[.int i tk, y] } := (sb.2 _ (Nat.ne_of_gt hel)).trans hT
    have new : L2.ObjOk X.prog X.w (L2.upd H s.heap.objs.size (.tup [.int (i : Nat), x])) h'' s.heap.objs.size (.tup [.int (i : Nat), x]) :=
      ⟨by show 2 ≤ sizeLine; decide, [.int i tk, y], .cons ⟨_, rfl⟩ (.cons ru .nil), ⟨_, hT2, rfl, _, rfl⟩⟩
    have I1 : Inv X pins σ (L2.upd H s.heap.objs.size (.tup [.int (i : Nat), x])) { s with heap := h'', toks := tk + 1 } :=
      I.turnedNew (ch := [e, it]) (fun b ob hb q => (sb.2 b (fun z => hb (by simp [z]))).trans (hk b ob (fun z => hb (by simp [z])) (fun z => hb (by simp [z])) q)) hf (Nat.le_refl _) new
    refine ⟨.ref s.heap.objs.size, _, I1, rfl, ⟨_, x, rfl, I.hok.fresh (Nat.le_refl _), rfl, fun ys hy => by rw [I.tuple_inj hy hq]; exact hx⟩, ⟨⟨y, ?_⟩, hit'.1.at fun o q => (sb.2 it (Ne.symm hne)).trans q, hne, hea, hai⟩, fun b hb => ?_⟩
    · have e1 : ((i + 1 : Nat) : Int) = (i : Int) + 1 := by omega
      rw [e1]; exact he'
    · have hb' : b < s.heap.objs.size := by
        have e' : b = e ∨ b = it := by simpa using hb
        rcases e' with z | z
        · rw [z]; exact hel
        · rw [z]; exact hil
      rw [L2.upd_ne (Nat.ne_of_lt hb')]
      exact (hf b hb).1
  done := by
    intro X hP hw hK hc i pins s σ H E I hf st hg
    subst hP hw hK
    obtain ⟨⟨old, he⟩, hit, hne, hea, hai⟩ := st
    obtain ⟨xs, hq, hx⟩ := hg
    obtain ⟨its, rv, p, hz⟩ := I.tuple hq
    obtain ⟨f0, f1, f2, f3, f4, f5⟩ := hf it (by simp)
    have hl := rv.length
    have D : Draws X.prog X.w X.A.in1 it [it, a] i (fun _ _ => True) (fun j h => h.IsTupleIter it a j ∧ h.IsTuple a its.toArray ∧ j = i) :=
      { live := fun _ _ st => let ⟨o, ho, _⟩ := st.1; ⟨o, ho⟩
        frame := fun _ _ _ st hk => ⟨st.1.at fun o e => hk it (by simp) o e, st.2.1.at fun o e => hk a (by simp) o e, st.2.2⟩
        item := fun j s Q E hj st hQ => absurd st.2.2 (Nat.ne_of_lt hj)
        done := fun s Q E st hE => wpAny_nextOf_tuple_end (show X.A.in1.handled = none from I.ok.hd hc) st.1 st.2.1 (by simp; omega) hE }
    exact wpAny_pyNext_enum_endD D he ⟨hit, p, rfl⟩ fun h' eb => ⟨rfl, I.turned (t' := s.toks) (fun b o hb q => eb b o hb q) f0 f1 f3 f4 f5⟩
  self := fun A i s Q E st h => let ⟨⟨_, he⟩, _⟩ := st; wpAny_pyIter_enum he h
section
variable {cl : Nat → Addr} {c : Ctx} {Γ : En} {k : Nat} {W : WX} {sc : Scope} {X : Cx}
theorem pi_enumA {e : Expr} {te : TE} {p pos tpos : Pos} {elts : List Expr} {kk : Nat} (hg : L2.Gl X "enumerate") (hm : X.mg "enumerate" = none) (he : PE X e te) (hs : starEach [e] X.env = (false, eval e X.env) :: starEach [] X.env) :
    PI X (.Tuple elts kk tpos) (.Call (.Name "enumerate" p) [e] [] pos) fun σ H R => te σ H fun v H1 => ∃ a xs, v = .ref a ∧ ((SqL X.K H1 a xs ∧ R (L2.Ite X.K a) H1) ∨ (SqT X.K H1 a xs ∧ R (IteT X.K a) H1)) := by
  refine ⟨fun pins s σ H R I h => ?_⟩
  refine Call_ (L2.ld_blt I hg hm boot_enumerate (PyProof.Rows.callWith_type1 (args_cons (L2.thn (he.run pins s σ H _ I h) fun u s1 ⟨v, H1, I1, r1, q1⟩ => args_nil ?_) hs) (hs.trans rfl) rfl))
  obtain ⟨a, xs, ex, q⟩ := q1
  subst ex
  obtain rfl : u = Value.ref a := r1
  have fr : ∀ b, b ∈ [s1.heap.objs.size + 1, s1.heap.objs.size] → L2.FpOk X pins H1 b := fun b hb => by
    have e' : b = s1.heap.objs.size + 1 ∨ b = s1.heap.objs.size := by simpa using hb
    have hle : s1.heap.objs.size ≤ b := by
      rcases e' with z | z
      · rw [z]; exact Nat.le_add_right _ _
      · rw [z]; exact Nat.le_refl _
    exact I1.fpOk hle (I1.hok.fresh hle)
  rcases q with ⟨hq, q⟩ | ⟨hq, q⟩
  · obtain ⟨its, rv, p', hz⟩ := I1.list hq
    refine call_enumerate_list p'.isList fun h' he hit hsz hk => wpAny_pyIter_enum he ?_
    have I2 : Inv X pins σ H1 { s1 with heap := h' } := I1.kept (t' := s1.toks) hk
    exact ⟨s1.heap.objs.size + 1, [s1.heap.objs.size + 1, s1.heap.objs.size], _, _, H1, rfl, I2, L2.turn_enum a (s1.heap.objs.size + 1) s1.heap.objs.size, ⟨⟨.none, he⟩, hit, Nat.succ_ne_self _⟩, fr, q⟩
  · obtain ⟨its, rv, p', hz⟩ := I1.tuple hq
    have hal : a < s1.heap.objs.size := by obtain ⟨o, ho, _⟩ := id p'; exact Heap.lt_size ho
    refine call_enumerate_tuple (show s1.heap.IsTuple a its.toArray from p') fun h' he hit hsz hk => wpAny_pyIter_enum he ?_
    have I2 : Inv X pins σ H1 { s1 with heap := h' } := I1.kept (t' := s1.toks) hk
    exact ⟨s1.heap.objs.size + 1, [s1.heap.objs.size + 1, s1.heap.objs.size], _, _, H1, rfl, I2, turn_enumT a (s1.heap.objs.size + 1) s1.heap.objs.size, ⟨⟨.none, he⟩, hit, Nat.succ_ne_self _, Nat.ne_of_gt (Nat.lt_succ_of_lt hal), Nat.ne_of_lt hal⟩, fr, q⟩
theorem pairUp_get : ∀ {ds : List D} {k i : Nat} {d : D}, (pairUp k ds)[i]? = some d → ∃ x, ds[i]? = some x ∧ d = .tup [.int ((k + i : Nat) : Int), x]
  | [], _, _, _, h => by simp [pairUp] at h
  | y :: ds, k, 0, d, h => ⟨y, rfl, by simpa [pairUp] using h.symm⟩
  | y :: ds, k, i + 1, d, h => by
    obtain ⟨x, e1, e2⟩ := pairUp_get (ds := ds) (k := k + 1) (i := i) (d := d) (by simpa [pairUp] using h)
    exact ⟨x, by simpa using e1, by rw [e2]; congr 3; omega⟩
theorem pairUp_len : ∀ (k : Nat) (ds : List D), (pairUp k ds).length = ds.length
  | _, [] => rfl
  | k, _ :: ds => congrArg (· + 1) (pairUp_len (k + 1) ds)
theorem zipUp_get : ∀ {xs ys : List D} {i : Nat} {d : D}, (zipUp xs ys)[i]? = some d → ∃ x y, xs[i]? = some x ∧ ys[i]? = some y ∧ d = .tup [x, y]
  | [], _, _, _, h => by simp [zipUp] at h
  | x :: xs, [], _, _, h => by simp [zipUp] at h
  | x :: xs, y :: ys, 0, d, h => ⟨x, y, rfl, rfl, by simpa [zipUp] using h.symm⟩
  | x :: xs, y :: ys, i + 1, d, h => by
    obtain ⟨a, b, e1, e2, e3⟩ := zipUp_get (xs := xs) (ys := ys) (i := i) (d := d) (by simpa [zipUp] using h)
    exact ⟨a, b, by simpa using e1, by simpa using e2, e3⟩
theorem zipUp_len : ∀ (xs ys : List D), xs.length ≤ (zipUp xs ys).length ∨ ys.length ≤ (zipUp xs ys).length
  | [], _ => .inl (Nat.zero_le _)
  | _ :: _, [] => .inr (Nat.zero_le _)
  | x :: xs, y :: ys => by
    rcases zipUp_len xs ys with h | h
    · exact .inl (Nat.succ_le_succ h)
    · exact .inr (Nat.succ_le_succ h)
/-- the items at a, as long as g stands -/
def AtL (cl : Nat → Addr) (K : PySem.W.Frag) (H0 : Hp) (S : PySem.W.Frag → Hp → Addr → List V → Prop) (a : Addr) (g : Mem → Prop) (ds : List D) : Prop := ∀ H m, Kp H0 H → Rep cl K H m → g m → ∃ vs, S K H a vs ∧ IsL K H ds vs
theorem isIt_enum {K : PySem.W.Frag} {H0 : Hp} {a : Addr} {g : Mem → Prop} {ds : List D} (h : AtL cl K H0 SqL a g ds) : IsIt cl K H0 (L2.Ite K a) g (pairUp 0 ds) where
  go := fun i d H m e k r q => by
    obtain ⟨x, e1, _⟩ := pairUp_get e
    obtain ⟨vs, s, l⟩ := h H m k r q
    obtain ⟨v, e2, _⟩ := l.get e1
    exact ⟨vs, v, s, e2⟩
  yld := fun i d H m x H' e k r q y => by
    obtain ⟨T, w, rfl, hT, rfl, y⟩ := y
    obtain ⟨x, e1, rfl⟩ := pairUp_get e
    obtain ⟨vs, s, l⟩ := h H m k r q
    obtain ⟨v, e2, e3⟩ := l.get e1
    have := y vs s
    rw [e2] at this
    cases this
    exact ⟨⟨T, _, rfl, L2.upd_same, ⟨_, _, rfl, by show V.int _ = V.int _; congr 1; omega, _, _, rfl, e3.kp (kp_new hT), rfl⟩⟩, r.hid hT, Ext.hid hT⟩
  stop := fun H m k r q => by
    obtain ⟨vs, s, l⟩ := h H m k r q
    exact ⟨vs, s, by rw [l.length, pairUp_len]; exact Nat.le_refl _⟩
theorem isIt_enumT {K : PySem.W.Frag} {H0 : Hp} {a : Addr} {g : Mem → Prop} {ds : List D} (h : AtL cl K H0 SqT a g ds) : IsIt cl K H0 (IteT K a) g (pairUp 0 ds) where
  go := fun i d H m e k r q => by
    obtain ⟨x, e1, _⟩ := pairUp_get e
    obtain ⟨vs, s, l⟩ := h H m k r q
    obtain ⟨v, e2, _⟩ := l.get e1
    exact ⟨vs, v, s, e2⟩
  yld := fun i d H m x H' e k r q y => by
    obtain ⟨T, w, rfl, hT, rfl, y⟩ := y
    obtain ⟨x, e1, rfl⟩ := pairUp_get e
    obtain ⟨vs, s, l⟩ := h H m k r q
    obtain ⟨v, e2, e3⟩ := l.get e1
    have := y vs s
    rw [e2] at this
    cases this
    exact ⟨⟨T, _, rfl, L2.upd_same, ⟨_, _, rfl, by show V.int _ = V.int _; congr 1; omega, _, _, rfl, e3.kp (kp_new hT), rfl⟩⟩, r.hid hT, Ext.hid hT⟩
  stop := fun H m k r q => by
    obtain ⟨vs, s, l⟩ := h H m k r q
    exact ⟨vs, s, by rw [l.length, pairUp_len]; exact Nat.le_refl _⟩
theorem isIt_zip {K : PySem.W.Frag} {H0 : Hp} {a b : Addr} {g g' : Mem → Prop} {ds es : List D} (h : AtL cl K H0 SqL a g ds) (h' : AtL cl K H0 SqL b g' es) : IsIt cl K H0 (L2.Itz K a b) (fun m => g m ∧ g' m) (zipUp ds es) where
  go := fun i d H m e k r q => by
    obtain ⟨x, y, e1, e2, _⟩ := zipUp_get e
    obtain ⟨vs, s, l⟩ := h H m k r q.1
    obtain ⟨ws, t, n⟩ := h' H m k r q.2
    obtain ⟨v, e3, _⟩ := l.get e1
    obtain ⟨w, e4, _⟩ := n.get e2
    exact ⟨vs, ws, v, w, s, t, e3, e4⟩
  yld := fun i d H m x H' e k r q y => by
    obtain ⟨T, u, w, rfl, hT, rfl, y1, y2⟩ := y
    obtain ⟨x, y, e1, e2, rfl⟩ := zipUp_get e
    obtain ⟨vs, s, l⟩ := h H m k r q.1
    obtain ⟨ws, t, n⟩ := h' H m k r q.2
    obtain ⟨v, e3, e5⟩ := l.get e1
    obtain ⟨v', e4, e6⟩ := n.get e2
    have z1 := y1 vs s
    have z2 := y2 ws t
    rw [e3] at z1
    rw [e4] at z2
    cases z1
    cases z2
    exact ⟨⟨T, _, rfl, L2.upd_same, ⟨_, _, rfl, e5.kp (kp_new hT), _, _, rfl, e6.kp (kp_new hT), rfl⟩⟩, r.hid hT, Ext.hid hT⟩
  stop := fun H m k r q => by
    obtain ⟨vs, s, l⟩ := h H m k r q.1
    obtain ⟨ws, t, n⟩ := h' H m k r q.2
    exact ⟨vs, ws, s, t, by rw [l.length, n.length]; exact zipUp_len ds es⟩
theorem isIt_zipT {K : PySem.W.Frag} {H0 : Hp} {a b : Addr} {g g' : Mem → Prop} {ds es : List D} (h : AtL cl K H0 SqT a g ds) (h' : AtL cl K H0 SqT b g' es) : IsIt cl K H0 (RZ.ItzT K a b) (fun m => g m ∧ g' m) (zipUp ds es) where
  go := fun i d H m e k r q => by
    obtain ⟨x, y, e1, e2, _⟩ := zipUp_get e
    obtain ⟨vs, s, l⟩ := h H m k r q.1
    obtain ⟨ws, t, n⟩ := h' H m k r q.2
    obtain ⟨v, e3, _⟩ := l.get e1
    obtain ⟨w, e4, _⟩ := n.get e2
    exact ⟨vs, ws, v, w, s, t, e3, e4⟩
  yld := fun i d H m x H' e k r q y => by
    obtain ⟨T, u, w, rfl, hT, rfl, y1, y2⟩ := y
    obtain ⟨x, y, e1, e2, rfl⟩ := zipUp_get e
    obtain ⟨vs, s, l⟩ := h H m k r q.1
    obtain ⟨ws, t, n⟩ := h' H m k r q.2
    obtain ⟨v, e3, e5⟩ := l.get e1
    obtain ⟨v', e4, e6⟩ := n.get e2
    have z1 := y1 vs s
    have z2 := y2 ws t
    rw [e3] at z1
    rw [e4] at z2
    cases z1
    cases z2
    exact ⟨⟨T, _, rfl, L2.upd_same, ⟨_, _, rfl, e5.kp (kp_new hT), _, _, rfl, e6.kp (kp_new hT), rfl⟩⟩, r.hid hT, Ext.hid hT⟩
  stop := fun H m k r q => by
    obtain ⟨vs, s, l⟩ := h H m k r q.1
    obtain ⟨ws, t, n⟩ := h' H m k r q.2
    exact ⟨vs, ws, s, t, by rw [l.length, n.length]; exact zipUp_len ds es⟩
theorem rev_get {ds : List D} {i : Nat} {d : D} (h : ds.reverse[i]? = some d) : i < ds.length ∧ ds[ds.length - 1 - i]? = some d := by
  have hi : i < ds.length := by
    have := (List.getElem?_eq_some_iff.mp h).1
    simpa using this
  rw [List.getElem?_reverse hi] at h
  exact ⟨hi, h⟩
theorem isIt_rev {K : PySem.W.Frag} {H0 : Hp} {a : Addr} {g : Mem → Prop} {ds : List D} {n : Nat} (hn : n = ds.length) (h : AtL cl K H0 SqL a g ds) : IsIt cl K H0 (L2.Itv K a n) g ds.reverse where
  go := fun i d H m e k r q => by
    subst hn
    obtain ⟨e0, e1⟩ := rev_get e
    obtain ⟨vs, s, l⟩ := h H m k r q
    obtain ⟨v, e2, _⟩ := l.get e1
    exact ⟨e0, vs, v, s, e2⟩
  yld := fun i d H m x H' e k r q y => by
    subst hn
    obtain ⟨rfl, y⟩ := y
    obtain ⟨e0, e1⟩ := rev_get e
    obtain ⟨vs, s, l⟩ := h H' m k r q
    obtain ⟨v, e2, e3⟩ := l.get e1
    have := y vs s
    rw [e2] at this
    cases this
    exact ⟨e3, r, Ext.refl _ _⟩
  stop := fun H m k r q => by
    show n ≤ ds.reverse.length
    simp [hn]
theorem isIt_revT {K : PySem.W.Frag} {H0 : Hp} {a : Addr} {g : Mem → Prop} {ds : List D} {n : Nat} (hn : n = ds.length) (h : AtL cl K H0 SqT a g ds) : IsIt cl K H0 (RT.ItvT K a n) g ds.reverse where
  go := fun i d H m e k r q => by
    subst hn
    obtain ⟨e0, e1⟩ := rev_get e
    obtain ⟨vs, s, l⟩ := h H m k r q
    obtain ⟨v, e2, _⟩ := l.get e1
    exact ⟨e0, vs, v, s, e2⟩
  yld := fun i d H m x H' e k r q y => by
    subst hn
    obtain ⟨rfl, y⟩ := y
    obtain ⟨e0, e1⟩ := rev_get e
    obtain ⟨vs, s, l⟩ := h H' m k r q
    obtain ⟨v, e2, e3⟩ := l.get e1
    have := y vs s
    rw [e2] at this
    cases this
    exact ⟨e3, r, Ext.refl _ _⟩
  stop := fun H m k r q => by
    show n ≤ ds.reverse.length
    simp [hn]
theorem isIt_rngC {K : PySem.W.Frag} {H0 : Hp} {lo c : Int} {n : Nat} : IsIt cl K H0 (L2.Itc lo c n) gTrue (rangeD lo c n) where
  go := fun i d H m e k r q => (rangeD_get e).1
  yld := fun i d H m x H' e k r q y => by
    obtain ⟨rfl, y⟩ := y
    subst y
    rw [(rangeD_get e).2]
    exact ⟨rfl, r, Ext.refl _ _⟩
  stop := fun H m k r q => by
    rw [rangeD_len]
    exact Nat.le_refl _
theorem iterL_at {K : PySem.W.Frag} {H : Hp} {m : Mem} {x : D} {v : V} {k : (Mem → Prop) → List D → Prop} (h : iterL x m k) (hx : IsV K H x v) (hr : Rep cl K H m) : ∃ a g ds vs, v = .ref a ∧ k g ds ∧ AtL cl K H SqL a g ds ∧ SqL K H a vs ∧ vs.length = ds.length := by
  unfold iterL at h
  cases x with
  | rol es =>
    obtain ⟨a, vs, ea, t, l⟩ := hx
    exact ⟨a, _, _, vs, ea, h, fun H' m' kp _ _ => ⟨vs, (t.kp kp).sq, l.kp kp⟩, t.sq, l.length⟩
  | ref a =>
    cases hx
    cases em : m a with
    | none => simp only [em] at h
    | some o =>
      simp only [em] at h
      cases o with
      | lst ds =>
        obtain ⟨vs, y, l⟩ := hr a _ em
        refine ⟨a, _, _, vs, rfl, h, fun H' m' kp r' g' => ?_, SqL.of y, l.length⟩
        obtain ⟨ws, y', l'⟩ := r' a _ g'
        exact ⟨ws, SqL.of y', l'⟩
      | _ => exact h.elim
  | _ => exact h.elim
theorem tup_at {K : PySem.W.Frag} {H : Hp} {x : D} {v : V} {ds : List D} (e : tupS x = some ds) (hx : IsV K H x v) : ∃ a vs, v = .ref a ∧ AtL cl K H SqT a gTrue ds ∧ SqT K H a vs ∧ vs.length = ds.length := by
  cases x with
  | tup es =>
    cases e
    obtain ⟨a, vs, ea, t, l⟩ := hx
    exact ⟨a, vs, ea, fun H' m' kp _ _ => ⟨vs, sqt_of (kp.tup a vs t), l.kp kp⟩, sqt_of t, l.length⟩
  | ktup es =>
    cases e
    obtain ⟨a, vs, ea, t, l⟩ := hx
    exact ⟨a, vs, ea, fun H' m' kp _ _ => ⟨vs, sqt_none t, l.kp kp⟩, sqt_none t, l.length⟩
  | _ => cases e
theorem pi_enumD (G : Good cl c Γ k W sc X) {elts : List Expr} {kk : Nat} {tpos : Pos} {a : Expr} {ta : Rd D} {p pos : Pos} (hg : isGl sc "enumerate" = true) (ho : ("enumerate" : Str) ∈ c.free) (hp : plainE a = true) (ha : PEl cl W X a ta) :
    PIl cl W X (.Tuple elts kk tpos) (.Call (.Name "enumerate" p) [a] [] pos) fun E σ m k => ta E σ m fun x m1 => (iterL x m1 fun g ds => k g (pairUp 0 ds) m1) ∨ ∃ ds, tupS x = some ds ∧ k gTrue (pairUp 0 ds) m1 := by
  obtain ⟨g1, g2, g3⟩ := isGl_ok G hg
  refine pi_imp (pi_enumA g1 (G.free _ ho) ha (plain_star hp [] X.env)) fun σv H R q => ?_
  obtain ⟨σ, m, k, E, hs, hr, ht, p, px⟩ := q
  refine ⟨σ, m, _, E, hs, hr, ht, ⟨fun x m1 v H1 z s r e => ?_, px⟩⟩
  rcases z with z | ⟨ds, e1, z⟩
  · obtain ⟨a, g, ds, vs, ea, z, at_, sq, _⟩ := iterL_at z s r
    exact ⟨a, vs, ea, .inl ⟨sq, p _ _ _ _ _ z (isIt_enum at_) r e⟩⟩
  · obtain ⟨a, vs, ea, at_, sq, _⟩ := tup_at (cl := cl) e1 s
    exact ⟨a, vs, ea, .inr ⟨sq, p _ _ _ _ _ z (isIt_enumT at_) r e⟩⟩
theorem pi_revD (G : Good cl c Γ k W sc X) {tg a : Expr} {ta : Rd D} {p pos : Pos} (hg : isGl sc "reversed" = true) (ho : ("reversed" : Str) ∈ c.free) (hp : plainE a = true) (ha : PEl cl W X a ta) :
    PIl cl W X tg (.Call (.Name "reversed" p) [a] [] pos) fun E σ m k => ta E σ m fun x m1 => (iterL x m1 fun g ds => k g ds.reverse m1) ∨ ∃ ds, tupS x = some ds ∧ k gTrue ds.reverse m1 := by
  obtain ⟨g1, g2, g3⟩ := isGl_ok G hg
  refine pi_imp (RT.pi_revA g1 (G.free _ ho) ha (plain_star hp [] X.env)) fun σv H R q => ?_
  obtain ⟨σ, m, k, E, hs, hr, ht, p, px⟩ := q
  refine ⟨σ, m, _, E, hs, hr, ht, ⟨fun x m1 v H1 z s r e => ?_, px⟩⟩
  rcases z with z | ⟨ds, e1, z⟩
  · obtain ⟨a, g, ds, vs, ea, z, at_, sq, hl⟩ := iterL_at z s r
    exact ⟨a, vs, ea, .inl ⟨sq, p _ _ _ _ _ z (isIt_rev hl at_) r e⟩⟩
  · obtain ⟨a, vs, ea, at_, sq, hl⟩ := tup_at (cl := cl) e1 s
    exact ⟨a, vs, ea, .inr ⟨sq, p _ _ _ _ _ z (isIt_revT hl at_) r e⟩⟩
/-- a side of a zip: a list or a tuple -/
structure Side (Sq : PySem.W.Frag → Hp → Addr → List V → Prop) (Itr : Heap → Addr → Addr → Nat → Prop) (Se : Heap → Addr → Array Value → Prop) : Prop where
  get : ∀ {X : Cx} {pins : List (Addr × Obj)} {σ : L2.St} {H : Hp} {s : Shared} {a : Addr} {xs : List V}, Inv X pins σ H s → Sq X.K H a xs → ∃ its : List Value, Vals xs its ∧ Se s.heap a its.toArray
  inj : ∀ {X : Cx} {pins : List (Addr × Obj)} {σ : L2.St} {H : Hp} {s : Shared} {a : Addr} {xs ys : List V}, Inv X pins σ H s → Sq X.K H a xs → Sq X.K H a ys → xs = ys
  drw : ∀ {prog : Program} {w : World} {A : Around}, A.handled = none → ∀ (it a : Addr), a ≠ it → ∀ items : Array Value, Draws prog w A it [it, a] items.size (fun i v => items[i]? = some v) (fun i h => Itr h it a i ∧ Se h a items)
  fin : ∀ {prog : Program} {w : World} {A : Around}, A.handled = none → ∀ (it a : Addr), a ≠ it → ∀ (items : Array Value) (n : Nat), items.size ≤ n → Draws prog w A it [it, a] n (fun _ _ => True) (fun j h => Itr h it a j ∧ Se h a items ∧ j = n)
  obj : ∀ {h : Heap} {it a : Addr} {i : Nat}, Itr h it a i → ∃ o, h.get? it = some o ∧ ∀ v, o.data ≠ .cell v
  at_ : ∀ {h h' : Heap} {it a : Addr} {i : Nat}, Itr h it a i → (∀ o, h.get? it = some o → h'.get? it = some o) → Itr h' it a i
theorem sideL : Side SqL (fun h it a i => h.IsListIter it a i) (fun h a it => h.IsList a it) where
  get := fun I h => let ⟨its, r, p, _⟩ := I.list h; ⟨its, r, p.isList⟩
  inj := fun I h h' => I.list_inj h h'
  drw := fun hh it a ne items => Draws.list hh it a ne items
  fin := fun hh it a ne items n hn =>
    { live := fun _ _ st => let ⟨o, ho, _⟩ := st.1; ⟨o, ho⟩
      frame := fun _ _ _ st hk => ⟨st.1.at fun o e => hk it (by simp) o e, st.2.1.at fun o e => hk a (by simp) o e, st.2.2⟩
      item := fun j s Q E hj st hQ => absurd st.2.2 (Nat.ne_of_lt hj)
      done := fun s Q E st hE => wpAny_nextOf_list_end hh st.1 st.2.1 (by simp; omega) hE }
  obj := fun h => let ⟨o, e, _, d⟩ := h; ⟨o, e, fun v q => by rw [d] at q; cases q⟩
  at_ := fun h k => h.at fun o q => k o q
theorem sideT : Side SqT (fun h it a i => h.IsTupleIter it a i) (fun h a it => h.IsTuple a it) where
  get := fun I h => let ⟨its, r, p, _⟩ := I.tuple h; ⟨its, r, p⟩
  inj := fun I h h' => I.tuple_inj h h'
  drw := fun hh it a ne items => Draws.tuple hh it a ne items
  fin := fun hh it a ne items n hn =>
    { live := fun _ _ st => let ⟨o, ho, _⟩ := st.1; ⟨o, ho⟩
      frame := fun _ _ _ st hk => ⟨st.1.at fun o e => hk it (by simp) o e, st.2.1.at fun o e => hk a (by simp) o e, st.2.2⟩
      item := fun j s Q E hj st hQ => absurd st.2.2 (Nat.ne_of_lt hj)
      done := fun s Q E st hE => wpAny_nextOf_tuple_end hh st.1 st.2.1 (by simp; omega) hE }
  obj := fun h => let ⟨o, e, _, d⟩ := h; ⟨o, e, fun v q => by rw [d] at q; cases q⟩
  at_ := fun h k => h.at fun o q => k o q
def ItzM (S1 S2 : PySem.W.Frag → Hp → Addr → List V → Prop) (K : PySem.W.Frag) (a b : Addr) : It :=
  ⟨fun i H => ∃ (xs ys : List V) (x y : V), S1 K H a xs ∧ S2 K H b ys ∧ xs[i]? = some x ∧ ys[i]? = some y,
    fun i H v H' => ∃ T x y, v = .ref T ∧ H T = none ∧ H' = L2.upd H T (.tup [x, y]) ∧ (∀ xs, S1 K H a xs → xs[i]? = some x) ∧ ∀ ys, S2 K H b ys → ys[i]? = some y,
    fun i H => ∃ xs ys : List V, S1 K H a xs ∧ S2 K H b ys ∧ (xs.length ≤ i ∨ ys.length ≤ i)⟩
/-- a side at its end, or not yet -/
theorem Side.ends {Sq : PySem.W.Frag → Hp → Addr → List V → Prop} {Itr : Heap → Addr → Addr → Nat → Prop} {Se : Heap → Addr → Array Value → Prop} (D : Side Sq Itr Se) {prog : Program} {w : World} {A : Around} (hh : A.handled = none) {it a : Addr} (ne : a ≠ it) (items : Array Value) (i : Nat) {h : Heap} (h1 : Itr h it a i) (h2 : Se h a items) :
    ∃ (n : Nat) (P : Nat → Value → Prop) (St : Nat → Heap → Prop), Draws prog w A it [it, a] n P St ∧ St i h ∧ i ≤ n ∧ (items.size ≤ i → i = n) := by
  by_cases q : items.size ≤ i
  · exact ⟨i, _, _, D.fin hh it a ne items i q, ⟨h1, h2, rfl⟩, Nat.le_refl _, fun _ => rfl⟩
  · exact ⟨items.size, _, _, D.drw hh it a ne items, ⟨h1, h2⟩, by omega, fun z => absurd z q⟩
section
variable {S1 S2 : PySem.W.Frag → Hp → Addr → List V → Prop} {I1 I2 : Heap → Addr → Addr → Nat → Prop} {E1 E2 : Heap → Addr → Array Value → Prop}
theorem turn_zipM (D1 : Side S1 I1 E1) (D2 : Side S2 I2 E2) {P : Program} {w : World} {K : PySem.W.Frag} {elts : List Expr} {kk : Nat} {tpos : Pos} {a b z TI TO i1 i2 : Addr} (D : ZipApart z TI TO i1 i2 a b) :
    Turn P w K (.Tuple elts kk tpos) (ItzM S1 S2 K a b) [z, TI, TO, i1, i2] z (fun i h => IsZip h z TI TO .none ∧ IsTupOf2 h TI (.ref i1) (.ref i2) ∧ (∃ x y, IsTupOf2 h TO x y) ∧ I1 h i1 a i ∧ I2 h i2 b i) := by
  have Sp : ZipSep2 z TI TO i1 i2 [i1, a] [i2, b] := { TIz := D.TIz, TOz := D.TOz, TITO := D.TITO, TIi1 := D.TIi1, mem1 := by simp, zf1 := by simp [Ne.symm D.i1z, Ne.symm D.l1z], Tf1 := by simp [D.TOi1, Ne.symm D.l1TO], TIi2 := D.TIi2, mem2 := by simp, zf2 := by simp [Ne.symm D.i2z, Ne.symm D.l2z], Tf2 := by simp [D.TOi2, Ne.symm D.l2TO], sep1_2 := by simp [D.i12, Ne.symm D.l2i1], sep2_1 := by simp [Ne.symm D.i12, Ne.symm D.l1i2] }
  exact {
    mem := by simp
    obj := fun i h st c hc => by
      obtain ⟨hz, hTI, ⟨x, y, hTO⟩, t1, t2⟩ := st
      have e' : c = z ∨ c = TI ∨ c = TO ∨ c = i1 ∨ c = i2 := by simpa using hc
      rcases e' with q | q | q | q | q
      · rw [q]; exact ⟨_, hz, fun v q => nomatch q⟩
      · rw [q]; exact ⟨_, hTI, fun v q => nomatch q⟩
      · rw [q]; exact ⟨_, hTO, fun v q => nomatch q⟩
      · rw [q]; exact D1.obj t1
      · rw [q]; exact D2.obj t2
    keep := fun i h h' st k => by
      obtain ⟨hz, hTI, ⟨x, y, hTO⟩, h1, h2⟩ := st
      exact ⟨k z (by simp) _ hz, k TI (by simp) _ hTI, ⟨x, y, k TO (by simp) _ hTO⟩, D1.at_ h1 fun o q => k i1 (by simp) o q, D2.at_ h2 fun o q => k i2 (by simp) o q⟩
    item := by
      intro X hP hw hK hc i pins s σ H E I hf st hg
      subst hP hw hK
      obtain ⟨hz, hTI, ⟨x0, y0, hTO⟩, h1, h2⟩ := st
      obtain ⟨xs, ys, x, y, hqx, hqy, hx, hy⟩ := hg
      obtain ⟨its, rv, p⟩ := D1.get I hqx
      obtain ⟨its2, rv2, p2⟩ := D2.get I hqy
      obtain ⟨u, hu, ru⟩ := rv.get hx
      obtain ⟨u2, hu2, ru2⟩ := rv2.get hy
      have hzl : z < s.heap.objs.size := Heap.lt_size hz
      have hh : X.A.in1.handled = none := show X.A.in1.handled = none from I.ok.hd hc
      have lt1 : i < its.toArray.size := by
        have := (List.getElem?_eq_some_iff.mp hu).1
        simpa using this
      have lt2 : i < its2.toArray.size := by
        have := (List.getElem?_eq_some_iff.mp hu2).1
        simpa using this
      refine wpAny_pyNext_zipD2_item Sp (D1.drw hh i1 a D.l1i1 its.toArray) (D2.drw hh i2 b D.l2i2 its2.toArray) hz hTI hTO ⟨h1, p⟩ ⟨h2, p2⟩ lt1 lt2 fun v1 v2 h' tk e1 e2 z' TO' h1' h2' hT hsz hk => ?_
      have ev1 : v1 = u := by
        have q : its.toArray[i]? = some u := by simpa using hu
        rw [q] at e1
        exact (Option.some.inj e1).symm
      have ev2 : v2 = u2 := by
        have q : its2.toArray[i]? = some u2 := by simpa using hu2
        rw [q] at e2
        exact (Option.some.inj e2).symm
      subst ev1 ev2
      refine ⟨_, rfl, wpAny_letOwnedTupleGo_zip (s := { s with heap := h', toks := tk }) z' fun h'' z'' sb => ?_⟩
      have hT2 : h''.get? s.heap.objs.size = some { cls := .type "tuple", data := .seq #[v1, v2] } := (sb.2 _ (Nat.ne_of_gt hzl)).trans hT
      have new : L2.ObjOk X.prog X.w (L2.upd H s.heap.objs.size (.tup [x, y])) h'' s.heap.objs.size (.tup [x, y]) :=
        ⟨by show 2 ≤ sizeLine; decide, [v1, v2], .cons ru (.cons ru2 .nil), ⟨_, hT2, rfl, _, rfl⟩⟩
      have J : Inv X pins σ (L2.upd H s.heap.objs.size (.tup [x, y])) { s with heap := h'', toks := tk } :=
        I.turnedNew (t' := tk) (ch := [z, TI, TO, i1, i2]) (fun c o hb q => (sb.2 c (fun q' => hb (by simp [q']))).trans (hk c o (fun q' => hb (by simp [q'])) (fun q' => hb (by simp [q'])) (fun q' => hb (by simp [q'])) (fun q' => hb (by simp [q'])) q)) hf (Nat.le_refl _) new
      refine ⟨.ref s.heap.objs.size, _, J, rfl, ⟨_, x, y, rfl, I.hok.fresh (Nat.le_refl _), rfl, fun l hl => by rw [D1.inj I hl hqx]; exact hx, fun l hl => by rw [D2.inj I hl hqy]; exact hy⟩, ⟨z'', ?_, ⟨v1, v2, ?_⟩, ?_, ?_⟩, fun c hcm => ?_⟩
      · exact (sb.2 _ D.TIz).trans (hk _ _ D.TIz D.TITO D.TIi1 D.TIi2 hTI)
      · exact (sb.2 _ D.TOz).trans TO'
      · exact D1.at_ h1'.1 fun o q => (sb.2 _ D.i1z).trans q
      · exact D2.at_ h2'.1 fun o q => (sb.2 _ D.i2z).trans q
      · have hlt : c < s.heap.objs.size := by
          have e' : c = z ∨ c = TI ∨ c = TO ∨ c = i1 ∨ c = i2 := by simpa using hcm
          rcases e' with q | q | q | q | q
          · rw [q]; exact hzl
          · rw [q]; exact Heap.lt_size hTI
          · rw [q]; exact Heap.lt_size hTO
          · rw [q]; obtain ⟨_, e1, _⟩ := D1.obj h1; exact Heap.lt_size e1
          · rw [q]; obtain ⟨_, e2, _⟩ := D2.obj h2; exact Heap.lt_size e2
        rw [L2.upd_ne (Nat.ne_of_lt hlt)]
        exact (hf c hcm).1
    done := by
      intro X hP hw hK hc i pins s σ H E I hf st hg
      subst hP hw hK
      obtain ⟨hz, hTI, ⟨x0, y0, hTO⟩, h1, h2⟩ := st
      obtain ⟨xs, ys, hqx, hqy, hend⟩ := hg
      obtain ⟨its, rv, p⟩ := D1.get I hqx
      obtain ⟨its2, rv2, p2⟩ := D2.get I hqy
      have l1 := rv.length
      have l2 := rv2.length
      have hh : X.A.in1.handled = none := show X.A.in1.handled = none from I.ok.hd hc
      obtain ⟨n1, P1, St1, w1, t1, le1, q1⟩ := D1.ends (prog := X.prog) (w := X.w) (A := X.A.in1) hh D.l1i1 its.toArray i h1 p
      obtain ⟨n2, P2, St2, w2, t2, le2, q2⟩ := D2.ends (prog := X.prog) (w := X.w) (A := X.A.in1) hh D.l2i2 its2.toArray i h2 p2
      have he : i = n1 ∨ i = n2 := by
        rcases hend with q | q
        · exact .inl (q1 (by simp; omega))
        · exact .inr (q2 (by simp; omega))
      exact wpAny_pyNext_zipD2_end Sp w1 w2 hz hTI hTO t1 t2 le1 le2 he fun h' tk hk => ⟨rfl, I.turnedL (t' := tk) (ch := [z, TI, TO, i1, i2]) (fun c o hb q =>
        hk c o (fun q' => hb (by simp [q'])) (fun q' => hb (by simp [q'])) (fun q' => hb (by simp [q'])) (fun q' => hb (by simp [q'])) q) hf⟩
    self := fun A i s Q E st h => wpAny_pyIter_zip st.1 h }
theorem isIt_zipM {cl : Nat → Addr} {K : PySem.W.Frag} {H0 : Hp} {a b : Addr} {g g' : Mem → Prop} {ds es : List D} (h : AtL cl K H0 S1 a g ds) (h' : AtL cl K H0 S2 b g' es) : IsIt cl K H0 (ItzM S1 S2 K a b) (fun m => g m ∧ g' m) (zipUp ds es) where
  go := fun i d H m e k r q => by
    obtain ⟨x, y, e1, e2, _⟩ := zipUp_get e
    obtain ⟨vs, s, l⟩ := h H m k r q.1
    obtain ⟨ws, t, n⟩ := h' H m k r q.2
    obtain ⟨v, e3, _⟩ := l.get e1
    obtain ⟨w, e4, _⟩ := n.get e2
    exact ⟨vs, ws, v, w, s, t, e3, e4⟩
  yld := fun i d H m x H' e k r q y => by
    obtain ⟨T, u, w, rfl, hT, rfl, y1, y2⟩ := y
    obtain ⟨x, y, e1, e2, rfl⟩ := zipUp_get e
    obtain ⟨vs, s, l⟩ := h H m k r q.1
    obtain ⟨ws, t, n⟩ := h' H m k r q.2
    obtain ⟨v, e3, e5⟩ := l.get e1
    obtain ⟨v', e4, e6⟩ := n.get e2
    have z1 := y1 vs s
    have z2 := y2 ws t
    rw [e3] at z1
    rw [e4] at z2
    cases z1
    cases z2
    exact ⟨⟨T, _, rfl, L2.upd_same, ⟨_, _, rfl, e5.kp (kp_new hT), _, _, rfl, e6.kp (kp_new hT), rfl⟩⟩, r.hid hT, Ext.hid hT⟩
  stop := fun H m k r q => by
    obtain ⟨vs, s, l⟩ := h H m k r q.1
    obtain ⟨ws, t, n⟩ := h' H m k r q.2
    exact ⟨vs, ws, s, t, by rw [l.length, n.length]; exact zipUp_len ds es⟩
end
def iZipM (K : PySem.W.Frag) (ta : TA) : TI := fun σ H R => ta σ H fun vs H1 => ∃ a b xs ys, vs = [.ref a, .ref b] ∧ ((SqL K H1 a xs ∧ SqL K H1 b ys ∧ R (ItzM SqL SqL K a b) H1) ∨ (SqT K H1 a xs ∧ SqT K H1 b ys ∧ R (ItzM SqT SqT K a b) H1) ∨ (SqT K H1 a xs ∧ SqL K H1 b ys ∧ R (ItzM SqT SqL K a b) H1) ∨ (SqL K H1 a xs ∧ SqT K H1 b ys ∧ R (ItzM SqL SqT K a b) H1))
theorem pi_zipM {X : Cx} {e e2 : Expr} {ta : TA} {p pos tpos : Pos} {elts : List Expr} {kk : Nat} (hg : L2.Gl X "zip") (hm : X.mg "zip" = none) (ha : PA X [e, e2] ta)
    (hs : starEach [e, e2] X.env = (false, eval e X.env) :: starEach [e2] X.env := by rfl) (hpl : (backTo pos (starEach [e2] X.env)).any (·.1) = false := by rfl) :
    PI X (.Tuple elts kk tpos) (.Call (.Name "zip" p) [e, e2] [] pos) (iZipM X.K ta) := by
  refine ⟨fun pins s σ H R I h => ?_⟩
  refine Call_ (L2.ld_blt I hg hm PyProof.Rows.boot_zip (PyProof.Rows.callWith_type1 (L2.thn (ha.run pos pins s σ H _ I h) fun us s1 ⟨vs, H1, J1, r1, q1⟩ => ?_) hs hpl))
  obtain ⟨a, b, xs, ys, ex, q1⟩ := q1
  subst ex
  cases r1 with
  | cons r rr =>
    cases rr with
    | cons r' rr =>
      cases rr
      cases r
      cases r'
      have fresh5 : ∀ c, c ∈ [s1.heap.objs.size + 4, s1.heap.objs.size + 2, s1.heap.objs.size + 3, s1.heap.objs.size, s1.heap.objs.size + 1] → L2.FpOk X pins H1 c := fun c hcm => by
        have e' : c = s1.heap.objs.size + 4 ∨ c = s1.heap.objs.size + 2 ∨ c = s1.heap.objs.size + 3 ∨ c = s1.heap.objs.size ∨ c = s1.heap.objs.size + 1 := by simpa using hcm
        have hle : s1.heap.objs.size ≤ c := by
          rcases e' with z | z | z | z | z
          · rw [z]; exact Nat.le_add_right _ _
          · rw [z]; exact Nat.le_add_right _ _
          · rw [z]; exact Nat.le_add_right _ _
          · rw [z]; exact Nat.le_refl _
          · rw [z]; exact Nat.le_add_right _ _
        exact J1.fpOk hle (J1.hok.fresh hle)
      rcases q1 with ⟨hqx, hqy, q⟩ | ⟨hqx, hqy, q⟩ | ⟨hqx, hqy, q⟩ | ⟨hqx, hqy, q⟩
      · obtain ⟨its, rv, p1⟩ := sideL.get J1 hqx
        obtain ⟨its2, rv2, p2⟩ := sideL.get J1 hqy
        have p1 : s1.heap.IsList a its.toArray := p1
        have p2 : s1.heap.IsList b its2.toArray := p2
        obtain ⟨o1, ho1, _⟩ := id p1
        obtain ⟨o2, ho2, _⟩ := id p2
        refine zip_begins2 (begins_list a its.toArray) (begins_list b its2.toArray) p1 p2 fun h' hz hTI hTO g1 g2 hsz hk => wpAny_pyIter_zip hz ?_
        have I2 : Inv X pins σ H1 { s1 with heap := h' } := J1.kept (t' := s1.toks) hk
        exact ⟨s1.heap.objs.size + 4, [s1.heap.objs.size + 4, s1.heap.objs.size + 2, s1.heap.objs.size + 3, s1.heap.objs.size, s1.heap.objs.size + 1], _, _, H1, rfl, I2, turn_zipM sideL sideL (PySem.W.ktu_apart s1.heap.objs.size a b (Heap.lt_size ho1) (Heap.lt_size ho2)), ⟨hz, hTI, ⟨_, _, hTO⟩, ⟨_, g1, rfl, rfl⟩, ⟨_, g2, rfl, rfl⟩⟩, fresh5, q⟩
      · obtain ⟨its, rv, p1⟩ := sideT.get J1 hqx
        obtain ⟨its2, rv2, p2⟩ := sideT.get J1 hqy
        have p1 : s1.heap.IsTuple a its.toArray := p1
        have p2 : s1.heap.IsTuple b its2.toArray := p2
        obtain ⟨o1, ho1, _⟩ := id p1
        obtain ⟨o2, ho2, _⟩ := id p2
        refine zip_begins2 (begins_tuple a its.toArray) (begins_tuple b its2.toArray) p1 p2 fun h' hz hTI hTO g1 g2 hsz hk => wpAny_pyIter_zip hz ?_
        have I2 : Inv X pins σ H1 { s1 with heap := h' } := J1.kept (t' := s1.toks) hk
        exact ⟨s1.heap.objs.size + 4, [s1.heap.objs.size + 4, s1.heap.objs.size + 2, s1.heap.objs.size + 3, s1.heap.objs.size, s1.heap.objs.size + 1], _, _, H1, rfl, I2, turn_zipM sideT sideT (PySem.W.ktu_apart s1.heap.objs.size a b (Heap.lt_size ho1) (Heap.lt_size ho2)), ⟨hz, hTI, ⟨_, _, hTO⟩, ⟨_, g1, rfl, rfl⟩, ⟨_, g2, rfl, rfl⟩⟩, fresh5, q⟩
      · obtain ⟨its, rv, p1⟩ := sideT.get J1 hqx
        obtain ⟨its2, rv2, p2⟩ := sideL.get J1 hqy
        have p1 : s1.heap.IsTuple a its.toArray := p1
        have p2 : s1.heap.IsList b its2.toArray := p2
        obtain ⟨o1, ho1, _⟩ := id p1
        obtain ⟨o2, ho2, _⟩ := id p2
        refine zip_begins2 (begins_tuple a its.toArray) (begins_list b its2.toArray) p1 p2 fun h' hz hTI hTO g1 g2 hsz hk => wpAny_pyIter_zip hz ?_
        have I2 : Inv X pins σ H1 { s1 with heap := h' } := J1.kept (t' := s1.toks) hk
        exact ⟨s1.heap.objs.size + 4, [s1.heap.objs.size + 4, s1.heap.objs.size + 2, s1.heap.objs.size + 3, s1.heap.objs.size, s1.heap.objs.size + 1], _, _, H1, rfl, I2, turn_zipM sideT sideL (PySem.W.ktu_apart s1.heap.objs.size a b (Heap.lt_size ho1) (Heap.lt_size ho2)), ⟨hz, hTI, ⟨_, _, hTO⟩, ⟨_, g1, rfl, rfl⟩, ⟨_, g2, rfl, rfl⟩⟩, fresh5, q⟩
      · obtain ⟨its, rv, p1⟩ := sideL.get J1 hqx
        obtain ⟨its2, rv2, p2⟩ := sideT.get J1 hqy
        have p1 : s1.heap.IsList a its.toArray := p1
        have p2 : s1.heap.IsTuple b its2.toArray := p2
        obtain ⟨o1, ho1, _⟩ := id p1
        obtain ⟨o2, ho2, _⟩ := id p2
        refine zip_begins2 (begins_list a its.toArray) (begins_tuple b its2.toArray) p1 p2 fun h' hz hTI hTO g1 g2 hsz hk => wpAny_pyIter_zip hz ?_
        have I2 : Inv X pins σ H1 { s1 with heap := h' } := J1.kept (t' := s1.toks) hk
        exact ⟨s1.heap.objs.size + 4, [s1.heap.objs.size + 4, s1.heap.objs.size + 2, s1.heap.objs.size + 3, s1.heap.objs.size, s1.heap.objs.size + 1], _, _, H1, rfl, I2, turn_zipM sideL sideT (PySem.W.ktu_apart s1.heap.objs.size a b (Heap.lt_size ho1) (Heap.lt_size ho2)), ⟨hz, hTI, ⟨_, _, hTO⟩, ⟨_, g1, rfl, rfl⟩, ⟨_, g2, rfl, rfl⟩⟩, fresh5, q⟩
theorem pi_zipD (G : Good cl c Γ k W sc X) {elts : List Expr} {kk : Nat} {tpos : Pos} {a b : Expr} {ta tb : Rd D} {p pos : Pos} (hg : isGl sc "zip" = true) (ho : ("zip" : Str) ∈ c.free) (hp : plainE a = true) (hp2 : plainE b = true) (ha : PEl cl W X a ta) (hb : PEl cl W X b tb) :
    PIl cl W X (.Tuple elts kk tpos) (.Call (.Name "zip" p) [a, b] [] pos) fun E σ m k => ta E σ m fun x m1 => tb E σ m1 fun y m2 => (iterL x m2 fun g ds => iterL y m2 fun g' es => k (fun m => g m ∧ g' m) (zipUp ds es) m2) ∨ (∃ ds es, tupS x = some ds ∧ tupS y = some es ∧ k gTrue (zipUp ds es) m2) ∨ (∃ ds, tupS x = some ds ∧ iterL y m2 fun g' es => k (fun m => gTrue m ∧ g' m) (zipUp ds es) m2) ∨ (∃ es, tupS y = some es ∧ iterL x m2 fun g ds => k (fun m => g m ∧ gTrue m) (zipUp ds es) m2) := by
  obtain ⟨g1, g2, g3⟩ := isGl_ok G hg
  have st2 := plain_star hp2 [] X.env
  have st := plain_star hp [b] X.env
  refine pi_imp (pi_zipM g1 (G.free _ ho) (L2.pa_cons ha (L2.pa_cons hb L2.pa_nil st2) st) st (by rw [st2]; rfl)) fun σv H R q => ?_
  obtain ⟨σ, m, k, E, hs, hr, ht, p, px⟩ := q
  refine ⟨σ, m, _, E, hs, hr, ht, ⟨fun x m1 v H1 z s r e => ?_, px⟩⟩
  refine ⟨σ, m1, _, E, hs.kp (hr.kp e), r, z, ⟨fun y m2 w H2 z2 s2 r2 e2 => ?_, px.step e⟩⟩
  have s' := s.kp (r.kp e2)
  rcases z2 with z2 | ⟨ds, es, d1, d2, z2⟩ | ⟨ds, d1, z2⟩ | ⟨es, d2, z2⟩
  · obtain ⟨a, g, ds, vs, ea, z3, at_, sq, hl⟩ := iterL_at z2 s' r2
    obtain ⟨b, g', es, ws, eb, z4, at2, sq2, hl2⟩ := iterL_at z3 s2 r2
    subst ea eb
    exact ⟨a, b, vs, ws, rfl, .inl ⟨sq, sq2, p _ _ _ _ _ z4 (isIt_zipM at_ at2) r2 (e.trans e2)⟩⟩
  · obtain ⟨a, vs, ea, at_, sq, hl⟩ := tup_at (cl := cl) d1 s'
    obtain ⟨b, ws, eb, at2, sq2, hl2⟩ := tup_at (cl := cl) d2 s2
    subst ea eb
    refine ⟨a, b, vs, ws, rfl, .inr (.inl ⟨sq, sq2, p _ _ _ _ _ z2 ?_ r2 (e.trans e2)⟩)⟩
    have it := isIt_zipM at_ at2
    exact ⟨fun i d H m e k r q => it.go i d H m e k r ⟨q, q⟩, fun i d H m x H' e k r q => it.yld i d H m x H' e k r ⟨q, q⟩, fun H m k r q => it.stop H m k r ⟨q, q⟩⟩
  · obtain ⟨a, vs, ea, at_, sq, hl⟩ := tup_at (cl := cl) d1 s'
    obtain ⟨b, g', es, ws, eb, z4, at2, sq2, hl2⟩ := iterL_at z2 s2 r2
    subst ea eb
    exact ⟨a, b, vs, ws, rfl, .inr (.inr (.inl ⟨sq, sq2, p _ _ _ _ _ z4 (isIt_zipM at_ at2) r2 (e.trans e2)⟩))⟩
  · obtain ⟨a, g, ds, vs, ea, z3, at_, sq, hl⟩ := iterL_at z2 s' r2
    obtain ⟨b, ws, eb, at2, sq2, hl2⟩ := tup_at (cl := cl) d2 s2
    subst ea eb
    exact ⟨a, b, vs, ws, rfl, .inr (.inr (.inr ⟨sq, sq2, p _ _ _ _ _ z3 (isIt_zipM at_ at2) r2 (e.trans e2)⟩))⟩
theorem pi_rng3D (G : Good cl c Γ k W sc X) {tg a b d : Expr} {ta tb td : Rd D} {p pos : Pos} (hg : isGl sc "range" = true) (ho : ("range" : Str) ∈ c.free) (hp : plainE a = true) (hp2 : plainE b = true) (hp3 : plainE d = true) (ha : PEl cl W X a ta) (hb : PEl cl W X b tb) (hd : PEl cl W X d td) :
    PIl cl W X tg (.Call (.Name "range" p) [a, b, d] [] pos) fun E σ m k => ta E σ m fun x m1 => tb E σ m1 fun y m2 => td E σ m2 fun z m3 => ∃ i j, x = .int i ∧ y = .int j ∧ z = .int (-1) ∧ i62 i ∧ i62 j ∧ k gTrue (rangeD i (-1) (i - j).toNat) m3 := by
  obtain ⟨g1, g2, g3⟩ := isGl_ok G hg
  have st3 := plain_star hp3 [] X.env
  have st2 := plain_star hp2 [d] X.env
  have st := plain_star hp [b, d] X.env
  refine pi_imp (L2.pi_range3 g1 (G.free _ ho) (L2.pa_cons ha (L2.pa_cons hb (L2.pa_cons hd L2.pa_nil st3) st2) st) st (by rw [st2, st3]; rfl)) fun σv H R q => ?_
  obtain ⟨σ, m, k, E, hs, hr, ht, p, px⟩ := q
  refine ⟨σ, m, _, E, hs, hr, ht, ⟨fun x m1 v H1 z s r e => ?_, px⟩⟩
  refine ⟨σ, m1, _, E, hs.kp (hr.kp e), r, z, ⟨fun y m2 w H2 z2 s2 r2 e2 => ?_, px.step e⟩⟩
  refine ⟨σ, m2, _, E, (hs.kp (hr.kp e)).kp (r.kp e2), r2, z2, ⟨fun y' m3 w' H3 z3 s3 r3 e3 => ?_, (px.step e).step e2⟩⟩
  obtain ⟨i, j, ei, ej, ek, ⟨i1, i2⟩, ⟨j1, j2⟩, z3⟩ := z3
  subst ei ej ek
  cases s
  cases s2
  cases s3
  exact ⟨i, j, -1, _, rfl, L2.RgC.neg i1 i2 j1 j2, p _ _ _ _ _ z3 isIt_rngC r3 ((e.trans e2).trans e3)⟩
end
end DL

namespace DL
open PySem
open Sem (wp)
section
variable {prog : Program} {w : World} {A : Around} {E : Value → Shared → Prop} {s : Shared} {z TI TO T i1 i2 : Addr} {fp1 fp2 : List Addr} {n1 n2 i : Nat} {P1 P2 : Nat → Value → Prop} {St1 St2 : Nat → Heap → Prop} {f : Bool} {oT : Obj}
/-- a zip's next pair while an earlier one is still held -/
theorem zipH_item {Q : Value → Shared → Prop} (S : ZipSep2 z TI TO i1 i2 fp1 fp2) (D1 : Draws prog w A i1 fp1 n1 P1 St1) (D2 : Draws prog w A i2 fp2 n2 P2 St2)
    (hz : IsZipHeld s.heap z TI TO T f) (hT : s.heap.get? T = some oT) (hTI : IsTupOf2 s.heap TI (.ref i1) (.ref i2)) (st1 : St1 i s.heap) (st2 : St2 i s.heap) (hlt1 : i < n1) (hlt2 : i < n2)
    (hQ : ∀ x1 x2 h' tk, P1 i x1 → P2 i x2 → IsZipHeld h' z TI TO T true → St1 (i + 1) h' → St2 (i + 1) h' → IsTupOf2 h' s.heap.objs.size x1 x2 → (∀ c o, c ≠ z → c ≠ i1 → c ≠ i2 → s.heap.get? c = some o → h'.get? c = some o) → Q (.ref s.heap.objs.size) { s with heap := h', toks := tk }) :
    wpAny (model prog w) A (Builtin.«zip.__next__» ⟨[.ref z], []⟩) (fun fin s' => ∃ v, fin = .done (.ret v) ∧ Q v s') E s := by
  obtain ⟨hp, g, d, tk0, os⟩ := s
  show wpAny _ _ (field (.ref z) 2 >>= _) _ _ _
  refine wpAny_bind (wpAny_field hz rfl (x := .bool false) rfl ?_)
  show wpAny _ _ (field (.ref z) 3 >>= _) _ _ _
  refine wpAny_bind (wpAny_field hz rfl (x := .ref TI) rfl ?_)
  refine wpAny_bind (wpAny_seqItems hTI rfl ?_)
  show wpAny _ _ (Builtin.SmallTypes.ownedTupleIsFree (.ref z) >>= _) _ _ _
  refine wpAny_bind (wpAny_tupleHeld_zip hz hT fun g0 hz0 hs0 => ?_)
  replace hs0 : Heap.SameBut z hp g0 := hs0
  simp only [Bool.false_eq_true, if_false]
  refine wpAny_bind ?_
  rw [← Array.forIn_toList]
  simp only [List.forIn_cons, List.forIn_nil]
  refine wpAny_bind (wpAny_bind (wpAny_holding ?_))
  show wpAny _ _ (Builtin.SmallTypes.nextOf (.ref i1) >>= _) _ _ ⟨g0, g, d, tk0, os⟩
  refine wpAny_bind (D1.item i _ _ _ hlt1 (D1.over st1 hs0 S.zf1) fun x1 p1 tk1 hx1 sn1 hp1 => wpAny_pure ?_)
  replace hp1 : Heap.SameBut i1 g0 p1 := hp1
  refine wpAny_pure ?_
  refine wpAny_bind (wpAny_bind (wpAny_holding ?_))
  show wpAny _ _ (Builtin.SmallTypes.nextOf (.ref i2) >>= _) _ _ ⟨p1, g, d, tk1, os⟩
  refine wpAny_bind (D2.item i _ _ _ hlt2 (D2.over (D2.over st2 hs0 S.zf2) hp1 S.sep1_2) fun x2 p2 tk2 hx2 sn2 hp2 => wpAny_pure ?_)
  replace hp2 : Heap.SameBut i2 p1 p2 := hp2
  refine wpAny_pure (wpAny_pure ?_)
  show wpAny _ _ (newTuple [x1, x2] >>= _) _ _ _
  refine wpAny_bind (wpAny_newTuple ?_)
  have hsz : p2.objs.size = hp.objs.size := by rw [hp2.1, hp1.1, hs0.1]
  have hzz : IsZipHeld p2 z TI TO T true := hp2.extBut _ _ S.zi2 (hp1.extBut _ _ S.zi1 hz0)
  have hk : ∀ c o, c ≠ z → c ≠ i1 → c ≠ i2 → hp.get? c = some o → p2.get? c = some o := fun c o c1 c2 c3 e => hp2.extBut _ _ c3 (hp1.extBut _ _ c2 (hs0.extBut _ _ c1 e))
  have hj1 : St1 (i + 1) p2 := D1.over sn1 hp2 S.sep2_1
  refine wpAny_pure ⟨_, rfl, ?_⟩
  have hnew : IsTupOf2 (p2.push { cls := .type "tuple", data := .seq #[x1, x2] }) p2.objs.size x1 x2 := Heap.get?_push_size _ rfl
  have up : ∀ c o, p2.get? c = some o → (p2.push { cls := .type "tuple", data := .seq #[x1, x2] }).get? c = some o := fun c o e => Heap.get?_push_of_some _ e
  show Q (.ref p2.objs.size) ⟨p2.push { cls := .type "tuple", data := .seq #[x1, x2] }, g, d, tk2, os⟩
  rw [hsz] at hnew ⊢
  exact hQ x1 x2 _ tk2 hx1 hx2 (up _ _ hzz) (D1.frame _ _ _ hj1 fun b _ o e => up b o e) (D2.frame _ _ _ sn2 fun b _ o e => up b o e) hnew fun c o c1 c2 c3 e => up c o (hk c o c1 c2 c3 e)
theorem zipH_end {Q : Fin → Shared → Prop} (S : ZipSep2 z TI TO i1 i2 fp1 fp2) (D1 : Draws prog w A i1 fp1 n1 P1 St1) (D2 : Draws prog w A i2 fp2 n2 P2 St2)
    (hz : IsZipHeld s.heap z TI TO T f) (hT : s.heap.get? T = some oT) (hTI : IsTupOf2 s.heap TI (.ref i1) (.ref i2)) (st1 : St1 i s.heap) (st2 : St2 i s.heap) (hle1 : i ≤ n1) (hle2 : i ≤ n2) (hend : i = n1 ∨ i = n2)
    (hE : ∀ h' tk e, (∀ c o, c ≠ z → c ≠ i1 → c ≠ i2 → s.heap.get? c = some o → h'.get? c = some o) → (∃ o, h'.get? e = some o ∧ o.cls = .type "StopIteration") → E (.ref e) { s with heap := h', toks := tk }) :
    wpAny (model prog w) A (Builtin.«zip.__next__» ⟨[.ref z], []⟩) Q E s := by
  obtain ⟨hp, g, d, tk0, os⟩ := s
  show wpAny _ _ (field (.ref z) 2 >>= _) _ _ _
  refine wpAny_bind (wpAny_field hz rfl (x := .bool false) rfl ?_)
  show wpAny _ _ (field (.ref z) 3 >>= _) _ _ _
  refine wpAny_bind (wpAny_field hz rfl (x := .ref TI) rfl ?_)
  refine wpAny_bind (wpAny_seqItems hTI rfl ?_)
  show wpAny _ _ (Builtin.SmallTypes.ownedTupleIsFree (.ref z) >>= _) _ _ _
  refine wpAny_bind (wpAny_tupleHeld_zip hz hT fun g0 hz0 hs0 => ?_)
  replace hs0 : Heap.SameBut z hp g0 := hs0
  simp only [Bool.false_eq_true, if_false]
  refine wpAny_bind ?_
  rw [← Array.forIn_toList]
  simp only [List.forIn_cons, List.forIn_nil]
  refine wpAny_bind (wpAny_bind (wpAny_holding ?_))
  show wpAny _ _ (Builtin.SmallTypes.nextOf (.ref i1) >>= _) _ _ ⟨g0, g, d, tk0, os⟩
  by_cases hlt1 : i < n1
  · refine wpAny_bind (D1.item i _ _ _ hlt1 (D1.over st1 hs0 S.zf1) fun x1 p1 tk1 hx1 sn1 hp1 => wpAny_pure ?_)
    replace hp1 : Heap.SameBut i1 g0 p1 := hp1
    have hi2 : i = n2 := by omega
    refine wpAny_pure ?_
    refine wpAny_bind (wpAny_bind (wpAny_holding ?_))
    show wpAny _ _ (Builtin.SmallTypes.nextOf (.ref i2) >>= _) _ _ ⟨p1, g, d, tk1, os⟩
    refine wpAny_bind (D2.done ⟨p1, g, d, tk1, os⟩ _ _ (by rw [← hi2]; exact D2.over (D2.over st2 hs0 S.zf2) hp1 S.sep1_2) fun q e hq he => ?_)
    replace hq : Heap.ExtBut i2 p1 q := hq
    exact hE q tk1 e (fun c o cz c1 c2 x => hq _ _ c2 (hp1.extBut _ _ c1 (hs0.extBut _ _ cz x))) he
  · have hi1 : i = n1 := by omega
    refine wpAny_bind (D1.done ⟨g0, g, d, tk0, os⟩ _ _ (by rw [← hi1]; exact D1.over st1 hs0 S.zf1) fun q e hq he => ?_)
    replace hq : Heap.ExtBut i1 g0 q := hq
    exact hE q tk0 e (fun c o cz c1 _ x => hq _ _ c1 (hs0.extBut _ _ cz x)) he
theorem pyNext_zipH_item {Q : Option Value → Shared → Prop} (S : ZipSep2 z TI TO i1 i2 fp1 fp2) (D1 : Draws prog w A.in1 i1 fp1 n1 P1 St1) (D2 : Draws prog w A.in1 i2 fp2 n2 P2 St2)
    (hz : IsZipHeld s.heap z TI TO T f) (hT : s.heap.get? T = some oT) (hTI : IsTupOf2 s.heap TI (.ref i1) (.ref i2)) (st1 : St1 i s.heap) (st2 : St2 i s.heap) (hlt1 : i < n1) (hlt2 : i < n2)
    (hQ : ∀ x1 x2 h' tk, P1 i x1 → P2 i x2 → IsZipHeld h' z TI TO T true → St1 (i + 1) h' → St2 (i + 1) h' → IsTupOf2 h' s.heap.objs.size x1 x2 → (∀ c o, c ≠ z → c ≠ i1 → c ≠ i2 → s.heap.get? c = some o → h'.get? c = some o) → Q (some (.ref s.heap.objs.size)) { s with heap := h', toks := tk }) :
    wpAny (model prog w) A (pyNext (.ref z)) Q E s := by
  have hTy : s.TypeIs (.ref z) "zip" := ⟨_, hz, rfl⟩
  unfold pyNext
  exact wpAny_bind (wpAny_attempt (wpAny_callSpecial?_slot (name := Str.ofString "__next__") hTy F.slot_zip_next
    (wpAny_call_entry F.slot_zip_next hTy F.entry_zip_next
      (zipH_item S D1 D2 hz hT hTI st1 st2 hlt1 hlt2 fun x1 x2 h' tk a1 a2 a3 a4 a5 a6 a7 => wpAny_pure (hQ x1 x2 h' tk a1 a2 a3 a4 a5 a6 a7)) (F.args_zip_next_1 _))))
theorem pyNext_zipH_end {Q : Option Value → Shared → Prop} (S : ZipSep2 z TI TO i1 i2 fp1 fp2) (D1 : Draws prog w A.in1 i1 fp1 n1 P1 St1) (D2 : Draws prog w A.in1 i2 fp2 n2 P2 St2)
    (hz : IsZipHeld s.heap z TI TO T f) (hT : s.heap.get? T = some oT) (hTI : IsTupOf2 s.heap TI (.ref i1) (.ref i2)) (st1 : St1 i s.heap) (st2 : St2 i s.heap) (hle1 : i ≤ n1) (hle2 : i ≤ n2) (hend : i = n1 ∨ i = n2)
    (hQ : ∀ h' tk, (∀ c o, c ≠ z → c ≠ i1 → c ≠ i2 → s.heap.get? c = some o → h'.get? c = some o) → Q none { s with heap := h', toks := tk }) : wpAny (model prog w) A (pyNext (.ref z)) Q E s := by
  have hTy : s.TypeIs (.ref z) "zip" := ⟨_, hz, rfl⟩
  unfold pyNext
  refine wpAny_bind (wpAny_attempt (wpAny_callSpecial?_slot (name := Str.ofString "__next__") hTy F.slot_zip_next
    (wpAny_call_entry F.slot_zip_next hTy F.entry_zip_next (zipH_end S D1 D2 hz hT hTI st1 st2 hle1 hle2 hend fun h' tk e hk he => ?_) (F.args_zip_next_1 _))))
  obtain ⟨o, ho, hc⟩ := he
  refine wpAny_bind (wpAny_isInstance (T := "StopIteration") (b := true) ⟨o, ho, hc⟩ isSubtype_stop ?_)
  exact wpAny_pure (hQ _ _ hk)
end
section
variable {prog : Program} {w : World}
/-- a zip of two tuples may be told to dict -/
theorem pairArg_zipT (z TI TO i1 i2 l1 l2 : Addr) (D : ZipApart z TI TO i1 i2 l1 l2) (xs ys : Array Value) :
    PairArg prog w "zip" z [z, TI, TO, i1, i2, l1, l2] [z, TO, i1, i2] (min xs.size ys.size) (fun i k v => xs[i]? = some k ∧ ys[i]? = some v)
      (fun h => IsZip h z TI TO .none ∧ IsTupOf2 h TI (.ref i1) (.ref i2) ∧ (∃ a b, IsTupOf2 h TO a b) ∧ h.IsTupleIter i1 l1 0 ∧ h.IsTupleIter i2 l2 0 ∧ h.IsTuple l1 xs ∧ h.IsTuple l2 ys) := by
  have Sp : ZipSep2 z TI TO i1 i2 [i1, l1] [i2, l2] := { TIz := D.TIz, TOz := D.TOz, TITO := D.TITO, TIi1 := D.TIi1, mem1 := by simp, zf1 := by simp [Ne.symm D.i1z, Ne.symm D.l1z], Tf1 := by simp [D.TOi1, Ne.symm D.l1TO], TIi2 := D.TIi2, mem2 := by simp, zf2 := by simp [Ne.symm D.i2z, Ne.symm D.l2z], Tf2 := by simp [D.TOi2, Ne.symm D.l2TO], sep1_2 := by simp [D.i12, Ne.symm D.l2i1], sep2_1 := by simp [Ne.symm D.i12, Ne.symm D.l1i2] }
  exact {
    type := fun s ok => ⟨_, ok.1, rfl⟩
    notDict := by decide
    keep := fun h h' ok hk => by
      obtain ⟨hz, hTI, ⟨a, b, hTO⟩, h1, h2, hl1, hl2⟩ := ok
      exact ⟨hk _ _ hz, hk _ _ hTI, ⟨a, b, hk _ _ hTO⟩, h1.at fun o e => hk _ o e, h2.at fun o e => hk _ o e, hl1.at fun o e => hk _ o e, hl2.at fun o e => hk _ o e⟩
    there := fun h ok b hb => by
      obtain ⟨hz, hTI, ⟨a, c, hTO⟩, ⟨o1, h1, _⟩, ⟨o2, h2, _⟩, ⟨o3, hl1, _⟩, ⟨o4, hl2, _⟩⟩ := ok
      simp only [List.mem_cons, List.not_mem_nil, or_false] at hb
      rcases hb with rfl | rfl | rfl | rfl | rfl | rfl | rfl
      all_goals first | exact ⟨_, hz⟩ | exact ⟨_, hTI⟩ | exact ⟨_, hTO⟩ | exact ⟨_, h1⟩ | exact ⟨_, h2⟩ | exact ⟨_, hl1⟩ | exact ⟨_, hl2⟩
    sub := fun b hb => by simp at hb ⊢; rcases hb with rfl | rfl | rfl | rfl <;> simp
    noKeys := fun A s Q E hA ok h => getAttrOr_miss_zip ok.1 rfl rfl rfl zip_no_keys (by decide +kernel) hA h
    iter := fun A s d Q E hA ok hd hdf h => by
      obtain ⟨hz, hTI, ⟨a, b, hTO⟩, h1, h2, hl1, hl2⟩ := ok
      simp only [List.mem_cons, List.not_mem_nil, or_false, not_or] at hdf
      obtain ⟨dz, dTI, dTO, di1, di2, dl1, dl2⟩ := hdf
      have hh : A.in1.handled = none := hA
      refine wpAny_pyIter_zip hz (h z [z, TO, i1, i2] (fun i h => IsTupOf2 h TI (.ref i1) (.ref i2) ∧ h.IsTupleIter i1 l1 i ∧ h.IsTupleIter i2 l2 i ∧ h.IsTuple l1 xs ∧ h.IsTuple l2 ys ∧
        ((IsZip h z TI TO .none ∧ ∃ a b, IsTupOf2 h TO a b) ∨ ∃ T f oT, IsZipHeld h z TI TO T f ∧ h.get? T = some oT ∧ T ≠ z ∧ T ≠ i1 ∧ T ≠ i2 ∧ T ≠ d)) s.heap s.toks ?_
        ⟨hTI, h1, h2, hl1, hl2, .inl ⟨hz, a, b, hTO⟩⟩ (fun _ _ e => e) fun b hb => .inl hb)
      exact {
        off := fun hm => by
          simp only [List.mem_cons, List.not_mem_nil, or_false] at hm
          rcases hm with e | e | e | e
          · exact dz e
          · exact dTO e
          · exact di1 e
          · exact di2 e
        frame := fun i h₁ h₂ st hk => by
          obtain ⟨hTI, h1, h2, hl1, hl2, hz⟩ := st
          refine ⟨hk _ _ (Ne.symm dTI) hTI, h1.at fun o e => hk _ o (Ne.symm di1) e, h2.at fun o e => hk _ o (Ne.symm di2) e, hl1.at fun o e => hk _ o (Ne.symm dl1) e, hl2.at fun o e => hk _ o (Ne.symm dl2) e, ?_⟩
          rcases hz with ⟨hz, a, b, hTO⟩ | ⟨T, f, oT, hz, hT, r1, r2, r3, r4⟩
          · exact .inl ⟨hk _ _ (Ne.symm dz) hz, a, b, hk _ _ (Ne.symm dTO) hTO⟩
          · exact .inr ⟨T, f, oT, hk _ _ (Ne.symm dz) hz, hk _ _ r4 hT, r1, r2, r3, r4⟩
        item := fun i s₁ Q₁ E₁ hi st hds hQ => by
          obtain ⟨hTI, h1, h2, hl1, hl2, hz⟩ := st
          have hix : i < xs.size := Nat.lt_of_lt_of_le hi (Nat.min_le_left ..)
          have hiy : i < ys.size := Nat.lt_of_lt_of_le hi (Nat.min_le_right ..)
          have lt : ∀ {c o}, s₁.heap.get? c = some o → s₁.heap.objs.size ≠ c := fun e => Nat.ne_of_gt (Heap.lt_size e)
          have m1 : s₁.heap.objs.size ≠ i1 := let ⟨_, e, _⟩ := h1; lt e
          have m2 : s₁.heap.objs.size ≠ i2 := let ⟨_, e, _⟩ := h2; lt e
          rcases hz with ⟨hz, a, b, hTO⟩ | ⟨T, f, oT, hz, hT, r1, r2, r3, r4⟩
          · refine wpAny_pyNext_zipD2_item Sp (Draws.tuple hh i1 l1 D.l1i1 xs) (Draws.tuple hh i2 l2 D.l2i2 ys) hz hTI hTO ⟨h1, hl1⟩ ⟨h2, hl2⟩ hix hiy fun v1 v2 h' tk e1 e2 a1 a2 a3 a4 a5 a6 hk => ?_
            exact hQ s₁.heap.objs.size _ _ h' tk ⟨e1, e2⟩ (.inl ⟨_, a5, rfl, _, rfl⟩)
              ⟨hk _ _ D.TIz D.TITO D.TIi1 D.TIi2 hTI, a3.1, a4.1, a3.2, a4.2, .inr ⟨s₁.heap.objs.size, false, _, a1, a5, lt hz, m1, m2, Nat.ne_of_gt hds⟩⟩
              fun c o hc e => hk c o (fun x => hc (by simp [x])) (fun x => hc (by simp [x])) (fun x => hc (by simp [x])) (fun x => hc (by simp [x])) e
          · refine pyNext_zipH_item Sp (Draws.tuple hh i1 l1 D.l1i1 xs) (Draws.tuple hh i2 l2 D.l2i2 ys) hz hT hTI ⟨h1, hl1⟩ ⟨h2, hl2⟩ hix hiy fun v1 v2 h' tk e1 e2 a1 a3 a4 a5 hk => ?_
            exact hQ s₁.heap.objs.size _ _ h' tk ⟨e1, e2⟩ (.inl ⟨_, a5, rfl, _, rfl⟩)
              ⟨hk _ _ D.TIz D.TIi1 D.TIi2 hTI, a3.1, a4.1, a3.2, a4.2, .inr ⟨T, true, oT, a1, hk _ _ r1 r2 r3 hT, r1, r2, r3, r4⟩⟩
              fun c o hc e => hk c o (fun x => hc (by simp [x])) (fun x => hc (by simp [x])) (fun x => hc (by simp [x])) e
        done := fun s₁ Q₁ E₁ st hQ => by
          obtain ⟨hTI, h1, h2, hl1, hl2, hz⟩ := st
          have hend : min xs.size ys.size = xs.size ∨ min xs.size ys.size = ys.size := by omega
          rcases hz with ⟨hz, a, b, hTO⟩ | ⟨T, f, oT, hz, hT, r1, r2, r3, r4⟩
          · exact wpAny_pyNext_zipD2_end Sp (Draws.tuple hh i1 l1 D.l1i1 xs) (Draws.tuple hh i2 l2 D.l2i2 ys) hz hTI hTO ⟨h1, hl1⟩ ⟨h2, hl2⟩ (by omega) (by omega) hend fun h' tk hk => hQ h' tk fun c o hc e => hk c o (fun x => hc (by simp [x])) (fun x => hc (by simp [x])) (fun x => hc (by simp [x])) (fun x => hc (by simp [x])) e
          · exact pyNext_zipH_end Sp (Draws.tuple hh i1 l1 D.l1i1 xs) (Draws.tuple hh i2 l2 D.l2i2 ys) hz hT hTI ⟨h1, hl1⟩ ⟨h2, hl2⟩ (by omega) (by omega) hend fun h' tk hk => hQ h' tk fun c o hc e => hk c o (fun x => hc (by simp [x])) (fun x => hc (by simp [x])) (fun x => hc (by simp [x])) e } }
/-- a zip of a tuple and a list may be told to dict -/
theorem pairArg_zipTL (z TI TO i1 i2 l1 l2 : Addr) (D : ZipApart z TI TO i1 i2 l1 l2) (xs ys : Array Value) :
    PairArg prog w "zip" z [z, TI, TO, i1, i2, l1, l2] [z, TO, i1, i2] (min xs.size ys.size) (fun i k v => xs[i]? = some k ∧ ys[i]? = some v)
      (fun h => IsZip h z TI TO .none ∧ IsTupOf2 h TI (.ref i1) (.ref i2) ∧ (∃ a b, IsTupOf2 h TO a b) ∧ h.IsTupleIter i1 l1 0 ∧ h.IsListIter i2 l2 0 ∧ h.IsTuple l1 xs ∧ h.IsList l2 ys) := by
  have Sp : ZipSep2 z TI TO i1 i2 [i1, l1] [i2, l2] := { TIz := D.TIz, TOz := D.TOz, TITO := D.TITO, TIi1 := D.TIi1, mem1 := by simp, zf1 := by simp [Ne.symm D.i1z, Ne.symm D.l1z], Tf1 := by simp [D.TOi1, Ne.symm D.l1TO], TIi2 := D.TIi2, mem2 := by simp, zf2 := by simp [Ne.symm D.i2z, Ne.symm D.l2z], Tf2 := by simp [D.TOi2, Ne.symm D.l2TO], sep1_2 := by simp [D.i12, Ne.symm D.l2i1], sep2_1 := by simp [Ne.symm D.i12, Ne.symm D.l1i2] }
  exact {
    type := fun s ok => ⟨_, ok.1, rfl⟩
    notDict := by decide
    keep := fun h h' ok hk => by
      obtain ⟨hz, hTI, ⟨a, b, hTO⟩, h1, h2, hl1, hl2⟩ := ok
      exact ⟨hk _ _ hz, hk _ _ hTI, ⟨a, b, hk _ _ hTO⟩, h1.at fun o e => hk _ o e, h2.at fun o e => hk _ o e, hl1.at fun o e => hk _ o e, hl2.at fun o e => hk _ o e⟩
    there := fun h ok b hb => by
      obtain ⟨hz, hTI, ⟨a, c, hTO⟩, ⟨o1, h1, _⟩, ⟨o2, h2, _⟩, ⟨o3, hl1, _⟩, ⟨o4, hl2, _⟩⟩ := ok
      simp only [List.mem_cons, List.not_mem_nil, or_false] at hb
      rcases hb with rfl | rfl | rfl | rfl | rfl | rfl | rfl
      all_goals first | exact ⟨_, hz⟩ | exact ⟨_, hTI⟩ | exact ⟨_, hTO⟩ | exact ⟨_, h1⟩ | exact ⟨_, h2⟩ | exact ⟨_, hl1⟩ | exact ⟨_, hl2⟩
    sub := fun b hb => by simp at hb ⊢; rcases hb with rfl | rfl | rfl | rfl <;> simp
    noKeys := fun A s Q E hA ok h => getAttrOr_miss_zip ok.1 rfl rfl rfl zip_no_keys (by decide +kernel) hA h
    iter := fun A s d Q E hA ok hd hdf h => by
      obtain ⟨hz, hTI, ⟨a, b, hTO⟩, h1, h2, hl1, hl2⟩ := ok
      simp only [List.mem_cons, List.not_mem_nil, or_false, not_or] at hdf
      obtain ⟨dz, dTI, dTO, di1, di2, dl1, dl2⟩ := hdf
      have hh : A.in1.handled = none := hA
      refine wpAny_pyIter_zip hz (h z [z, TO, i1, i2] (fun i h => IsTupOf2 h TI (.ref i1) (.ref i2) ∧ h.IsTupleIter i1 l1 i ∧ h.IsListIter i2 l2 i ∧ h.IsTuple l1 xs ∧ h.IsList l2 ys ∧
        ((IsZip h z TI TO .none ∧ ∃ a b, IsTupOf2 h TO a b) ∨ ∃ T f oT, IsZipHeld h z TI TO T f ∧ h.get? T = some oT ∧ T ≠ z ∧ T ≠ i1 ∧ T ≠ i2 ∧ T ≠ d)) s.heap s.toks ?_
        ⟨hTI, h1, h2, hl1, hl2, .inl ⟨hz, a, b, hTO⟩⟩ (fun _ _ e => e) fun b hb => .inl hb)
      exact {
        off := fun hm => by
          simp only [List.mem_cons, List.not_mem_nil, or_false] at hm
          rcases hm with e | e | e | e
          · exact dz e
          · exact dTO e
          · exact di1 e
          · exact di2 e
        frame := fun i h₁ h₂ st hk => by
          obtain ⟨hTI, h1, h2, hl1, hl2, hz⟩ := st
          refine ⟨hk _ _ (Ne.symm dTI) hTI, h1.at fun o e => hk _ o (Ne.symm di1) e, h2.at fun o e => hk _ o (Ne.symm di2) e, hl1.at fun o e => hk _ o (Ne.symm dl1) e, hl2.at fun o e => hk _ o (Ne.symm dl2) e, ?_⟩
          rcases hz with ⟨hz, a, b, hTO⟩ | ⟨T, f, oT, hz, hT, r1, r2, r3, r4⟩
          · exact .inl ⟨hk _ _ (Ne.symm dz) hz, a, b, hk _ _ (Ne.symm dTO) hTO⟩
          · exact .inr ⟨T, f, oT, hk _ _ (Ne.symm dz) hz, hk _ _ r4 hT, r1, r2, r3, r4⟩
        item := fun i s₁ Q₁ E₁ hi st hds hQ => by
          obtain ⟨hTI, h1, h2, hl1, hl2, hz⟩ := st
          have hix : i < xs.size := Nat.lt_of_lt_of_le hi (Nat.min_le_left ..)
          have hiy : i < ys.size := Nat.lt_of_lt_of_le hi (Nat.min_le_right ..)
          have lt : ∀ {c o}, s₁.heap.get? c = some o → s₁.heap.objs.size ≠ c := fun e => Nat.ne_of_gt (Heap.lt_size e)
          have m1 : s₁.heap.objs.size ≠ i1 := let ⟨_, e, _⟩ := h1; lt e
          have m2 : s₁.heap.objs.size ≠ i2 := let ⟨_, e, _⟩ := h2; lt e
          rcases hz with ⟨hz, a, b, hTO⟩ | ⟨T, f, oT, hz, hT, r1, r2, r3, r4⟩
          · refine wpAny_pyNext_zipD2_item Sp (Draws.tuple hh i1 l1 D.l1i1 xs) (Draws.list hh i2 l2 D.l2i2 ys) hz hTI hTO ⟨h1, hl1⟩ ⟨h2, hl2⟩ hix hiy fun v1 v2 h' tk e1 e2 a1 a2 a3 a4 a5 a6 hk => ?_
            exact hQ s₁.heap.objs.size _ _ h' tk ⟨e1, e2⟩ (.inl ⟨_, a5, rfl, _, rfl⟩)
              ⟨hk _ _ D.TIz D.TITO D.TIi1 D.TIi2 hTI, a3.1, a4.1, a3.2, a4.2, .inr ⟨s₁.heap.objs.size, false, _, a1, a5, lt hz, m1, m2, Nat.ne_of_gt hds⟩⟩
              fun c o hc e => hk c o (fun x => hc (by simp [x])) (fun x => hc (by simp [x])) (fun x => hc (by simp [x])) (fun x => hc (by simp [x])) e
          · refine pyNext_zipH_item Sp (Draws.tuple hh i1 l1 D.l1i1 xs) (Draws.list hh i2 l2 D.l2i2 ys) hz hT hTI ⟨h1, hl1⟩ ⟨h2, hl2⟩ hix hiy fun v1 v2 h' tk e1 e2 a1 a3 a4 a5 hk => ?_
            exact hQ s₁.heap.objs.size _ _ h' tk ⟨e1, e2⟩ (.inl ⟨_, a5, rfl, _, rfl⟩)
              ⟨hk _ _ D.TIz D.TIi1 D.TIi2 hTI, a3.1, a4.1, a3.2, a4.2, .inr ⟨T, true, oT, a1, hk _ _ r1 r2 r3 hT, r1, r2, r3, r4⟩⟩
              fun c o hc e => hk c o (fun x => hc (by simp [x])) (fun x => hc (by simp [x])) (fun x => hc (by simp [x])) e
        done := fun s₁ Q₁ E₁ st hQ => by
          obtain ⟨hTI, h1, h2, hl1, hl2, hz⟩ := st
          have hend : min xs.size ys.size = xs.size ∨ min xs.size ys.size = ys.size := by omega
          rcases hz with ⟨hz, a, b, hTO⟩ | ⟨T, f, oT, hz, hT, r1, r2, r3, r4⟩
          · exact wpAny_pyNext_zipD2_end Sp (Draws.tuple hh i1 l1 D.l1i1 xs) (Draws.list hh i2 l2 D.l2i2 ys) hz hTI hTO ⟨h1, hl1⟩ ⟨h2, hl2⟩ (by omega) (by omega) hend fun h' tk hk => hQ h' tk fun c o hc e => hk c o (fun x => hc (by simp [x])) (fun x => hc (by simp [x])) (fun x => hc (by simp [x])) (fun x => hc (by simp [x])) e
          · exact pyNext_zipH_end Sp (Draws.tuple hh i1 l1 D.l1i1 xs) (Draws.list hh i2 l2 D.l2i2 ys) hz hT hTI ⟨h1, hl1⟩ ⟨h2, hl2⟩ (by omega) (by omega) hend fun h' tk hk => hQ h' tk fun c o hc e => hk c o (fun x => hc (by simp [x])) (fun x => hc (by simp [x])) (fun x => hc (by simp [x])) e } }
end
open PySem PySem.Spec PyProof.Rows
open L2 (V Hp HO SqL SqT TE TT TA TS TG TGs Cx Inv PE PT PW PA PS PSs PG PGs RelV Vals WX OpR UnR CallR IxR SlR MtR It TI PI Turn)
theorem kv_zip : ∀ {ks : List L2.Key} {ys : List V} {us : List Value}, Vals ys us → L2.KV (ks.zip ys) (ks.zip us)
  | [], ys, us, _ => by
    rw [List.zip_nil_left, List.zip_nil_left]
    exact .nil
  | k :: ks, [], us, h => by
    cases h
    exact .nil
  | k :: ks, y :: ys, us, h => by
    cases h with
    | cons r t => exact .cons ⟨rfl, r⟩ (kv_zip t)
/-- dict(zip(a, b)) -/
theorem pe_dictZipM {X : Cx} {e e2 : Expr} {ta : TA} {p p2 pos pos2 : Pos} (hg : L2.Gl X "dict") (hm : X.mg "dict" = none) (hgz : L2.Gl X "zip") (hmz : X.mg "zip" = none) (hc : X.calm = true) (ha : PA X [e, e2] ta)
    (hs : starEach [e, e2] X.env = (false, eval e X.env) :: starEach [e2] X.env) (hpl : (backTo pos2 (starEach [e2] X.env)).any (·.1) = false) :
    PE X (.Call (.Name "dict" p) [.Call (.Name "zip" p2) [e, e2] [] pos2] [] pos) fun σ H Q => ta σ H fun vs H1 => ∃ (a b : Addr) (ks : List L2.Key) (ys : List V), vs = [.ref a, .ref b] ∧ SqT X.K H1 a (ks.map L2.kV) ∧ (SqT X.K H1 b ys ∨ SqL X.K H1 b ys) ∧ ks.length = ys.length ∧ ∀ q, H1 q = none → Q (.ref q) (L2.upd H1 q (.dK (L2.mergeK [] (ks.zip ys)))) := by
  refine ⟨fun pins s σ H R I h => ?_⟩
  refine Call_ (L2.ld_blt I hg hm PyProof.Rows.boot_dict (PyProof.Rows.callWith_type1 (args_cons (Call_ (L2.ld_blt I hgz hmz PyProof.Rows.boot_zip (PyProof.Rows.callWith_type1 (L2.thn (ha.run pos2 pins s σ H _ I h) fun us s1 ⟨vs, H1, J1, r1, q1⟩ => ?_) hs hpl))) rfl) rfl rfl))
  obtain ⟨a, b, ks, ys, ex, hqx, hqy, hlen, q⟩ := q1
  subst ex
  cases r1 with
  | cons r rr =>
    cases rr with
    | cons r' rr =>
      cases rr
      cases r
      cases r'
      rcases hqy with hqy | hqy
      · obtain ⟨its, rv, p1, sz1⟩ := J1.tuple hqx
        obtain ⟨its2, rv2, p2', sz2⟩ := J1.tuple hqy
        have p1 : s1.heap.IsTuple a its.toArray := p1
        have p2' : s1.heap.IsTuple b its2.toArray := p2'
        obtain ⟨o1, ho1, _⟩ := id p1
        obtain ⟨o2, ho2, _⟩ := id p2'
        have l1 := rv.length
        have l2 := rv2.length
        rw [List.length_map] at l1
        refine zip_begins2 (begins_tuple a its.toArray) (begins_tuple b its2.toArray) p1 p2' fun h' hz hTI hTO g1 g2 hsz hk => args_nil ?_
        refine call_dict_pairs (knd := L2.mixKind X.prog X.w) (kvs := ks.zip its2) (pairArg_zipT (s1.heap.objs.size + 4) (s1.heap.objs.size + 2) (s1.heap.objs.size + 3) s1.heap.objs.size (s1.heap.objs.size + 1) a b (PySem.W.ktu_apart s1.heap.objs.size a b (Heap.lt_size ho1) (Heap.lt_size ho2)) its.toArray its2.toArray)
          (J1.ok.hd hc) ⟨hz, hTI, ⟨_, _, hTO⟩, ⟨_, g1, rfl, rfl⟩, ⟨_, g2, rfl, rfl⟩, p1.at fun o e => hk _ _ e, p2'.at fun o e => hk _ _ e⟩ ⟨by simp; omega, fun i key v ⟨e1, e2⟩ => ?_⟩ (by simp; omega) fun h2 tk hd hk2 => ?_
        · have e1 : its[i]? = some key := by simpa using e1
          have e2 : its2[i]? = some v := by simpa using e2
          have hi := (List.getElem?_eq_some_iff.mp e1).1
          have hik : i < ks.length := by omega
          have ek : ks[i]? = some ks[i] := List.getElem?_eq_getElem hik
          obtain ⟨u, hu, ru⟩ := rv.get (show (ks.map L2.kV)[i]? = some (L2.kV ks[i]) by rw [List.getElem?_map, ek]; rfl)
          rw [e1] at hu
          cases hu
          refine ⟨ks[i], ?_, L2.kV_is ru⟩
          rw [List.getElem?_zip_eq_some]
          exact ⟨ek, e2⟩
        · have hk3 : ∀ c o, s1.heap.get? c = some o → h2.get? c = some o := fun c o e => by
            have hlt : c < s1.heap.objs.size := Heap.lt_size e
            refine hk2 c o (fun hmem => ?_) (hk c o e)
            simp only [List.mem_cons, List.not_mem_nil, or_false] at hmem
            rcases hmem with z | z | z | z
            · exact absurd hlt (by rw [z]; exact Nat.not_lt.mpr (Nat.le_add_right _ _))
            · exact absurd hlt (by rw [z]; exact Nat.not_lt.mpr (Nat.le_add_right _ _))
            · exact absurd hlt (by rw [z]; exact Nat.lt_irrefl _)
            · exact absurd hlt (by rw [z]; exact Nat.not_lt.mpr (Nat.le_add_right _ _))
          have hle : s1.heap.objs.size ≤ h'.objs.size := by rw [hsz]; exact Nat.le_add_right _ _
          have hbig : (h'.objs.size == sysModules) = false := beq_eq_false_iff_ne.mpr (Nat.ne_of_gt (Nat.lt_of_lt_of_le J1.big hle))
          have hlenM : (L2.mergeK [] (ks.zip ys)).length ≤ sizeLine := by
            refine Nat.le_trans (L2.length_mergeK _ []) ?_
            rw [List.length_nil, Nat.zero_add, List.length_zip]
            omega
          exact ⟨.ref h'.objs.size, L2.upd H1 h'.objs.size (.dK (L2.mergeK [] (ks.zip ys))), J1.laid (t' := tk) hk3 hle (show L2.ObjOk X.prog X.w _ _ _ (.dK (L2.mergeK [] (ks.zip ys))) from ⟨hlenM, hbig, merged [] (ks.zip its2), L2.KV.merge (kv_zip rv2) .nil, hd⟩), rfl, q _ (J1.hok.fresh hle)⟩
      · obtain ⟨its, rv, p1, sz1⟩ := J1.tuple hqx
        obtain ⟨its2, rv2, p2q, sz2⟩ := J1.list hqy
        have p1 : s1.heap.IsTuple a its.toArray := p1
        have p2' : s1.heap.IsList b its2.toArray := p2q.isList
        obtain ⟨o1, ho1, _⟩ := id p1
        obtain ⟨o2, ho2, _⟩ := id p2'
        have l1 := rv.length
        have l2 := rv2.length
        rw [List.length_map] at l1
        refine zip_begins2 (begins_tuple a its.toArray) (begins_list b its2.toArray) p1 p2' fun h' hz hTI hTO g1 g2 hsz hk => args_nil ?_
        refine call_dict_pairs (knd := L2.mixKind X.prog X.w) (kvs := ks.zip its2) (pairArg_zipTL (s1.heap.objs.size + 4) (s1.heap.objs.size + 2) (s1.heap.objs.size + 3) s1.heap.objs.size (s1.heap.objs.size + 1) a b (PySem.W.ktu_apart s1.heap.objs.size a b (Heap.lt_size ho1) (Heap.lt_size ho2)) its.toArray its2.toArray)
          (J1.ok.hd hc) ⟨hz, hTI, ⟨_, _, hTO⟩, ⟨_, g1, rfl, rfl⟩, ⟨_, g2, rfl, rfl⟩, p1.at fun o e => hk _ _ e, p2'.at fun o e => hk _ _ e⟩ ⟨by simp; omega, fun i key v ⟨e1, e2⟩ => ?_⟩ (by simp; omega) fun h2 tk hd hk2 => ?_
        · have e1 : its[i]? = some key := by simpa using e1
          have e2 : its2[i]? = some v := by simpa using e2
          have hi := (List.getElem?_eq_some_iff.mp e1).1
          have hik : i < ks.length := by omega
          have ek : ks[i]? = some ks[i] := List.getElem?_eq_getElem hik
          obtain ⟨u, hu, ru⟩ := rv.get (show (ks.map L2.kV)[i]? = some (L2.kV ks[i]) by rw [List.getElem?_map, ek]; rfl)
          rw [e1] at hu
          cases hu
          refine ⟨ks[i], ?_, L2.kV_is ru⟩
          rw [List.getElem?_zip_eq_some]
          exact ⟨ek, e2⟩
        · have hk3 : ∀ c o, s1.heap.get? c = some o → h2.get? c = some o := fun c o e => by
            have hlt : c < s1.heap.objs.size := Heap.lt_size e
            refine hk2 c o (fun hmem => ?_) (hk c o e)
            simp only [List.mem_cons, List.not_mem_nil, or_false] at hmem
            rcases hmem with z | z | z | z
            · exact absurd hlt (by rw [z]; exact Nat.not_lt.mpr (Nat.le_add_right _ _))
            · exact absurd hlt (by rw [z]; exact Nat.not_lt.mpr (Nat.le_add_right _ _))
            · exact absurd hlt (by rw [z]; exact Nat.lt_irrefl _)
            · exact absurd hlt (by rw [z]; exact Nat.not_lt.mpr (Nat.le_add_right _ _))
          have hle : s1.heap.objs.size ≤ h'.objs.size := by rw [hsz]; exact Nat.le_add_right _ _
          have hbig : (h'.objs.size == sysModules) = false := beq_eq_false_iff_ne.mpr (Nat.ne_of_gt (Nat.lt_of_lt_of_le J1.big hle))
          have hlenM : (L2.mergeK [] (ks.zip ys)).length ≤ sizeLine := by
            refine Nat.le_trans (L2.length_mergeK _ []) ?_
            rw [List.length_nil, Nat.zero_add, List.length_zip]
            omega
          exact ⟨.ref h'.objs.size, L2.upd H1 h'.objs.size (.dK (L2.mergeK [] (ks.zip ys))), J1.laid (t' := tk) hk3 hle (show L2.ObjOk X.prog X.w _ _ _ (.dK (L2.mergeK [] (ks.zip ys))) from ⟨hlenM, hbig, merged [] (ks.zip its2), L2.KV.merge (kv_zip rv2) .nil, hd⟩), rfl, q _ (J1.hok.fresh hle)⟩
section
variable {X : Cx}
theorem vals_at : ∀ {vs : List (L2.Key × Value)} {its : List Value} {kvs : List (L2.Key × V)}, L2.KV kvs vs → its.length = vs.length → (∀ (j : Nat) (v : Value), its[j]? = some v → ∃ k : L2.Key, vs[j]? = some (k, v)) → Vals (kvs.map (·.2)) its := by
  intro vs its kvs r hl h
  have e : its = vs.map (·.2) := by
    refine List.ext_getElem? fun j => ?_
    cases hj : its[j]? with
    | none =>
      have := List.getElem?_eq_none_iff.mp hj
      exact (List.getElem?_eq_none_iff.mpr (by rw [List.length_map]; omega)).symm
    | some v =>
      obtain ⟨k, hk⟩ := h j v hj
      rw [List.getElem?_map, hk]
      rfl
  subst e
  unfold L2.KV at r
  clear hl h
  induction r with
  | nil => exact .nil
  | cons a t ih => exact .cons a.2 ih
/-- list(d.values()) -/
theorem pe_listVals {o : Expr} {td : TE} {p pos apos mpos : Pos} (hc : X.calm = true) (hg : L2.Gl X "list") (hm : X.mg "list" = none) (hd : PE X o td) (hbase : attributeBase o "values" X.env (eval o X.env) = eval o X.env) (hline : (apos.endLine == mpos.line) = true)
    (hse : starEach [Expr.Call (.Attribute o "values" apos) [] [] mpos] X.env = [(false, eval (Expr.Call (.Attribute o "values" apos) [] [] mpos) X.env)]) :
    PE X (.Call (.Name "list" p) [.Call (.Attribute o "values" apos) [] [] mpos] [] pos) fun σ H Q => td σ H fun x H1 => ∃ a kvs, x = V.ref a ∧ L2.Rd H1 a (.dK kvs) ∧ ∀ q, H1 q = none → Q (.ref q) (L2.upd H1 q (.lst (kvs.map (·.2)))) := by
  refine ⟨fun pins s σ H Q I h => ?_⟩
  refine Call_ (L2.ld_blt I hg hm PyProof.Rows.boot_list (PyProof.Rows.callWith_type1 (args_cons (wpAny_Call_method0_late hbase hline (L2.thn (hd.run pins s σ H _ I h) fun v s1 ⟨x, H1, I1, r1, a, kvs, ex, ha, q⟩ => ?_)) hse) hse rfl))
  subst ex
  obtain rfl : v = Value.ref a := r1
  obtain ⟨z, hsys, vs, rel, dof⟩ := L2.dk_rd I1.hok ha
  obtain ⟨ep, dat⟩ := dof.dictAt
  have dat' := dat
  obtain ⟨ob, es, ho, ex, hdat, hko, hpr, hnd⟩ := dat'
  refine ⟨"dict", "dict.values", F.plainAttrs_dict, F.slot_dict_values, F.type_dict_values, ⟨ob, ho, ex.1⟩, fun b e => ?_, Calls.callWith_builtin rfl (PySem.evalArgs_none ?_)⟩
  · cases e
    exact ⟨ob, ho, ex.2.1⟩
  refine call_meetsIn F.slot_dict_values ⟨ob, ho, ex.1⟩ F.entry_dict_values (F.args_dict_values_1 _) (meets_dict_values (L2.mixKind X.prog X.w) a hsys) ⟨⟨vs, dof⟩, args_nil ?_⟩
  have k1 : ∀ b u, s1.heap.get? b = some u → (s1.heap.push { cls := .type "dict_values", data := .fields #[.ref a] }).get? b = some u := fun b u e => Heap.get?_push_of_some _ e
  have dat1 : (s1.heap.push { cls := .type "dict_values", data := .fields #[.ref a] }).DictAt (L2.mixKind X.prog X.w) a vs ep := dat.keep k1
  have hsz : (s1.heap.push { cls := .type "dict_values", data := .fields #[.ref a] }).objs.size = s1.heap.objs.size + 1 := Heap.size_push _ _
  refine PySem.W.kdl_call (PySem.W.kdl_values (knd := L2.mixKind X.prog X.w) (kvs := vs) (ep := ep) (d := a) (r := s1.heap.objs.size)) (I1.ok.hd hc) ⟨⟨_, Heap.get?_push_size _ rfl, rfl, rfl⟩, dat1⟩ (by rw [← rel.length]; exact z) fun h' tk acc c' hk hD hacc => ?_
  have hv : Vals (kvs.map (·.2)) acc.toList := vals_at rel (by rw [Array.length_toList]; exact hacc.1) fun j v e => hacc.2 j v (by rw [← Array.getElem?_toList]; exact e)
  have hle : s1.heap.objs.size ≤ (s1.heap.push { cls := .type "dict_values", data := .fields #[.ref a] }).objs.size := by rw [hsz]; exact Nat.le_succ _
  exact ⟨.ref (s1.heap.push { cls := .type "dict_values", data := .fields #[.ref a] }).objs.size, L2.upd H1 _ (.lst (kvs.map (·.2))), I1.laid (t' := tk) (fun b u e => hk b u (k1 b u e)) hle
    (show L2.ObjOk X.prog X.w _ _ _ (.lst (kvs.map (·.2))) from ⟨by rw [List.length_map]; exact z, acc.toList, c', hv, by rw [Array.toArray_toList]; exact hD⟩), rfl, q _ (I1.hok.fresh hle)⟩
theorem isKs_vals {K : PySem.W.Frag} {H : Hp} : ∀ {kvs : List (D × D)} {ws : List (L2.Key × V)}, IsKs K H kvs ws → IsL K H (kvs.map (·.2)) (ws.map (·.2))
  | [], _, h => by
    rw [show _ = [] from h]
    rfl
  | (x, d) :: r, _, ⟨k, v, t, e, q, h, z⟩ => by
    subst e
    exact ⟨_, _, rfl, h, isKs_vals z⟩
end
section
variable {cl : Nat → Addr} {c : Ctx} {Γ : En} {k : Nat} {W : WX} {sc : Scope} {X : Cx}
theorem isKs_merge {K : PySem.W.Frag} {H : Hp} : ∀ {xs ys : List D} {ks : List L2.Key} {ws : List V} {acc : List (D × D)} {as : List (L2.Key × V)}, xs.map keyOf = ks.map some → IsL K H ys ws → xs.length = ys.length → IsKs K H acc as → IsKs K H ((xs.zip ys).foldl (fun acc q => putKey acc q.1 q.2) acc) (L2.mergeK as (ks.zip ws))
  | [], ys, ks, ws, acc, as, h1, h2, hl, h3 => by
    have : ks = [] := by
      cases ks with
      | nil => rfl
      | cons k r => cases h1
    subst this
    exact h3
  | x :: xs, [], ks, ws, acc, as, h1, h2, hl, h3 => by cases hl
  | x :: xs, y :: ys, ks, ws, acc, as, h1, h2, hl, h3 => by
    cases ks with
    | nil => cases h1
    | cons k ks =>
      obtain ⟨w, ws, rfl, hy, hys⟩ := h2
      rw [List.map_cons, List.map_cons] at h1
      injection h1 with e1 e2
      exact isKs_merge (xs := xs) (ys := ys) (ks := ks) (ws := ws) (acc := putKey acc x y) (as := L2.putK as k w) e2 hys (by simpa using hl) (isKs_put e1 hy h3)
theorem keys_V {K : PySem.W.Frag} {H : Hp} : ∀ {xs : List D} {vs : List V}, xs.all keyK = true → IsL K H xs vs → ∃ ks : List L2.Key, xs.map keyOf = ks.map some ∧ vs = ks.map L2.kV
  | [], vs, _, h => ⟨[], rfl, h⟩
  | x :: xs, vs, ha, h => by
    rw [List.all_cons, Bool.and_eq_true] at ha
    obtain ⟨v, ws, rfl, hx, hxs⟩ := h
    obtain ⟨k, hk⟩ := keyK_some ha.1
    obtain ⟨ks, e1, e2⟩ := keys_V ha.2 hxs
    exact ⟨k :: ks, by rw [List.map_cons, List.map_cons, hk, e1], by rw [List.map_cons, ← e2, keyV hk hx]⟩
theorem pe_dzD (G : Good cl c Γ k W sc X) {a b : Expr} {ta tb : Rd D} {p p2 pos pos2 : Pos} (hg : isGl sc "dict" = true) (ho : ("dict" : Str) ∈ c.free) (hgz : isGl sc "zip" = true) (hoz : ("zip" : Str) ∈ c.free) (hp : plainE a = true) (hp2 : plainE b = true) (ha : PEl cl W X a ta) (hb : PEl cl W X b tb) :
    PEl cl W X (.Call (.Name "dict" p) [.Call (.Name "zip" p2) [a, b] [] pos2] [] pos) fun E σ m k => ta E σ m fun x m1 => tb E σ m1 fun y m2 => ∃ xs ys, tupS x = some xs ∧ dzS m2 y = some ys ∧ xs.all keyK = true ∧ xs.length = ys.length ∧ NewDv bv m2 (mergeD (xs.zip ys)) k := by
  obtain ⟨g1, g2, g3⟩ := isGl_ok G hg
  obtain ⟨z1, z2, z3⟩ := isGl_ok G hgz
  have st2 := plain_star hp2 [] X.env
  have st := plain_star hp [b] X.env
  refine pe_imp (pe_frz (pe_dictZipM g1 (G.free _ ho) z1 (G.free _ hoz) (G.calm (G.coolF ho (by decide) (by decide))) (L2.pa_cons ha (L2.pa_cons hb L2.pa_nil st2) st) st (by rw [st2]; rfl))) fun σv H Q q => ?_
  obtain ⟨σ, m, k, E, hs, hr, ht, p, px⟩ := q
  refine ⟨σ, m, _, E, hs, hr, ht, ⟨fun x m1 v H1 z s r e => ?_, px⟩⟩
  refine ⟨σ, m1, _, E, hs.kp (hr.kp e), r, z, ⟨fun y m2 w H2 z2 s2 r2 e2 => ?_, px.step e⟩⟩
  have s' := s.kp (r.kp e2)
  obtain ⟨xs, ys, d1, d2, hk, hl, hn⟩ := z2
  obtain ⟨a, vs, ea, at1, sq1, hl1⟩ := tup_at (cl := cl) d1 s'
  subst ea
  obtain ⟨vx, t1, l1⟩ := at1 H2 m2 (Kp.refl _) r2 trivial
  obtain ⟨ks, e1, rfl⟩ := keys_V hk l1
  have hks := congrArg List.length e1
  rw [List.length_map, List.length_map] at hks
  unfold dzS at d2
  cases ed : tupS y with
  | some ys2 =>
    rw [ed] at d2
    cases d2
    obtain ⟨b, ws, eb, at2, sq2, hl2⟩ := tup_at (cl := cl) ed s2
    subst eb
    obtain ⟨vy, t2, l2⟩ := at2 H2 m2 (Kp.refl _) r2 trivial
    exact ⟨a, b, ks, vy, rfl, t1, .inl t2, by rw [l2.length, ← hl, hks], fun q hq => newD_ok hn.or hq (isKs_merge e1 l2 hl rfl) r2 (e.trans e2) p⟩
  | none =>
    rw [ed] at d2
    obtain ⟨b, vy, eb, t2, l2⟩ := lstOf_is r2 d2 s2
    subst eb
    exact ⟨a, b, ks, vy, rfl, t1, .inr t2, by rw [l2.length, ← hl, hks], fun q hq => newD_ok hn.or hq (isKs_merge e1 l2 hl rfl) r2 (e.trans e2) p⟩
theorem isKs_mrgP {K : PySem.W.Frag} {H : Hp} : ∀ {prs : List (D × D)} {kvs : List (L2.Key × V)} {acc : List (D × D)} {as : List (L2.Key × V)}, IsKs K H prs kvs → IsKs K H acc as → IsKs K H (prs.foldl (fun acc q => putKey acc q.1 q.2) acc) (L2.mergeK as kvs)
  | [], kvs, acc, as, h, h3 => by
    rw [show kvs = [] from h]
    exact h3
  | (x, y) :: prs, kvs, acc, as, ⟨k, v, t, e, q, h, z⟩, h3 => by
    subst e
    show IsKs K H (prs.foldl (fun acc q => putKey acc q.1 q.2) (putKey acc x y)) (L2.mergeK (L2.putK as k v) t)
    exact isKs_mrgP z (isKs_put q h h3)
theorem pairs_D {K : PySem.W.Frag} {H : Hp} : ∀ {prs : List (D × D)} {vs : List V}, (∀ q ∈ prs, keyK q.1 = true) → IsL K H (prs.map fun q => D.tup [q.1, q.2]) vs → ∃ (ps : List Addr) (kvs : List (L2.Key × V)), vs = ps.map V.ref ∧ PySem.Paired (fun p kv => SqT K H p [L2.kV kv.1, kv.2]) ps kvs ∧ IsKs K H prs kvs
  | [], vs, _, h => ⟨[], [], h, .nil, rfl⟩
  | (x, y) :: prs, vs, hk, ⟨v, r, e, hv, hr⟩ => by
    obtain ⟨ps, kvs, e1, e2, e3⟩ := pairs_D (fun q hq => hk q (List.mem_cons_of_mem _ hq)) hr
    obtain ⟨a, ws, ea, ht, hl⟩ := hv
    obtain ⟨v1, r1, rfl, h1, v2, r2, rfl, h2, h3⟩ := hl
    obtain rfl : r2 = [] := h3
    obtain ⟨k, hkk⟩ := keyK_some (hk (x, y) List.mem_cons_self)
    have ek := keyV hkk h1
    subst ek
    exact ⟨a :: ps, (k, v2) :: kvs, by rw [e, ea, e1]; rfl, .cons (sqt_of ht) e2, k, v2, kvs, rfl, hkk, h2, e3⟩
theorem pe_dpsD (G : Good cl c Γ k W sc X) {a : Expr} {ta : Rd D} {p pos : Pos} (hg : isGl sc "dict" = true) (ho : ("dict" : Str) ∈ c.free) (hp : plainE a = true) (ha : PEl cl W X a ta) :
    PEl cl W X (.Call (.Name "dict" p) [a] [] pos) fun E σ m k => ta E σ m fun x m1 => ∃ prs : List (D × D), lstOf m1 x = some (prs.map fun q => D.tup [q.1, q.2]) ∧ (∀ q ∈ prs, keyK q.1 = true) ∧ NewDv bv m1 (mergeD prs) k := by
  obtain ⟨g1, g2, g3⟩ := isGl_ok G hg
  have st := plain_star hp [] X.env
  have an := plain_any (show ([] : List Expr).all plainE = true from rfl) pos X.env
  refine pe_imp (pe_frz (L2.pe_callTy (L2.call_dictP (G.calm (G.coolF ho (by decide) (by decide)))) g1 (G.free _ ho) (by decide +kernel) (L2.pa_cons ha L2.pa_nil st) g3 g2 st an)) fun σv H Q q => ?_
  refine Lift.then_ (S := RV X.K) (u := fun x E σ m1 k => ∃ prs : List (D × D), lstOf m1 x = some (prs.map fun q => D.tup [q.1, q.2]) ∧ (∀ q ∈ prs, keyK q.1 = true) ∧ NewDv bv m1 (mergeD prs) k) q fun x v H1 k1 s1 l1 => ?_
  obtain ⟨σ', m, k', E, hs, hr, ⟨prs, hd, hk, hn⟩, pp⟩ := l1
  obtain ⟨l, vs, el, sq, hl⟩ := lstOf_is hr hd s1
  obtain ⟨ps, kvs, e1, e2, e3⟩ := pairs_D hk hl
  subst e1
  exact ⟨l, ps, kvs, by rw [el], sq, e2, fun q hq => newD_ok hn.or hq (isKs_mrgP e3 rfl) hr (Ext.refl _ _) pp.ok⟩
theorem pe_lvsD (G : Good cl c Γ k W sc X) {o : Expr} {ta : Rd D} {p pos apos mpos : Pos} {mm : Str} (hv : (mm == "values") = true) (hg : isGl sc "list" = true) (hf : ("list" : Str) ∈ c.free) (hbase : baseE o = true) (hl : (apos.endLine == mpos.line) = true) (ho : PEl cl W X o ta) :
    PEl cl W X (.Call (.Name "list" p) [.Call (.Attribute o mm apos) [] [] mpos] [] pos) fun E σ m k => ta E σ m fun x m1 => ∃ kvs : List (D × D), dicOf m1 x = some (false, kvs) ∧ NewLv bv m1 (kvs.map (·.2)) k := by
  obtain rfl : mm = "values" := by simpa using hv
  obtain ⟨g1, g2, g3⟩ := isGl_ok G hg
  have bs := base_ok hbase "values" X.env (eval o X.env)
  refine pe_imp (pe_frz (pe_listVals (G.calm (G.coolF hf (by decide) (by decide))) g1 (G.free _ hf) ho bs hl (plain_star (by rfl) [] X.env))) fun σv H Q q => ?_
  refine Lift.then_ (S := RV X.K) (u := fun x E σ m1 k => ∃ kvs : List (D × D), dicOf m1 x = some (false, kvs) ∧ NewLv bv m1 (kvs.map (·.2)) k) q fun x v H1 k1 s1 l1 => ?_
  obtain ⟨σ', m, k', E, hs, hr, ⟨kvs, hd, hn⟩, pp⟩ := l1
  obtain ⟨a, ws, ea, rd, l⟩ := dicK_is hr hd s1
  exact ⟨a, ws, ea, rd, fun q hq => newL_ok hn.or hq (isKs_vals l) hr (Ext.refl _ _) pp.ok⟩
end
end DL

namespace DL
open PySem PySem.Spec PyProof.Rows
open L2 (V Hp HO SqL SqT TE TT TA TS TG TGs Cx Inv PE PT PW PA PS PSs PG PGs RelV Vals WX OpR UnR CallR IxR SlR MtR)
theorem readsAll_ints {h : Heap} : ∀ {q : List Int} {vs : List Value} {as : List Addr}, ReadsAll h vs (q.map .int) as → as = []
  | [], vs, as, r => by
    cases r
    rfl
  | x :: q, vs, as, r => by
    cases r with
    | cons h1 h2 =>
      obtain ⟨_, _, e⟩ := reads_int_inv h1
      rw [e, readsAll_ints h2]
      rfl
theorem reads_pyI {h : Heap} {q : List Int} {u : Value} {as : List Addr} (r : Reads h u (pyI q) as) : as = [] := by
  unfold pyI at r
  cases r with
  | tuple _ _ _ ra => exact readsAll_ints ra
theorem eachP_of {K : PySem.W.Frag} {H : Hp} : ∀ {ps : List (List Int × List Int)} {xs : List V} {us : List Value}, IsL K H (ps.map encPP) xs → Vals xs us → PySem.W.EachIs (fun u p => ∃ v, RelV v u ∧ IsV K H (encPP p) v) us ps
  | [], _, us, h, r => by
    rw [show _ = [] from h] at r
    rw [r.zero]
    exact .nil
  | p :: ps, _, us, ⟨v, r, e, q, l⟩, rv => by
    subst e
    cases rv with
    | cons h1 h2 => exact .cons ⟨v, h1, q⟩ (eachP_of l h2)
theorem eachP_back {K : PySem.W.Frag} {H : Hp} : ∀ {ps : List (List Int × List Int)} {us : List Value}, PySem.W.EachIs (fun u p => ∃ v, RelV v u ∧ IsV K H (encPP p) v) us ps → ∃ xs, Vals xs us ∧ IsL K H (ps.map encPP) xs
  | _, _, .nil => ⟨[], .nil, rfl⟩
  | _, _, .cons h t => by
    obtain ⟨v, h1, h2⟩ := h
    obtain ⟨xs, t1, t2⟩ := eachP_back t
    exact ⟨v :: xs, .cons h1 t1, ⟨v, xs, rfl, h2, t2⟩⟩
def rSortedK (K : PySem.W.Frag) (f : Addr) : List V → List V → Hp → L2.VK → Prop := fun vs zs H Q => ∃ (a : Addr) (xs : List V) (pr : List (List Int × List Int)), vs = [V.ref a] ∧ zs = [V.ref f] ∧ SqL K H a xs ∧ IsL K H (pr.map encPP) xs ∧ (∀ q ∈ pr, q.2 ≠ []) ∧
  ∀ ys c, IsL K H ((pr.mergeSort leP2).map encPP) ys → H c = none → Q (.ref c) (L2.upd H c (.lst ys))
theorem cr_sortK {X : Cx} {fx : Str} {f : Addr} (hK : Key2 X.K X.mg fx) (hf : X.mg fx = some (.ref f)) (hdp : X.A.depth < recursionLimit) (hu : X.A.units + 65 < cLine) : L2.CallRK X (.builtin "sorted") [("key" : Str)] (rSortedK X.K f) := by
  intro pins s σ H xs zs us ws Q I rx rz h
  obtain ⟨a, xs, pr, rfl, rfl, hs, hl, hne, q⟩ := h
  obtain ⟨its, rv, hl', hz⟩ := I.list hs
  obtain ⟨u, rfl, ru⟩ := L2.vals1 rx
  obtain rfl : u = Value.ref a := ru
  obtain ⟨v, rfl, rv1⟩ := L2.vals1 rz
  obtain rfl : v = Value.ref f := rv1
  obtain ⟨f', hf', _, hcall⟩ := hK.call (P := X.prog) (w := X.w)
  have ef : f' = f := by
    rw [hf] at hf'
    cases hf'
    rfl
  subst ef
  have ex : pr.length = xs.length := by rw [hl.length, List.length_map]
  have e := eachP_of hl rv
  refine PySem.W.sorted_key_data (b := false) (k := fun q : List Int × List Int => pyI q.2) (kw := [(Str.ofString "key", .ref f')]) hl'.isList e (fun d hd d' hd' => ?_) (.inl fun d hd => ?_) (by rw [ex]; exact hz) (fun p hp => ?_) (ksk_s1 _ _) (fun _ => ksk_l1 _ _) (fun _ => ksk_t1 _ _) (fun v pq hR hpq h tk kp => ?_) fun out c h' tk kp hfr hget hlen eo => ?_
  · obtain ⟨p, _, rfl⟩ := List.mem_map.mp hd
    obtain ⟨p', _, rfl⟩ := List.mem_map.mp hd'
    exact PySem.W.alike_ints p.2 p'.2
  · obtain ⟨p, hp, rfl⟩ := List.mem_map.mp hd
    have := hne p hp
    obtain ⟨p1, p2⟩ := p
    cases p2 with
    | nil => exact absurd rfl this
    | cons x r => exact ⟨_, _, rfl⟩
  · have h1 : (pyI p.2).depth = 1 := by
      show PyData.depthAll (p.2.map .int) + 1 = 1
      rw [PySem.W.depth_ints]
    omega
  · obtain ⟨x, hx1, hx2⟩ := hR
    obtain ⟨ta, vs2, rfl, t, l⟩ := hx2
    obtain ⟨w1, w2, rfl, hw1, hw2⟩ := isL2 l
    obtain rfl : v = Value.ref ta := hx1
    obtain ⟨its2, r2, pl, _⟩ := I.tuple (sqt_of t)
    obtain ⟨u1, u2, rfl, _, ru2⟩ := L2.vals2 r2
    obtain ⟨as, rd⟩ := L2.Dp.reads I _ w2 u2 (dp_plain (plain_I pq.2) hw2) ru2
    rw [toPy_I] at rd
    have e0 := reads_pyI rd
    subst e0
    obtain ⟨o, ho, hc, n, hd⟩ := pl
    exact hcall (A := X.A.in1.in1) (s := { s with heap := h, toks := tk }) hdp (I.kIn.keeps kp) (I.nolimit.keeps kp) ⟨o, kp _ _ ho, hc, n, hd⟩ rfl (Reads.keeps kp rd)
  · have el : PySem.W.dataLe false (fun q : List Int × List Int => pyI q.2) = leP2 := by
      funext a b
      exact congrFun (congrFun le_I a.2) b.2
    rw [el] at eo
    obtain ⟨ys, h1, h2⟩ := eachP_back eo
    refine ⟨.ref (s.heap.objs.size + 1), L2.upd H (s.heap.objs.size + 1) (.lst ys), I.laid (t' := tk) kp (Nat.le_succ _) ⟨?_, out, c, h1, hget⟩, rfl, q _ _ h2 (I.hok.fresh (Nat.le_succ _))⟩
    rw [h2.length, List.length_map, List.length_mergeSort, ex]
    exact hz
section
variable {cl : Nat → Addr} {c : Ctx} {Γ : En} {k : Nat} {W : WX} {sc : Scope} {X : Cx} {bv : Bool}
theorem pe_sokD (G : Good cl c Γ k W sc X) {a : Expr} {ta : Rd D} {p p2 p3 pos : Pos} {f : Str} (hg : isGl sc "sorted" = true) (ho : ("sorted" : Str) ∈ c.free) (hf : isGl sc f = true) (hk : f ∈ c.k2) (hp : plainE a = true) (ha : PEl cl W X a ta) :
    PEl cl W X (.Call (.Name "sorted" p) [a] [⟨some "key", .Name f p2, p3⟩] pos) fun E σ m k => ta E σ m fun x m1 => ∃ pr : List (List Int × List Int), lstOf m1 x = some (pr.map encPP) ∧ (∀ q ∈ pr, q.2 ≠ []) ∧ pr.length ≤ big ∧ NewLv bv m1 ((pr.mergeSort leP2).map encPP) k := by
  obtain ⟨g1, g2, g3⟩ := isGl_ok G hg
  obtain ⟨z1, z2, z3⟩ := isGl_ok G hf
  have hK := G.k2 f hk
  obtain ⟨fa, hfa, _⟩ := hK.call (P := X.prog) (w := X.w)
  have st := plain_star hp [] X.env
  have hdp : X.A.depth < recursionLimit := (G.room (G.coolF ho (by decide) (by decide))).depth
  have pk : L2.PK X [⟨some "key", .Name f p2, p3⟩] (L2.tCons (L2.tC (V.ref fa)) L2.tNil) := L2.pk_cons ⟨fun pins s σ H Q I h => L2.ld_glob I z1 hfa ⟨.ref fa, H, I, rfl, h⟩ z2⟩ L2.pk_nil
  refine pe_imp (pe_frz (L2.pe_callBK (cr_sortK hK hfa hdp (Nat.lt_of_le_of_lt (by omega) G.u65)) g1 (G.free _ ho) (by decide +kernel) (L2.pa_cons ha L2.pa_nil st) pk g3 g2 (by rw [st]; rfl) (by rw [st]; rfl))) fun σv H Q q => ?_
  obtain ⟨σ, m, k, E, hs, hr, ht, pp, px⟩ := q
  refine ⟨σ, m, _, E, hs, hr, ht, ⟨fun x m1 v H1 z s r e => ?_, px⟩⟩
  obtain ⟨pr, d1, hne, hbg, hn⟩ := z
  obtain ⟨b, vs, e1, sq, l⟩ := lstOf_is r d1 s
  subst e1
  exact ⟨b, vs, pr, rfl, rfl, sq, l, hne, fun ys q hy hq => newL_ok hn.or hq hy r e pp⟩
end
end DL

namespace DL
open PySem PySem.Spec PyProof.Rows
open L2 (V Hp HO SqL SqT TE TT TA TS TG TGs Cx Inv PE PT PW PA PS PSs PG PGs RelV Vals WX OpR UnR CallR IxR SlR MtR)
section
variable {K : PySem.W.Frag} {H : Hp}
theorem isFs_lk {f : List Nat} : ∀ {fs : List (List Nat × D)} {ws : List (Str × V)}, IsFs K H fs ws → (∀ d, lk fs f = some d → ∃ v, ws.lookup (SX.S f) = some v ∧ IsV K H d v) ∧ (lk fs f = none → ws.lookup (SX.S f) = none)
  | [], _, h => by
    rw [show _ = [] from h]
    exact ⟨fun d e => (by cases e), fun _ => rfl⟩
  | (g, d) :: r, _, ⟨v, t, e, h, z⟩ => by
    subst e
    obtain ⟨i1, i2⟩ := isFs_lk (f := f) z
    by_cases q : f = g
    · subst q
      have e1 : lk ((f, d) :: r) f = some d := by simp [lk, List.lookup]
      have e2 : List.lookup (SX.S f) ((SX.S f, v) :: t) = some v := by simp [List.lookup]
      refine ⟨fun d' e => ?_, fun e => by rw [e1] at e; cases e⟩
      rw [e1] at e
      cases e
      exact ⟨v, e2, h⟩
    · have b1 : (f == g) = false := by simpa using q
      have b2 : (SX.S f == SX.S g) = false := by
        rw [beq_eq_false_iff_ne]
        exact fun e => q (SX.S_inj e)
      have e1 : lk ((g, d) :: r) f = lk r f := by simp [lk, List.lookup, b1]
      have e2 : List.lookup (SX.S f) ((SX.S g, v) :: t) = List.lookup (SX.S f) t := by simp [List.lookup, b2]
      rw [e1, e2]
      exact ⟨i1, i2⟩
theorem isFs_put {f : List Nat} {d : D} {v : V} (hd : IsV K H d v) : ∀ {fs : List (List Nat × D)} {ws : List (Str × V)}, IsFs K H fs ws → IsFs K H (putF f d fs) (L2.putF (SX.S f) v ws)
  | [], _, h => by
    rw [show _ = [] from h]
    exact ⟨v, [], rfl, hd, rfl⟩
  | (g, x) :: r, _, ⟨w, t, e, h, z⟩ => by
    subst e
    unfold putF L2.putF
    by_cases q : g = f
    · subst q
      rw [if_pos rfl, if_pos rfl]
      exact ⟨v, t, rfl, hd, z⟩
    · have q2 : ¬ SX.S g = SX.S f := fun e => q (SX.S_inj e)
      rw [if_neg q, if_neg q2]
      exact ⟨w, _, rfl, h, isFs_put hd z⟩
theorem isFs_len : ∀ {fs : List (List Nat × D)} {ws : List (Str × V)}, IsFs K H fs ws → ws.length = fs.length
  | [], _, h => by
    rw [show _ = [] from h]
    rfl
  | _ :: _, _, ⟨_, _, e, _, z⟩ => by
    subst e
    exact congrArg (· + 1) (isFs_len z)
end
/-- o.m(..), told as the rules of methods ask it -/
theorem meth_eval {o : Expr} (h : baseE o = true) (m : Str) {apos pos : Pos} {args : List Expr} (hp : args.all plainE = true) (h30 : args.length < 30) (hl : (apos.endLine == pos.line) = true) (env : Env) : eval (.Call (.Attribute o m apos) args [] pos) env = (do
      let ov ← eval o env
      standAt apos.atName
      let (f, first) ← holding [ov] (getMethod ov m (do return (← importBound o env).getD true))
      callWith pos f first (backTo pos (starEach args env)) (backToKw pos (keywordEach [] env))) := by
  have hf : methodCallForm (args.length + ([] : List Keyword).length) (backTo pos (starEach args env)) (backToKw pos (keywordEach [] env)) = true := plain_few hp h30 pos env
  show (do
    let ov ← attributeBase o m env (eval o env)
    standAt apos.atName
    methodCall o m apos pos env ov (args.length + ([] : List Keyword).length) (backTo pos (starEach args env)) (backToKw pos (keywordEach [] env))) = _
  rw [base_ok h]
  unfold methodCall calleeOf methodCallPos
  rw [hf, hl]
  rfl
section
variable {cl : Nat → Addr} {c : Ctx} {Γ : En} {k : Nat} {W : WX} {sc : Scope} {X : Cx}
theorem pe_fldD (G : Good cl c Γ k W sc X) {o : Expr} {f : Str} {p : Pos} {to : Rd D} (hb : baseE o = true) (ho : PEl cl W X o to) :
    PEl cl W X (.Attribute o f p) fun E σ m k => to E σ m fun x m1 => ∃ a c fs v, x = .ref a ∧ m1 a = some (.ins c fs) ∧ lk fs f.cps.toList = some v ∧ Γ.fk c f.cps.toList = true ∧ k v m1 := by
  refine pe_imp (L2.pe_fld ho (base_ok hb f X.env _)) fun σ H Q q => ?_
  refine Lift.then_ (S := RV X.K) (u := fun x E σ m1 k => ∃ a c fs v, x = .ref a ∧ m1 a = some (.ins c fs) ∧ lk fs f.cps.toList = some v ∧ Γ.fk c f.cps.toList = true ∧ k v m1) q fun x v H1 k1 s1 l1 => ?_
  obtain ⟨σ', m, k', E, hs, hr, ⟨a, C, fs, d, e, ea, el, fk, ht⟩, pp⟩ := l1
  subst e
  cases s1
  obtain ⟨dx, ws, z, l⟩ := hr a _ ea
  obtain ⟨w, e1, e2⟩ := (isFs_lk (f := f.cps.toList) l).1 d el
  obtain ⟨g1, g2⟩ := G.fld C _ fk
  rw [SX.S_tl] at e1 g2
  exact ⟨a, cl C, dx, ws, w, rfl, z, g1, g2, e1, pp.ok _ _ _ _ ht e2 hr (Ext.refl _ _)⟩
theorem pe_mthD (G : Good cl c Γ k W sc X) {o e : Expr} {es : List Expr} {m : Str} {p pos : Pos} {to : Rd D} {t : Rd (List D)} {C n : Nat} (hb : baseE o = true) (hl : (p.endLine == pos.line) = true) (hm : c.mth.lookup (rk o, m) = some (C, n)) (hn : (e :: es).length = n) (h30 : n < 30) (hp : (e :: es).all plainE = true) (ho : PEl cl W X o to) (h : PAl cl W X (e :: es) t) :
    PEl cl W X (.Call (.Attribute o m p) (e :: es) [] pos) fun E σ mm k => to E σ mm fun x m1 => ∃ a fs, x = .ref a ∧ m1 a = some (.ins C fs) ∧ lk fs m.cps.toList = none ∧ t E σ m1 fun ds m2 => Γ.mt C m.cps.toList (.ref a :: ds) m2 k (E σ) := by
  obtain ⟨j, f, fd, ps, hj, hc, hmt, F, hbi⟩ := (G.mth _ _ _ _ hm).ex
  have hev := meth_eval hb m hp (by rw [hn]; exact h30) hl X.env
  rw [List.all_cons, Bool.and_eq_true] at hp
  have st := plain_star hp.1 es X.env
  have an := plain_any hp.2 pos X.env
  refine ⟨fun pins s σ H Q I q => ?_⟩
  refine PySem.W.methodCall_KW (L2.thn (ho.run pins s σ H (fun v H1 => ∃ x, IsV X.K H1 x v ∧ Lift cl X.K W (RV X.K) (fun E σ m1 k => ∃ a fs, x = .ref a ∧ m1 a = some (.ins C fs) ∧ lk fs m.cps.toList = none ∧ t E σ m1 fun ds m2 => Γ.mt C m.cps.toList (.ref a :: ds) m2 k (E σ)) σ H1 Q) I
    (Lift.then_ (S := RV X.K) (u := fun x E σ m1 k => ∃ a fs, x = .ref a ∧ m1 a = some (.ins C fs) ∧ lk fs m.cps.toList = none ∧ t E σ m1 fun ds m2 => Γ.mt C m.cps.toList (.ref a :: ds) m2 k (E σ)) q fun x v H1 k1 s1 l1 => ⟨x, s1, l1⟩)) ?_) hev
  rintro u s1 ⟨v, H1, I1, rv, x, hx, l1⟩
  obtain ⟨σ', mm, k', E, hs, hr, ⟨a, fs, e0, ea, el, ht⟩, pp⟩ := l1
  subst e0
  cases hx
  obtain rfl : u = Value.ref a := rv
  obtain ⟨dx, ws, z, l⟩ := hr a _ ea
  have el2 := (isFs_lk (f := m.cps.toList) l).2 el
  rw [SX.S_tl] at el2
  refine L2.getmeth_ok I1 z hc hmt el2 ?_
  refine PySem.W.callWith_K (first := [.ref a]) (h₀ := X.base) I.ok.mod.kin hmt.kp (L2.thn (h.run pos pins s1 σ H1 (fun vs H2 => ∃ ds m2, RN X.K (e :: es).length H2 ds vs ∧ Rep cl X.K H2 m2 ∧ Ext H1 mm H2 m2 ∧ Γ.mt C m.cps.toList (.ref a :: ds) m2 k' (E σ')) I1
    ⟨σ', mm, _, E, hs, hr, ht, ⟨fun ds m2 vs H2 z s r e => ⟨ds, m2, s, r, e, z⟩, pp.ex⟩⟩) ?_) st an
  rintro us s2 ⟨vs, H2, I2, r2, ds, m2, hn2, hr2, he2, ht2⟩
  refine ⟨I2.kIn, ?_⟩
  refine L2.Fi.run_fnD (us := .ref a :: us) (vs := .ref a :: vs) (E := fun σ cls d H => W cls d σ H) F ((G.room (G.coolM hm)).mono hj) hbi (L2.passAt G.tk σ) I2 (.cons rfl r2) ?_
  refine ⟨.ref a :: ds, m2, k', E σ', by rw [List.length_cons, hn2.1, hn], ⟨.ref a, vs, rfl, rfl, hn2.2⟩, hr2, ht2, fun d m3 v H3 a b c e => pp.ok d m3 v H3 a b c (he2.trans e), fun ex m3 cls dd H3 a b c e => ?_⟩
  exact pp.ex.ex σ' σ ex m3 cls dd H3 a ((hs.kp (hr.kp he2)).kp (hr2.kp e)) b c (he2.trans e)
theorem pe_mth0D (G : Good cl c Γ k W sc X) {o : Expr} {m : Str} {p pos : Pos} {to : Rd D} {C : Nat} (hb : baseE o = true) (hl : (p.endLine == pos.line) = true) (hm : c.mth.lookup (rk o, m) = some (C, 0)) (ho : PEl cl W X o to) :
    PEl cl W X (.Call (.Attribute o m p) [] [] pos) fun E σ mm k => to E σ mm fun x m1 => ∃ a fs, x = .ref a ∧ m1 a = some (.ins C fs) ∧ lk fs m.cps.toList = none ∧ Γ.mt C m.cps.toList [.ref a] m1 k (E σ) := by
  obtain ⟨j, f, fd, ps, hj, hc, hmt, F, hbi⟩ := (G.mth _ _ _ _ hm).ex
  have hev := meth_eval hb m (args := []) rfl (by decide) hl X.env
  refine ⟨fun pins s σ H Q I q => ?_⟩
  refine PySem.W.methodCall_KW (L2.thn (ho.run pins s σ H (fun v H1 => ∃ x, IsV X.K H1 x v ∧ Lift cl X.K W (RV X.K) (fun E σ m1 k => ∃ a fs, x = .ref a ∧ m1 a = some (.ins C fs) ∧ lk fs m.cps.toList = none ∧ Γ.mt C m.cps.toList [.ref a] m1 k (E σ)) σ H1 Q) I
    (Lift.then_ (S := RV X.K) (u := fun x E σ m1 k => ∃ a fs, x = .ref a ∧ m1 a = some (.ins C fs) ∧ lk fs m.cps.toList = none ∧ Γ.mt C m.cps.toList [.ref a] m1 k (E σ)) q fun x v H1 k1 s1 l1 => ⟨x, s1, l1⟩)) ?_) hev
  rintro u s1 ⟨v, H1, I1, rv, x, hx, l1⟩
  obtain ⟨σ', mm, k', E, hs, hr, ⟨a, fs, e0, ea, el, ht⟩, pp⟩ := l1
  subst e0
  cases hx
  obtain rfl : u = Value.ref a := rv
  obtain ⟨dx, ws, z, l⟩ := hr a _ ea
  have el2 := (isFs_lk (f := m.cps.toList) l).2 el
  rw [SX.S_tl] at el2
  refine L2.getmeth_ok I1 z hc hmt el2 ?_
  refine PySem.W.callWith_K0 (first := [.ref a]) I1.kIn hmt.kp (L2.Fi.run_fnD (us := [.ref a]) (vs := [.ref a]) (E := fun σ cls d H => W cls d σ H) F ((G.room (G.coolM hm)).mono hj) hbi (L2.passAt G.tk σ) I1 (.cons rfl .nil) ?_)
  refine ⟨[.ref a], mm, k', E σ', rfl, ⟨.ref a, [], rfl, rfl, rfl⟩, hr, ht, pp.ok, fun ex m3 cls dd H3 a b c e => ?_⟩
  exact pp.ex.ex σ' σ ex m3 cls dd H3 a (hs.kp (hr.kp e)) b c e
/-- an own def without arguments -/
theorem pe_call0D (G : Good cl c Γ k W sc X) {x : Str} {p pos : Pos} {f : Nat} (hg : isGl sc x = true) (ho : c.own.lookup x = some (f, 0)) :
    PEl cl W X (.Call (.Name x p) [] [] pos) fun E σ m k => Γ.fn f [] m k (E σ) := by
  obtain ⟨g1, g2, g3⟩ := isGl_ok G hg
  obtain ⟨j, a, fd, ps, hj, F, hm, hk, hb⟩ := (G.own x f 0 ho).ex
  refine ⟨fun pins s σ H Q I q => ?_⟩
  obtain ⟨σ', mm, k', E, hs, hr, ht, pp⟩ := q
  refine wpAny_Call_Name_kw (L2.ld_glob I g1 hm ?_ g2)
  refine PySem.W.callWith_K0 I.kIn hk (L2.Fi.run_fnD (us := []) (vs := []) (E := fun σ cls d H => W cls d σ H) F ((G.room (G.coolO ho)).mono hj) hb (L2.passAt G.tk σ) I .nil ?_)
  refine ⟨[], mm, k', E σ', rfl, rfl, hr, ht, pp.ok, fun ex m3 cls dd H3 a b c e => ?_⟩
  exact pp.ex.ex σ' σ ex m3 cls dd H3 a (hs.kp (hr.kp e)) b c e
theorem run_makeS {pins : List (Addr × Obj)} {σ : L2.St} {H : Hp} {s : Shared} {Q : V → Hp → Prop} {us : List Value} {vs : List V} {C f : Addr} {j : Nat} {fd : FuncData} {ps : List Str} {sp : L2.Sp} {E : L2.XK} (M : L2.Mk X.K C f) (F : L2.Fi.FnD X.prog X.w X.K X.mg X.base (L2.CX X.prog X.w) j f fd ps sp) (hr : L2.Fi.RoomF (j + 1) X.A) (hb : L2.Binds X.K fd ps [])
    (hx : L2.PassesAt (L2.CX X.prog X.w) X σ E) (I : Inv X pins σ H s) (r : Vals vs us)
    (h : ∀ x dx, H x = none → H dx = none → dx ≠ x → sp (.ref x :: vs) (L2.upd (L2.upd H dx (.own x)) x (.ins C dx [])) (fun v H2 => v = .non ∧ Q (.ref x) H2) E) :
    wpAny (model X.prog X.w) X.A (call (.ref C) us) (L2.EP X pins σ Q) X.xe s := by
  have hq := h (s.heap.objs.size + 1) s.heap.objs.size (I.hok.fresh (Nat.le_succ _)) (I.hok.fresh (Nat.le_refl _)) (Nat.ne_of_lt (Nat.lt_succ_self _))
  have I2 := L2.Inv.made (C := C) I
  have r2 : Vals (V.ref (s.heap.objs.size + 1) :: vs) (Value.ref (s.heap.objs.size + 1) :: us) := .cons rfl r
  have hl : (Value.ref (s.heap.objs.size + 1) :: us).length = ps.length := by
    rw [← r2.length]
    exact F.len _ _ _ _ hq
  have bt := hb _ (Value.ref (s.heap.objs.size + 1) :: us) I2.kIn (by rw [List.append_nil]; exact hl)
  rw [List.append_nil] at bt
  refine wpAny_call (L2.make_map (f := f) I.kIn M.makes M.init (beq_iff_eq.mp M.fn) (codeAny_mono (F.run _ X.stack _ _ ⟨Value.ref (s.heap.objs.size + 1) :: us, []⟩ (Value.ref (s.heap.objs.size + 1) :: us) _ _ E (hr.make C us [])
    (I2.env0.make C us []) bt r2 hq) fun q s' hq' => ?_))
  cases q with
  | error e => exact hx pins _ _ e s' I2 hq'
  | ok fl =>
    cases fl with
    | ret u =>
      obtain ⟨v, H', I3, rv, ev, q3⟩ := I2.after hq'
      subst ev
      exact ⟨rv, ⟨V.ref (s.heap.objs.size + 1), H', I3, rfl, q3⟩⟩
    | next => exact False.elim hq'
    | brk => exact False.elim hq'
    | cont => exact False.elim hq'
/-- what C(..) asks of __init__ -/
theorem make_at {C : Nat} {sp : Sp} {ds : List D} {m : Mem} {k : Kt} {E : XK} {σ' : St} {σv : L2.St} {H : Hp} {vs : List V} {Q : V → Hp → Prop} {n : Nat} (hn : ds.length = n) (hv : IsL X.K H ds vs) (hs : StR X.K H σv σ') (hr : Rep cl X.K H m) (ht : ∀ p, m p = none → sp (.ref p :: ds) (upd m p (.ins C [])) (fun d m2 => d = .non ∧ k (.ref p) m2) (E σ'))
    (ok : ∀ d m' v H', k d m' → IsV X.K H' d v → Rep cl X.K H' m' → Ext H m H' m' → Q v H') (ex : PostX cl X.K W H m E) (x dx : Addr) (hx : H x = none) (hdx : H dx = none) (hne : dx ≠ x) :
    Lsp cl X.K (n + 1) sp (.ref x :: vs) (L2.upd (L2.upd H dx (.own x)) x (.ins (cl C) dx [])) (fun v H2 => v = .non ∧ Q (.ref x) H2) (fun cls d H => W cls d σv H) := by
  have hx1 : L2.upd H dx (.own x) x = none := by rw [L2.upd_ne (Ne.symm hne)]; exact hx
  have k1 : Kp H (L2.upd H dx (.own x)) := kp_new hdx
  have k2 : Kp H (L2.upd (L2.upd H dx (.own x)) x (.ins (cl C) dx [])) := k1.trans (kp_new hx1)
  have r1 : Rep cl X.K (L2.upd H dx (.own x)) m := hr.hid hdx
  have r2 : Rep cl X.K (L2.upd (L2.upd H dx (.own x)) x (.ins (cl C) dx [])) (upd m x (.ins C [])) := r1.new hx1 ⟨dx, [], L2.upd_same, rfl⟩
  have e2 : Ext H m (L2.upd (L2.upd H dx (.own x)) x (.ins (cl C) dx [])) (upd m x (.ins C [])) := (Ext.hid hdx).trans (Ext.tell hx1)
  refine ⟨.ref x :: ds, upd m x (.ins C []), _, E σ', by rw [List.length_cons, hn], ⟨.ref x, vs, rfl, rfl, hv.kp k2⟩, r2, ht x (hr.free hx), ?_, ?_⟩
  · rintro d m' v H' ⟨rfl, z⟩ hd hr' e
    cases hd
    exact ⟨rfl, ok _ _ _ _ z rfl hr' (e2.trans e)⟩
  · intro ee m' cls dd H' z hx' hr' e
    exact ex.ex σ' σv ee m' cls dd H' z (hs.kp (k2.trans (r2.kp e))) hx' hr' (e2.trans e)
theorem pe_newD (G : Good cl c Γ k W sc X) {x : Str} {e : Expr} {es : List Expr} {t : Rd (List D)} {p pos : Pos} {C n : Nat} (hg : isGl sc x = true) (ho : c.cls.lookup x = some (C, n)) (hn : (e :: es).length = n) (hp : (e :: es).all plainE = true) (h : PAl cl W X (e :: es) t) :
    PEl cl W X (.Call (.Name x p) (e :: es) [] pos) fun E σ m k => t E σ m fun ds m1 => ∀ p, m1 p = none → Γ.ini C (.ref p :: ds) (upd m1 p (.ins C [])) (fun d m2 => d = .non ∧ k (.ref p) m2) (E σ) := by
  obtain ⟨g1, g2, g3⟩ := isGl_ok G hg
  obtain ⟨j, f, fd, ps, hj, M, hm, F, hb⟩ := (G.cls x C n ho).ex
  rw [List.all_cons, Bool.and_eq_true] at hp
  refine ⟨fun pins s σ H Q I q => ?_⟩
  obtain ⟨σ', mm, k', E, hs, hr, ht, pp⟩ := q
  refine wpAny_Call_Name_kw (L2.ld_glob I g1 hm ?_ g2)
  refine PySem.W.callWith_K (h₀ := X.base) I.ok.mod.kin M.kp (L2.thn (h.run pos pins s σ H (fun vs H2 => ∃ ds m2, RN X.K (e :: es).length H2 ds vs ∧ Rep cl X.K H2 m2 ∧ Ext H mm H2 m2 ∧ ∀ p, m2 p = none → Γ.ini C (.ref p :: ds) (upd m2 p (.ins C [])) (fun d m3 => d = .non ∧ k' (.ref p) m3) (E σ')) I
    ⟨σ', mm, _, E, hs, hr, ht, ⟨fun ds m2 vs H2 z s r e => ⟨ds, m2, s, r, e, z⟩, pp.ex⟩⟩) ?_) (plain_star hp.1 es X.env) (plain_any hp.2 pos X.env)
  rintro us s2 ⟨vs, H2, I2, r2, ds, m2, hn2, hr2, he2, ht2⟩
  refine ⟨I2.kIn, run_makeS (us := us) (vs := vs) (E := fun cls d H => W cls d σ H) M F ((G.room (G.coolC ho)).mono hj) hb (L2.passAt G.tk σ) I2 r2 fun x dx hx hdx hne => ?_⟩
  exact make_at (hn2.1.trans hn) hn2.2 (hs.kp (hr.kp he2)) hr2 ht2 (fun d m' v H' a b c e => pp.ok d m' v H' a b c (he2.trans e)) (pp.ex.step he2) x dx hx hdx hne
theorem pe_new0D (G : Good cl c Γ k W sc X) {x : Str} {p pos : Pos} {C : Nat} (hg : isGl sc x = true) (ho : c.cls.lookup x = some (C, 0)) :
    PEl cl W X (.Call (.Name x p) [] [] pos) fun E σ m k => ∀ p, m p = none → Γ.ini C [.ref p] (upd m p (.ins C [])) (fun d m2 => d = .non ∧ k (.ref p) m2) (E σ) := by
  obtain ⟨g1, g2, g3⟩ := isGl_ok G hg
  obtain ⟨j, f, fd, ps, hj, M, hm, F, hb⟩ := (G.cls x C 0 ho).ex
  refine ⟨fun pins s σ H Q I q => ?_⟩
  obtain ⟨σ', mm, k', E, hs, hr, ht, pp⟩ := q
  refine wpAny_Call_Name_kw (L2.ld_glob I g1 hm ?_ g2)
  refine PySem.W.callWith_K0 I.kIn M.kp (run_makeS (us := []) (vs := []) (E := fun cls d H => W cls d σ H) M F ((G.room (G.coolC ho)).mono hj) hb (L2.passAt G.tk σ) I .nil fun x dx hx hdx hne => ?_)
  exact make_at (ds := []) rfl rfl hs hr ht pp.ok pp.ex x dx hx hdx hne
end
end DL

namespace DL
open PySem PySem.Spec PyProof.Rows
open L2 (V Hp HO SqL SqT TE TT TA TS TG TGs Cx Inv PE PT PW PA PS PSs PG PGs RelV Vals WX OpR UnR CallR IxR SlR MtR It TI PI)
section
variable {prog : Program} {w : World} {A : Around} {E : Value → Shared → Prop} {s : Shared}
theorem sliceApplied_r4 {sl : Addr} {vl vu vs : Value} {Q : Int × Int × Nat → Shared → Prop} (hs : s.heap.IsSliceOf sl vl vu vs) (pl : IsPart vl none) (pu : IsPart vu (some 1)) (ps : IsPart vs (some (-1)))
    (h : Q (3, -1, 2) s) : wpAny (model prog w) A (Builtin.Slice.sliceApplied (.ref sl) (pure (4 : Int))) Q E s := by
  obtain ⟨os, hos, hcs, hds⟩ := id hs
  unfold Builtin.Slice.sliceApplied Builtin.Slice.sliceFields
  refine wpAny_bind (wpAny_bind (wpAny_field hos hds (x := vl) rfl (wpAny_bind (wpAny_field hos hds (x := vu) rfl (wpAny_bind (wpAny_field hos hds (x := vs) rfl (wpAny_pure ?_)))))))
  refine wpAny_bind (HT.slicePart_ ps ?_)
  show wpAny _ _ (if ((-1 : Int) == 0) = true then _ else _) _ _ s
  rw [if_neg (by decide)]
  refine wpAny_bind (HT.slicePart_ pl (wpAny_bind (HT.slicePart_ pu (wpAny_bind (wpAny_pure ?_)))))
  show wpAny _ _ (pure ((3 : Int), (-1 : Int), 2)) _ _ s
  exact wpAny_pure h
theorem getItem_tuple_r4 {t sl : Addr} {a b c d : Value} {vl vu vs : Value} {Q : Value → Shared → Prop} (ht : IsTup s.heap t #[a, b, c, d]) (hs : s.heap.IsSliceOf sl vl vu vs) (pl : IsPart vl none) (pu : IsPart vu (some 1)) (ps : IsPart vs (some (-1)))
    (h : Q (.ref s.heap.objs.size) { s with heap := s.heap.push { cls := .type "tuple", data := .seq #[d, c] } }) : wpAny (model prog w) A (getItem (.ref t) (.ref sl)) Q E s := by
  obtain ⟨os, hos, hcs, hds⟩ := id hs
  have htake : sizeOk (.seq #[d, c]) := by
    show 2 ≤ sizeLine
    decide
  have hTs : s.TypeIs (.ref sl) "slice" := ⟨os, hos, hcs⟩
  unfold getItem
  try with_reducible refine wpAny_holding ?_
  first | refine wpAny_bind (wpAny_pure ?_) | skip
  refine wpAny_bind (wpAny_sequenceKey ht.typeIs (by decide) ?_)
  refine wpAny_bind (wpAny_callSpecial?_slot (name := Str.ofString "__getitem__") ht.typeIs PyProof.Rows.slot_tuple_getitem
    (wpAny_call_entry PyProof.Rows.slot_tuple_getitem ht.typeIs entry_tuple_getitem ?_ (args_tuple_getitem _ _)))
  show wpAny _ _ (Builtin.Tuple.tupleItemsOf (.ref t) >>= _) _ _ s
  refine wpAny_bind (tupleItemsOf_ ht ?_)
  refine wpAny_bind (wpAny_typeOf hTs ?_)
  rw [if_pos (by decide)]
  refine wpAny_bind (sliceApplied_r4 hs pl pu ps ?_)
  show wpAny _ _ (if ((3 : Int) == 0 && (-1 : Int) == 1 && (2 : Nat) == 4) = true then _ else _) _ _ s
  rw [if_neg (by decide)]
  have e : ((List.range 2).filterMap fun (m : Nat) => (#[a, b, c, d] : Array Value)[((3 : Int) + (m : Int) * (-1)).toNat]?).toArray = #[d, c] := rfl
  rw [e]
  first
    | exact wpAny_bind (m := Builtin.Tuple.tupleExact _) (wpAny_newObj_type (wpAny_pure ⟨_, rfl, wpAny_pure h⟩) htake)
    | exact wpAny_bind (m := Builtin.Tuple.tupleExact _) (wpAny_newObj_type (wpAny_bind (wpAny_pure (wpAny_pure ⟨_, rfl, wpAny_pure h⟩))) htake)
    | exact wpAny_bind (wpAny_bind (m := Builtin.Tuple.tupleExact _) (wpAny_newObj_type (wpAny_pure (wpAny_pure ⟨_, rfl, wpAny_pure h⟩)) htake))
    | exact wpAny_bind (wpAny_bind (m := Builtin.Tuple.tupleExact _) (wpAny_newObj_type (wpAny_pure ⟨_, rfl, wpAny_pure h⟩) htake))
end
def tR4 (K : PySem.W.Frag) (te : TE) : TE := fun σ H Q => te σ H fun x H1 => ∃ t a b c d, x = .ref t ∧ SqT K H1 t [a, b, c, d] ∧ ∀ p, H1 p = none → Q (.ref p) (L2.upd H1 p (.tup [d, c]))
theorem pe_r4 {X : Cx} {e : Expr} {te : TE} {k j : Nat} {p0 p1 p2 p3 pos : Pos} (he : PE X e te) : PE X (.Subscript e (.Slice none (some (.Constant (.int 1) j p0)) (some (.UnaryOp .USub (.Constant (.int 1) k p1) p2)) p3) pos) (tR4 X.K te) := by
  refine ⟨fun pins s σ H Q I h => ?_⟩
  refine Subscript_ (L2.thn (he.run pins s σ H _ I h) fun v s1 ⟨x, H1, I1, r1, q1⟩ => ?_)
  obtain ⟨t, a, b, c, d, ex, hx, q⟩ := q1
  subst ex
  cases r1
  have hup : L2.PO X (some (.Constant (.int 1) j p0)) (L2.tPart (L2.tC (.int 1))) := L2.po_some L2.pe_int
  have hst : L2.PO X (some (.UnaryOp .USub (.Constant (.int 1) k p1) p2)) (L2.tPart (L2.tUn (L2.rU fun i => .int (-i)) (L2.tC (.int 1)))) := L2.po_some (L2.pe_un L2.un_neg L2.pe_int)
  refine wpAny_Slice (L2.thn (L2.po_none.run pins s1 σ H1 (fun o H2 => o = none ∧ H2 = H1) I1 ⟨rfl, rfl⟩) fun vl s2 ⟨l, H2, I2, pl, el, e2⟩ => ?_)
  subst el e2
  refine L2.thn (hup.run pins s2 σ H2 (fun o H3 => o = some 1 ∧ H3 = H2) I2 ⟨1, rfl, rfl, rfl⟩) fun vu s3 ⟨u, H3, I3, pu, eu, e3⟩ => ?_
  subst eu e3
  refine L2.thn (hst.run pins s3 σ H3 (fun o H4 => o = some (-1) ∧ H4 = H3) I3 ⟨1, rfl, -1, rfl, rfl, rfl⟩) fun vs s4 ⟨o, H4, I4, ps, eo, e4⟩ => ?_
  subst eo e4
  have I5 : Inv X pins σ H4 { s4 with heap := s4.heap.push { cls := .type "slice", data := .fields #[vl, vu, vs] } } := I4.kept (t' := s4.toks) fun b ob q => Heap.get?_push_of_some _ q
  obtain ⟨its, r, ht, hz⟩ := I5.tuple hx
  obtain ⟨a', b', c', d', rfl, ra, rb, rc, rd⟩ : ∃ a' b' c' d', its = [a', b', c', d'] ∧ RelV a a' ∧ RelV b b' ∧ RelV c c' ∧ RelV d d' := by
    cases r with
    | cons r1 r =>
      cases r with
      | cons r2 r =>
        cases r with
        | cons r3 r =>
          cases r with
          | cons r4 r =>
            cases r
            exact ⟨_, _, _, _, rfl, r1, r2, r3, r4⟩
  show wpAny (model X.prog X.w) X.A (subscriptTail e (.Slice none (some (.Constant (.int 1) j p0)) (some (.UnaryOp .USub (.Constant (.int 1) k p1) p2)) p3) (.ref t) (.ref s4.heap.objs.size)) (L2.EP X pins σ Q) X.xe { s4 with heap := s4.heap.push { cls := .type "slice", data := .fields #[vl, vu, vs] } }
  refine tail_any (ops := [.ref t, .ref s4.heap.objs.size]) ht.typeIs (PyProof.Rows.slot_tuple_getitem.lookup) ?_ (by with_unfolding_all rfl)
  refine getItem_tuple_r4 ht (Heap.IsSliceOf.new _ vl vu vs) pl pu ps ?_
  refine ⟨.ref _, _, I5.laid (t' := s4.toks) (o := .tup [d, c]) (fun b ob q => Heap.get?_push_of_some _ q) (Nat.le_refl _) ?_, rfl, q _ (I5.hok.fresh (Nat.le_refl _))⟩
  exact ⟨by show 2 ≤ sizeLine; decide, _, .cons rd (.cons rc .nil), IsTup.new _ _⟩
section
variable {prog : Program} {w : World} {A : Around} {E : Value → Shared → Prop} {s : Shared}
theorem sliceApplied_rv {sl : Addr} {vl vu vs : Value} {n : Nat} {Q : Int × Int × Nat → Shared → Prop} (hs : s.heap.IsSliceOf sl vl vu vs) (pl : IsPart vl none) (pu : IsPart vu none) (ps : IsPart vs (some (-1)))
    (h : Q ((n : Int) - 1, -1, n) s) : wpAny (model prog w) A (Builtin.Slice.sliceApplied (.ref sl) (pure (n : Int))) Q E s := by
  obtain ⟨os, hos, hcs, hds⟩ := id hs
  unfold Builtin.Slice.sliceApplied Builtin.Slice.sliceFields
  refine wpAny_bind (wpAny_bind (wpAny_field hos hds (x := vl) rfl (wpAny_bind (wpAny_field hos hds (x := vu) rfl (wpAny_bind (wpAny_field hos hds (x := vs) rfl (wpAny_pure ?_)))))))
  refine wpAny_bind (HT.slicePart_ ps ?_)
  show wpAny _ _ (if ((-1 : Int) == 0) = true then _ else _) _ _ s
  rw [if_neg (by decide)]
  refine wpAny_bind (HT.slicePart_ pl (wpAny_bind (HT.slicePart_ pu (wpAny_bind (wpAny_pure ?_)))))
  have e : Builtin.Slice.slicePlaces ((n : Int) - 1) (-1) (-1) = n := by
    unfold Builtin.Slice.slicePlaces
    rw [if_neg (by decide)]
    by_cases h0 : (n : Int) - 1 > -1
    · rw [if_pos h0, show (- -1 : Int) = 1 by decide, Int.ediv_one]
      omega
    · rw [if_neg h0]
      omega
  show wpAny _ _ (pure ((n : Int) - 1, (-1 : Int), Builtin.Slice.slicePlaces ((n : Int) - 1) (-1) (-1))) _ _ s
  rw [e]
  exact wpAny_pure h
theorem fm_congr {α β : Type} {f g : α → Option β} : ∀ {l : List α}, (∀ a ∈ l, f a = g a) → l.filterMap f = l.filterMap g
  | [], _ => rfl
  | a :: l, h => by
    rw [List.filterMap_cons, List.filterMap_cons, h a List.mem_cons_self, fm_congr fun x hx => h x (List.mem_cons_of_mem _ hx)]
theorem rv_items (its : List Value) : ((List.range its.toArray.size).filterMap fun (m : Nat) => its.toArray[(((its.toArray.size : Nat) : Int) - 1 + (m : Int) * (-1)).toNat]?).toArray = its.reverse.toArray := by
  have h1 : ((List.range its.toArray.size).filterMap fun (m : Nat) => its.toArray[(((its.toArray.size : Nat) : Int) - 1 + (m : Int) * (-1)).toNat]?) = ((List.range its.toArray.size).map fun m => its.toArray.size - 1 - m).filterMap (its.toArray[·]?) := by
    rw [List.filterMap_map]
    refine fm_congr fun m hm => ?_
    have := List.mem_range.mp hm
    have e : (((its.toArray.size : Nat) : Int) - 1 + (m : Int) * (-1)).toNat = its.toArray.size - 1 - m := by omega
    show its.toArray[_]? = its.toArray[its.toArray.size - 1 - m]?
    rw [e]
  rw [h1, PySem.W.krv_range, List.filterMap_reverse, PySem.W.krv_all]
theorem getItem_tuple_rv {t sl : Addr} {its : List Value} {vl vu vs : Value} {Q : Value → Shared → Prop} (ht : IsTup s.heap t its.toArray) (hz : its.length ≤ sizeLine) (hs : s.heap.IsSliceOf sl vl vu vs) (pl : IsPart vl none) (pu : IsPart vu none) (ps : IsPart vs (some (-1)))
    (h : Q (.ref s.heap.objs.size) { s with heap := s.heap.push { cls := .type "tuple", data := .seq its.reverse.toArray } }) : wpAny (model prog w) A (getItem (.ref t) (.ref sl)) Q E s := by
  obtain ⟨os, hos, hcs, hds⟩ := id hs
  have htake : sizeOk (.seq its.reverse.toArray) := by
    show its.reverse.toArray.size ≤ sizeLine
    rw [List.size_toArray, List.length_reverse]
    exact hz
  have hTs : s.TypeIs (.ref sl) "slice" := ⟨os, hos, hcs⟩
  unfold getItem
  try with_reducible refine wpAny_holding ?_
  first | refine wpAny_bind (wpAny_pure ?_) | skip
  refine wpAny_bind (wpAny_sequenceKey ht.typeIs (by decide) ?_)
  refine wpAny_bind (wpAny_callSpecial?_slot (name := Str.ofString "__getitem__") ht.typeIs PyProof.Rows.slot_tuple_getitem
    (wpAny_call_entry PyProof.Rows.slot_tuple_getitem ht.typeIs entry_tuple_getitem ?_ (args_tuple_getitem _ _)))
  show wpAny _ _ (Builtin.Tuple.tupleItemsOf (.ref t) >>= _) _ _ s
  refine wpAny_bind (tupleItemsOf_ ht ?_)
  refine wpAny_bind (wpAny_typeOf hTs ?_)
  rw [if_pos (by decide)]
  refine wpAny_bind (sliceApplied_rv hs pl pu ps ?_)
  show wpAny _ _ (if ((((its.toArray.size : Nat) : Int) - 1) == 0 && (-1 : Int) == 1 && its.toArray.size == its.toArray.size) = true then _ else _) _ _ s
  rw [show ((-1 : Int) == 1) = false from rfl, Bool.and_false, Bool.false_and, if_neg Bool.false_ne_true, rv_items]
  first
    | exact wpAny_bind (m := Builtin.Tuple.tupleExact _) (wpAny_newObj_type (wpAny_pure ⟨_, rfl, wpAny_pure h⟩) htake)
    | exact wpAny_bind (m := Builtin.Tuple.tupleExact _) (wpAny_newObj_type (wpAny_bind (wpAny_pure (wpAny_pure ⟨_, rfl, wpAny_pure h⟩))) htake)
    | exact wpAny_bind (wpAny_bind (m := Builtin.Tuple.tupleExact _) (wpAny_newObj_type (wpAny_pure (wpAny_pure ⟨_, rfl, wpAny_pure h⟩)) htake))
    | exact wpAny_bind (wpAny_bind (m := Builtin.Tuple.tupleExact _) (wpAny_newObj_type (wpAny_pure ⟨_, rfl, wpAny_pure h⟩) htake))
end
/-- x[::-1] of a list or a tuple -/
def tRevA (K : PySem.W.Frag) (te : TE) : TE := fun σ H Q => te σ H fun x H1 => (∃ a xs, x = .ref a ∧ SqL K H1 a xs ∧ ∀ p, H1 p = none → Q (.ref p) (L2.upd H1 p (.lst xs.reverse))) ∨ ∃ a xs, x = .ref a ∧ SqT K H1 a xs ∧ ∀ p, H1 p = none → Q (.ref p) (L2.upd H1 p (.tup xs.reverse))
theorem pe_revA {X : Cx} {e : Expr} {te : TE} {k : Nat} {p1 p2 p3 pos : Pos} (he : PE X e te) : PE X (.Subscript e (.Slice none none (some (.UnaryOp .USub (.Constant (.int 1) k p1) p2)) p3) pos) (tRevA X.K te) := by
  refine ⟨fun pins s σ H Q I h => ?_⟩
  refine Subscript_ (L2.thn (he.run pins s σ H _ I h) fun v s1 ⟨x, H1, I1, r1, q1⟩ => ?_)
  have hst : L2.PO X (some (.UnaryOp .USub (.Constant (.int 1) k p1) p2)) (L2.tPart (L2.tUn (L2.rU fun i => .int (-i)) (L2.tC (.int 1)))) := L2.po_some (L2.pe_un L2.un_neg L2.pe_int)
  refine wpAny_Slice (L2.thn (L2.po_none.run pins s1 σ H1 (fun o H2 => o = none ∧ H2 = H1) I1 ⟨rfl, rfl⟩) fun vl s2 ⟨l, H2, I2, pl, el, e2⟩ => ?_)
  subst el e2
  refine L2.thn (L2.po_none.run pins s2 σ H2 (fun o H3 => o = none ∧ H3 = H2) I2 ⟨rfl, rfl⟩) fun vu s3 ⟨u, H3, I3, pu, eu, e3⟩ => ?_
  subst eu e3
  refine L2.thn (hst.run pins s3 σ H3 (fun o H4 => o = some (-1) ∧ H4 = H3) I3 ⟨1, rfl, -1, rfl, rfl, rfl⟩) fun vs s4 ⟨o, H4, I4, ps, eo, e4⟩ => ?_
  subst eo e4
  have I5 : Inv X pins σ H4 { s4 with heap := s4.heap.push { cls := .type "slice", data := .fields #[vl, vu, vs] } } := I4.kept (t' := s4.toks) fun b ob q => Heap.get?_push_of_some _ q
  rcases q1 with ⟨a, xs, ex, hx, q⟩ | ⟨a, xs, ex, hx, q⟩
  · subst ex
    cases r1
    obtain ⟨its, r, ht, hz⟩ := I5.list hx
    have hlen := r.length
    show wpAny (model X.prog X.w) X.A (subscriptTail e (.Slice none none (some (.UnaryOp .USub (.Constant (.int 1) k p1) p2)) p3) (.ref a) (.ref s4.heap.objs.size)) (L2.EP X pins σ Q) X.xe { s4 with heap := s4.heap.push { cls := .type "slice", data := .fields #[vl, vu, vs] } }
    refine tail_any (ops := [.ref a, .ref s4.heap.objs.size]) ht.isList.typeIs (PySem.slot_list_getitem.lookup) ?_ (by with_unfolding_all rfl)
    refine wpAny_getItem_list_slice ht.isList (Heap.IsSliceOf.new _ vl vu vs) pl pu ps (by decide) ?_ (by rw [List.size_toArray]; omega)
    rw [PySem.W.krv_pick]
    refine ⟨.ref _, _, I5.laid (t' := s4.toks) (o := .lst xs.reverse) (fun b ob q => Heap.get?_push_of_some _ q) (Nat.le_refl _) ?_, rfl, q _ (I5.hok.fresh (Nat.le_refl _))⟩
    exact ⟨by rw [List.length_reverse]; exact hz, _, 0, r.reverse, Heap.get?_push_size _ rfl⟩
  · subst ex
    cases r1
    obtain ⟨its, r, ht, hz⟩ := I5.tuple hx
    have hlen := r.length
    show wpAny (model X.prog X.w) X.A (subscriptTail e (.Slice none none (some (.UnaryOp .USub (.Constant (.int 1) k p1) p2)) p3) (.ref a) (.ref s4.heap.objs.size)) (L2.EP X pins σ Q) X.xe { s4 with heap := s4.heap.push { cls := .type "slice", data := .fields #[vl, vu, vs] } }
    refine tail_any (ops := [.ref a, .ref s4.heap.objs.size]) ht.typeIs (PyProof.Rows.slot_tuple_getitem.lookup) ?_ (by with_unfolding_all rfl)
    refine getItem_tuple_rv ht (by omega) (Heap.IsSliceOf.new _ vl vu vs) pl pu ps ?_
    refine ⟨.ref _, _, I5.laid (t' := s4.toks) (o := .tup xs.reverse) (fun b ob q => Heap.get?_push_of_some _ q) (Nat.le_refl _) ?_, rfl, q _ (I5.hok.fresh (Nat.le_refl _))⟩
    exact ⟨by rw [List.length_reverse]; exact hz, _, r.reverse, IsTup.new _ _⟩
theorem isL_rev {K : PySem.W.Frag} {H : Hp} : ∀ {ds : List D} {vs : List V}, IsL K H ds vs → IsL K H ds.reverse vs.reverse
  | [], _, h => by rw [show _ = [] from h]; rfl
  | d :: ds, _, ⟨v, t, e, h, z⟩ => by
    subst e
    rw [List.reverse_cons, List.reverse_cons]
    exact (isL_rev z).append ⟨v, [], rfl, h, rfl⟩
section
variable {cl : Nat → Addr} {c : Ctx} {Γ : En} {k : Nat} {W : WX} {sc : Scope} {X : Cx} {bv : Bool}
theorem pe_r4D {e : Expr} {ta : Rd D} {kk j : Nat} {p0 p1 p2 p3 pos : Pos} (ha : PEl cl W X e ta) : PEl cl W X (.Subscript e (.Slice none (some (.Constant (.int 1) j p0)) (some (.UnaryOp .USub (.Constant (.int 1) kk p1) p2)) p3) pos) fun E σ m k => ta E σ m fun x m1 => match tupS x with
    | some [_, _, c, d] => k (D.tup [d, c]) m1
    | _ => False := by
  refine pe_imp (pe_r4 ha) fun σ H Q q => ?_
  refine Lift.then_ (S := RV X.K) (u := fun x E σ m1 k => match tupS x with
    | some [_, _, c, d] => k (D.tup [d, c]) m1
    | _ => False) q fun x v H1 k1 s1 l1 => ?_
  obtain ⟨σ', m, k', E, hs, hr, ht, pp⟩ := l1
  split at ht
  · rename_i a b c d e1
    obtain ⟨t, vs, ev, tq, l⟩ := tupS_sq e1 s1
    obtain ⟨v1, r1, e2, l1, l⟩ := l
    obtain ⟨v2, r2, e3, l2, l⟩ := l
    obtain ⟨v3, v4, e4, l3, l4⟩ := isL2 l
    subst ev e2 e3 e4
    refine ⟨t, v1, v2, v3, v4, rfl, tq, fun p hp => ?_⟩
    have kp := kp_new (o := .tup [v4, v3]) hp
    exact pp.ok _ _ _ _ ht ⟨p, _, rfl, L2.upd_same, ⟨v4, _, rfl, l4.kp kp, v3, _, rfl, l3.kp kp, rfl⟩⟩ (hr.hid hp) (Ext.hid hp)
  · exact ht.elim
theorem pe_revD {e : Expr} {ta : Rd D} {kk : Nat} {p1 p2 p3 pos : Pos} (ha : PEl cl W X e ta) : PEl cl W X (.Subscript e (.Slice none none (some (.UnaryOp .USub (.Constant (.int 1) kk p1) p2)) p3) pos) fun E σ m k => ta E σ m fun x m1 => ∃ ds, (lstOf m1 x = some ds ∧ NewLv bv m1 ds.reverse k) ∨ (tupS x = some ds ∧ k (.tup ds.reverse) m1) := by
  refine pe_imp (pe_frz (pe_revA ha)) fun σ H Q q => ?_
  refine Lift.then_ (S := RV X.K) (u := fun x E σ m1 k => ∃ ds, (lstOf m1 x = some ds ∧ NewLv bv m1 ds.reverse k) ∨ (tupS x = some ds ∧ k (.tup ds.reverse) m1)) q fun x v H1 k1 s1 l1 => ?_
  obtain ⟨σ', m, k', E, hs, hr, ⟨ds, ⟨e1, ht⟩ | ⟨e1, ht⟩⟩, pp⟩ := l1
  · obtain ⟨a, vs, ev, sq, l⟩ := lstOf_is hr e1 s1
    subst ev
    exact .inl ⟨a, vs, rfl, sq, fun p hp => newL_ok ht.or hp (isL_rev l) hr (Ext.refl _ _) pp.ok⟩
  · obtain ⟨t, vs, ev, tq, l⟩ := tupS_sq e1 s1
    subst ev
    refine .inr ⟨t, vs, rfl, tq, fun p hp => ?_⟩
    have kp := kp_new (o := .tup vs.reverse) hp
    exact .inl (pp.ok _ _ _ _ ht ⟨p, _, rfl, L2.upd_same, isL_rev (l.kp kp)⟩ (hr.hid hp) (Ext.hid hp))
def kvOf : List (Option Expr) → List L2.Key
  | some (.Constant (.str x) _ _) :: r => .inr x :: kvOf r
  | _ => []
structure PPl (cl : Nat → Addr) (W : WX) (X : Cx) (pos : Pos) (keys : List (Option Expr)) (es : List Expr) (t : Rd (List D)) : Prop where
  ex : ∃ trs, L2.PPs X pos keys es trs ∧ ∀ (σ : L2.St) (H : Hp) (Q : List (V × V) → Hp → Prop), Lift cl X.K W (RN X.K es.length) t σ H (fun vs H' => Q (((kvOf keys).map L2.kV).zip vs) H') → L2.tPairs trs σ H Q
theorem ppl_nil {pos : Pos} : PPl cl W X pos [] [] fun _ _ m k => k [] m := ⟨[], L2.pps_nil, fun σ H Q q => by
  have := q.at0 (x := ([] : List D)) (v := ([] : List V)) (fun _ _ _ _ z => z) ⟨rfl, rfl⟩
  exact this⟩
theorem ppl_cons {pos p : Pos} {j : Nat} {x : Str} {keys : List (Option Expr)} {e : Expr} {es : List Expr} {t : Rd D} {u : Rd (List D)} (h : PEl cl W X e t) (hs : PPl cl W X pos keys es u) :
    PPl cl W X pos (some (.Constant (.str x) j p) :: keys) (e :: es) fun E σ m k => t E σ m fun d m1 => u E σ m1 fun ds m2 => k (d :: ds) m2 := by
  obtain ⟨trs, h1, h2⟩ := hs.ex
  refine ⟨_, L2.pps_cons (L2.pe_str (x := x)) h h1, fun σ H Q q => ?_⟩
  show Lift cl X.K W (RV X.K) t σ H fun y H2 => L2.tPairs trs σ H2 fun ps H3 => Q ((V.str x, y) :: ps) H3
  exact Lift.then_ (S := RV X.K) (u := fun d E σ m1 k => u E σ m1 fun ds m2 => k (d :: ds) m2) q fun d v H1 k1 s1 l1 => h2 _ _ _ (Lift.then_ (S := RN X.K es.length) (u := fun ds E σ m2 k => k (d :: ds) m2) l1 fun ds vs H2 k2 s2 l2 => l2.at0 (fun _ _ _ _ z => z) ⟨congrArg (· + 1) s2.1, v, vs, rfl, s1.kp k2, s2.2⟩)
theorem ks_zip {K : PySem.W.Frag} {H : Hp} : ∀ {keys : List (Option Expr)} {ks : List (List Nat)} {ds : List D} {vs : List V}, ksOf keys = some ks → ds.length = keys.length → IsL K H ds vs → IsKs K H ((ks.map D.str).zip ds) ((kvOf keys).zip vs)
  | [], ks, ds, vs, h, hl, hv => by
    cases h
    exact rfl
  | a :: r, ks, ds, vs, h, hl, hv => by
    unfold ksOf at h
    split at h
    · rename_i e
      cases e
    · rename_i x _ _ r' e
      cases e
      obtain ⟨kt, hk, rfl⟩ := Option.map_eq_some_iff.mp h
      cases ds with
      | nil => cases hl
      | cons d ds =>
        obtain ⟨v, vt, rfl, h1, h2⟩ := hv
        refine ⟨.inr x, v, (kvOf r).zip vt, rfl, ?_, h1, ks_zip hk (by simpa using hl) h2⟩
        show some (Sum.inr (SX.S x.cps.toList)) = some (Sum.inr x)
        rw [SX.S_tl]
    · cases h
theorem kv_len : ∀ {keys : List (Option Expr)}, (kvOf keys).length ≤ keys.length
  | [] => Nat.le_refl _
  | a :: r => by
    unfold kvOf
    split
    · rename_i e
      cases e
      have := kv_len (keys := r)
      simp only [List.length_cons]
      omega
    · exact Nat.zero_le _
theorem ks_some {keys : List (Option Expr)} {ks : List (List Nat)} (h : ksOf keys = some ks) : keys.all (·.isSome) = true := by
  induction keys generalizing ks with
  | nil => rfl
  | cons a r ih =>
    unfold ksOf at h
    split at h
    · rename_i e
      cases e
    · rename_i x _ _ r' e
      cases e
      obtain ⟨kt, hk, rfl⟩ := Option.map_eq_some_iff.mp h
      rw [List.all_cons, ih hk]
      rfl
    · cases h
theorem pe_ddD {pos : Pos} {keys : List (Option Expr)} {es : List Expr} {ks : List (List Nat)} {t : Rd (List D)} (hk : ksOf keys = some ks) (h0 : keys.isEmpty = false) (hl : keys.length = es.length) (h15 : keys.length ≤ 15) (h : PPl cl W X pos keys es t) :
    PEl cl W X (.Dict keys es pos) fun E σ m k => ∀ p, m p = none → t E σ (upd m p (.dK [])) fun ds m2 => m2 p = some (.dK []) ∧ k (.ref p) (upd m2 p (.dK (mergeD ((ks.map D.str).zip ds)))) := by
  obtain ⟨trs, h1, h2⟩ := h.ex
  refine pe_imp (L2.pe_disp h1 (ks_some hk) hl (by intro e; rw [e] at h0; cases h0) h15) fun σ H Q q p hp => ?_
  obtain ⟨σ', m, k', E, hs, hr, ht, pp⟩ := q
  refine h2 _ _ _ ⟨σ', _, _, E, hs.kp (kp_new hp), hr.new (o := .dK []) (u := .dK []) hp ⟨[], L2.upd_same, rfl⟩, ht p (hr.free hp), ⟨fun ds m2 vs H2 hk2 hR hr2 he2 => ?_, pp.ex.step (Ext.tell hp)⟩⟩
  obtain ⟨hm2, hk2⟩ := hk2
  obtain ⟨ws, z, l⟩ := hr2 p _ hm2
  obtain rfl : ws = [] := l
  have hlen := kv_len (keys := keys)
  refine ⟨z, (kvOf keys).zip vs, List.zip_map_left .., by rw [List.length_zip]; omega, ?_⟩
  have kp : Kp H2 (L2.upd H2 p (.dK (L2.mergeK [] ((kvOf keys).zip vs)))) := kp_mut z (fun _ h => nomatch h) fun _ _ h => nomatch h
  exact pp.ok _ _ _ _ hk2 rfl (hr2.mut hm2 ⟨_, L2.upd_same, isKs_mergeP (ks_zip hk (by rw [hR.1, hl]) (hR.2.kp kp)) rfl⟩) (((Ext.tell hp).trans he2).trans (Ext.mut hm2))
end
end DL

namespace DL
open PySem PySem.Spec PyProof.Rows
open L2 (V Hp HO SqL SqT TE TT TA TS TG TGs Cx Inv PE PT PW PA PS PSs PG PGs RelV Vals WX FunD FnScope FnOk PMk MkP)
section
variable {X : Cx} {C : Addr} {bmB : List Value} {B newId initId : String}
/-- X() of an own class without own __init__ -/
theorem pmk_own0 {x : Str} {p pos : Pos} (F : ExcBaseFacts B newId initId bmB) (q : PySem.W.excIn X.K C bmB newId = true) (gC : X.mg x = some (.ref C)) (kC : PySem.W.keepIn X.K (.ref C) = true) (r : L2.Raises X (.ref C)) (hg : L2.Gl X x)
    (hdb : (x == ("__debug__" : Str)) = false) : PMk X (.Call (.Name x p) [] [] pos) (fun _ H Q => Q (.ref C) none H) := by
  intro pins s σ H Q I h
  refine wpAny_Call_Name_kw (L2.ld_glob I hg gC ?_ hdb)
  refine PySem.W.callWith_K0 I.kIn kC ?_
  show wpAny _ _ (call (.ref C) []) _ _ _
  obtain ⟨bm, N, nm, qn, bs, hdct, sn, sub, ab, col, dd, k0, k1, k2, k3, k5, mN, hC, hN, hni, T⟩ := L2.exc_obj I.kIn q
  obtain ⟨hp, g, d, t, os⟩ := s
  refine wpAny_call_exc_subT F T hC hN hni (fun h' e hm => ?_) (Nat.zero_le _)
  exact L2.mk_of I hm r h (I.hok.gone hm.new)
end
def oexB (K : PySem.W.Frag) (C : Addr) : Bool := (match K.lookup C with
  | some ⟨.type "type", _, .cls cd, sl⟩ => (match cd.mro, sl.toList with
    | .ref C' :: bm, [_, _, _, _, some (.builtin n), _] => C' == C && n == "ValueError.__new__" && !cd.hasDel && cd.hasDict && PySem.HandSPX.refsVE bm
    | _, _ => false)
  | _ => false) && (He.eqO (PySem.W.findIn K (.ref C) "__setattr__") (some (some (.builtin "object.__setattr__"))) && (decide (PySem.W.subIn K (.ref C) (.type "BaseException") = some true) && (decide (PySem.W.typeIn K (.ref C) = some (.type "type")) && PySem.W.keepIn K (.ref C))))
theorem oexB_ok {K : PySem.W.Frag} {C : Addr} (q : oexB K C = true) : L2.OexC K C := by
  obtain ⟨q, q2⟩ := He.ba q
  obtain ⟨q3, q2⟩ := He.ba q2
  obtain ⟨q4, q2⟩ := He.ba q2
  obtain ⟨q5, q6⟩ := He.ba q2
  refine ⟨?_, He.eqO_ok q3, of_decide_eq_true q4, of_decide_eq_true q5, q6⟩
  split at q
  · rename_i dd cd sl ho
    split at q
    · rename_i C' bm k0 k1 k2 k3 n k5 hm hs
      simp only [Bool.and_eq_true, beq_iff_eq, Bool.not_eq_true'] at q
      obtain ⟨⟨⟨⟨rfl, rfl⟩, hdel⟩, hd⟩, ht⟩ := q
      obtain ⟨nm, bs, mro, ns, qn, hd', sn, sub, ab, col, del⟩ := cd
      dsimp only at hm hdel hd
      subst hm hdel hd
      have hsl : sl = #[k0, k1, k2, k3, some (.builtin "ValueError.__new__"), k5] := by
        obtain ⟨l⟩ := sl
        simp only at hs
        rw [hs]
      subst hsl
      exact ⟨nm, qn, ns, bs, bm, sn, sub, ab, col, dd, k0, k1, k2, k3, k5, ho, ht⟩
    · cases q
  · cases q
/-- B.__init__ is ValueError's -/
structure BaseI (K : PySem.W.Frag) (B : Addr) : Prop where
  rd : PySem.W.readsIn K B (.type "type") = true
  ga : PySem.W.specialIn K (.ref B) "__getattribute__" = some (some (.builtin "type.__getattribute__"))
  at_ : PySem.W.findCls K (.ref B) (.type "type") "__init__" = some (.val (.builtin "ValueError.__init__"))
section
variable {X : Cx} {e : Expr} {es : List Expr} {ta : TA} {p1 p2 pos : Pos} {B : Addr} {b : Str}
/-- B.__init__(self, ..) -/
theorem pe_baseinit {pl : Sem Bool} (T : BaseI X.K B) (hg : L2.Gl X b) (hm : X.mg b = some (.ref B)) (hdb : (b == ("__debug__" : Str)) = false) (ha : PA X (e :: es) ta)
    (hc : eval (.Call (.Attribute (.Name b p1) "__init__" p2) (e :: es) [] pos) X.env = (do
      let ov ← eval (.Name b p1) X.env
      standAt p2.atName
      let (f, first) ← holding [ov] (getMethod ov "__init__" pl)
      callWith pos f first (backTo pos (starEach (e :: es) X.env)) (backToKw pos (keywordEach [] X.env))) := by rfl)
    (he : starEach (e :: es) X.env = (false, eval e X.env) :: starEach es X.env := by rfl) (hpl : (backTo pos (starEach es X.env)).any (·.1) = false := by rfl) :
    PE X (.Call (.Attribute (.Name b p1) "__init__" p2) (e :: es) [] pos) (L2.tVeI X.K ta) := by
  refine ⟨fun pins s σ H Q I h => ?_⟩
  refine PySem.W.methodCall_KW (L2.ld_glob I hg hm ?_ hdb) hc
  refine PySem.W.method_cls I.kIn T.ga (PySem.W.cls_value I.kIn T.rd T.at_ (by decide +kernel) ?_)
  show wpAny _ _ (callWith pos (Value.builtin "ValueError.__init__") [] (backTo pos (starEach (e :: es) X.env)) []) _ _ _
  refine PyProof.Rows.callWith_method1 (L2.thn (ha.run pos pins _ σ H _ (I.tok _) h) fun us s1 ⟨vs, H1, I1, r1, a, C, ws, ev, hl, T, ea, q⟩ => ?_) he hpl
  subst ev
  cases r1 with
  | @cons _ u0 _ ur ra rw' =>
    obtain rfl : u0 = Value.ref a := ra
    have hlen : ur.length ≤ sizeLine := by
      rw [← Paired.length rw', sizeLine_eq]
      omega
    exact L2.oinit_ok T I1 ea hlen fun s' J => ⟨.non, H1, J, rfl, q⟩
end
/-- the text of such an __init__: its base's name, self, the field, the param -/
def cIni : List Stmt → Option (Str × (Str × (Str × Str)))
  | [.Expr (.Call (.Attribute (.Name b _) m p2) [.Name s _, .Constant (.str _) _ _] [] p) _, .Assign [.Attribute (.Name s2 _) f _] (.Name v _) _] =>
    if m = "__init__" ∧ s2 = s ∧ (p2.endLine == p.line) = true then some (b, (s, (f, v))) else none
  | _ => none
theorem fn_ini {P : Program} {w : World} {K : PySem.W.Frag} {mg : Str → Option Value} {base : Heap} {x qual : Str} {params : Arguments} {body : List Stmt} {scope : Scope} {fI : Addr} {fd : FuncData} {b s f v : Str} {B : Addr}
    (F : FunD K x qual params body scope [] [] fI fd) (S : FnScope [s, v] [s, v] scope) (hb : cIni body = some (b, (s, (f, v)))) (hg : isGl scope b = true) (hs : (isVis scope s && plainName s) = true) (hv : (isVis scope v && plainName v) = true) (T : BaseI K B) (hm : mg b = some (.ref B)) :
    FnOk P w K mg base (L2.CX P w) 1 fI fd [s, v] (spIni K f) := by
  unfold cIni at hb
  split at hb
  · rename_i b' pb m p2 s' ps' cs jc pc p pe s2 p3 f' p4 v' p5 pa
    split at hb
    · rename_i hh
      obtain ⟨rfl, rfl, hl⟩ := hh
      simp only [Option.some.injEq, Prod.mk.injEq] at hb
      obtain ⟨rfl, rfl, rfl, rfl⟩ := hb
      refine F.ok S (fun vs H Q E h => ?_) fun cdv A outer s0 H vs Q E hr h => ?_
      · obtain ⟨a, C, y, rfl, _⟩ := h
        rfl
      · obtain ⟨a, C, y, rfl, hC, hno, ha, hq⟩ := h
        have vis : ∀ {z : Str}, (isVis scope z && plainName z) = true → L2.Vis scope z ∧ (z == ("__debug__" : Str)) = false ∧ (z == ("__classdict__" : Str)) = false := fun {z} h => by
          obtain ⟨h1, h2⟩ := He.ba h
          obtain ⟨h3, h4⟩ := He.ba h2
          refine ⟨?_, by simpa using h3, by simpa using h4⟩
          unfold isVis at h1
          rw [Bool.or_eq_true, Bool.or_eq_true] at h1
          rcases h1 with (h1 | h1) | h1
          · exact .inl (of_decide_eq_true h1)
          · exact .inr (.inl (of_decide_eq_true h1))
          · exact .inr (.inr (of_decide_eq_true h1))
        obtain ⟨s1, s2', s3⟩ := vis hs
        obtain ⟨v1, v2, v3⟩ := vis hv
        obtain ⟨g1, g2⟩ := He.ba hg
        obtain ⟨g3, g4⟩ := He.ba g1
        have es : ∀ p, PE (L2.cxOf (L2.CX P w) P w K mg base [s2, v'] qual scope fI cdv A outer s0 H E) (.Name s2 p) (L2.tVar 0) := fun p => L2.pe_var rfl s1 s2' s3
        have ev : ∀ p, PE (L2.cxOf (L2.CX P w) P w K mg base [s2, v'] qual scope fI cdv A outer s0 H E) (.Name v' p) (L2.tVar 1) := fun p => L2.pe_var rfl v1 v2 v3
        refine ⟨_, L2.pss_cons (L2.ps_expr (pe_baseinit T (show scope.names.lookup b' = some .globalImplicit from of_decide_eq_true g3) hm (by simpa using g4) (L2.pa_cons (es _) (L2.pa_cons L2.pe_str L2.pa_nil)) (meth_eval rfl _ rfl (by show 2 < 30; decide) hl _)) rfl) (L2.pss_one (L2.ps_ost (es _) (ev _) (by rfl))), ?_⟩
        refine ⟨.ref a, rfl, ⟨a, C, [.str cs], rfl, (by show 1 ≤ 1000; decide), hC, ha, ?_⟩⟩
        refine ⟨y, rfl, .ref a, rfl, a, C, rfl, hC, hno, .inl ⟨ha, fun dx n1 n2 => ?_⟩⟩
        exact hq dx n1 n2
    · cases hb
  · cases hb
section
variable {X : Cx} {pins : List (Addr × Obj)} {σ : L2.St} {H : Hp} {s : Shared}
theorem inv_lockXd {d : Addr} {fs : List (Str × V)} (I : Inv X pins σ H s) (h : H d = some (.xd fs)) : ∃ od, s.heap.get? d = some od ∧ Inv X pins σ (L2.upd H d (.frz od (.xd fs))) s := by
  have x := I.hok d _ h
  obtain ⟨mA, ⟨od, es, ep, eo, er⟩, rel⟩ := id x
  have neH : ∀ b o, H b = some o → o ≠ .xd fs → b ≠ d := fun b o e hne z => by
    rw [z, h] at e
    cases e
    exact hne rfl
  have neN : ∀ b, H b = none → b ≠ d := fun b e z => by rw [z, h] at e; cases e
  refine ⟨od, eo, I.ok, I.os, I.bare, ⟨I.base.keep, I.base.slot, fun b o e n hx => ?_, I.base.there, fun b xs e => ?_, fun b o x e => ?_, fun b ps e => ?_⟩, I.loc, I.cell, ?_, fun x c e => ?_, fun p hp => ?_, fun b o e => ?_, I.len⟩
  · rw [L2.upd_ne (neN b (I.base.free b o e n hx))]; exact I.base.free b o e n hx
  · have q := I.base.tups b xs e
    rw [L2.upd_ne (neH b _ q (fun z => nomatch z))]; exact q
  · have q := I.base.frzs b o x e
    rw [L2.upd_ne (neH b _ q (fun z => nomatch z))]; exact q
  · obtain ⟨m, q⟩ := I.base.tbls b ps e
    exact ⟨m, by rw [L2.upd_ne (neH b _ q (fun z => nomatch z))]; exact q⟩
  · rw [L2.upd_ne (neN _ I.free)]; exact I.free
  · rw [L2.upd_ne (neN c (I.freeC x c e))]; exact I.freeC x c e
  · obtain ⟨e, n, r⟩ := I.pin p hp
    exact ⟨e, by rw [L2.upd_ne (neN _ n)]; exact n, r⟩
  · by_cases hb : b = d
    · rw [hb, L2.upd_same] at e
      cases e
      rw [hb]
      exact ⟨eo, x.stay (fun c v _ q => q) (fun c q => by rw [L2.upd_ne (neH c _ q (fun z => nomatch z))]; exact q) fun c xs q => by rw [L2.upd_ne (neH c _ q (fun z => nomatch z))]; exact q⟩
    · rw [L2.upd_ne hb] at e
      exact (I.hok b o e).stay (fun c v _ q => q) (fun c q => by rw [L2.upd_ne (neH c _ q (fun z => nomatch z))]; exact q) fun c xs q => by rw [L2.upd_ne (neH c _ q (fun z => nomatch z))]; exact q
/-- an object that is there from now on, only to be read -/
abbrev bareO (a : Addr) (oe : Obj) : HO := .frz oe (.ext fun h => h.get? a = some oe)
theorem inv_adopt {a : Addr} {oe : Obj} {vs : Array Value} (I : Inv X pins σ H s) (ha : s.heap.get? a = some oe) (hd : oe.data = .fields vs) (na : H a = none) (nL : a ≠ X.env.locals) (n0 : X.s_0.heap.get? a = none) (hp : ∀ p ∈ X.pn ++ pins, p.1 ≠ a) :
    Inv X pins σ (L2.upd H a (bareO a oe)) s := by
  have neH : ∀ b o, H b = some o → b ≠ a := fun b o e z => by
    rw [z, na] at e
    cases e
  refine ⟨I.ok, I.os, I.bare, ⟨I.base.keep, I.base.slot, fun b o e n hx => ?_, I.base.there, fun b xs e => ?_, fun b o x e => ?_, fun b ps e => ?_⟩, I.loc, I.cell, ?_, fun x c e => ?_, fun p hp' => ?_, fun b o e => ?_, I.len⟩
  · rw [L2.upd_ne (fun z => by rw [z, n0] at e; cases e)]; exact I.base.free b o e n hx
  · have q := I.base.tups b xs e
    rw [L2.upd_ne (neH b _ q)]; exact q
  · have q := I.base.frzs b o x e
    rw [L2.upd_ne (neH b _ q)]; exact q
  · obtain ⟨m, q⟩ := I.base.tbls b ps e
    exact ⟨m, by rw [L2.upd_ne (neH b _ q)]; exact q⟩
  · rw [L2.upd_ne (Ne.symm nL)]; exact I.free
  · rw [L2.upd_ne (fun z => ?_)]
    · exact I.freeC x c e
    · obtain ⟨v, o, ho, hc⟩ := I.cell x c e
      rw [z, ha] at ho
      cases ho
      rw [hd] at hc
      cases hc
  · obtain ⟨e, n, r⟩ := I.pin p hp'
    exact ⟨e, by rw [L2.upd_ne (hp p hp')]; exact n, r⟩
  · by_cases hb : b = a
    · rw [hb, L2.upd_same] at e
      cases e
      rw [hb]
      exact ⟨ha, ha, ⟨_, ha⟩, fun h1 h2 q k => k _ q⟩
    · rw [L2.upd_ne hb] at e
      exact (I.hok b o e).stay (fun c v _ q => q) (fun c q => by rw [L2.upd_ne (neH c _ q)]; exact q) fun c xs q => by rw [L2.upd_ne (neH c _ q)]; exact q
end
theorem pmk_frz {X : Cx} {e : Expr} {t : L2.St → Hp → L2.XK → Prop} (he : PMk X e t) : PMk X e (fun σ H Q => t σ H fun cls d H' => ∃ (dd : Addr) (fs : List (Str × V)), d = some dd ∧ H' dd = some (.xd fs) ∧ ∀ od, Q cls d (L2.upd H' dd (.frz od (.xd fs)))) := by
  intro pins s σ H Q I h
  refine wpAny_mono (he pins s σ H _ I h) (fun u s1 hu => ?_) fun _ _ x => x
  obtain ⟨a, oe, vs, sI, H', cls, d, rfl, J, k, hne, ha, hz, hd, h1, na, os, ag, r, dd, fs, e1, e2, q⟩ := hu
  obtain ⟨od, _, J'⟩ := inv_lockXd J e2
  exact ⟨a, oe, vs, sI, _, cls, d, rfl, J', k, hne, ha, hz, hd, h1, by rw [L2.upd_ne (fun z => by rw [z, e2] at na; cases na)]; exact na, os, ag, r, q od⟩
/-- the context of a suite in which the exception itself stands as an object -/
abbrev suiteF (X : Cx) (a : Addr) (pn : List (Addr × Obj)) : Cx := { X with A := X.A.mark (some (.ref a)), calm := false, pn := pn, xe := fun _ _ => False }
/-- the clauses: the class, the slot of the name, the suite's reading -/
abbrev HdT : Type := Value × (Option Nat × TS)
/-- how a suite ends whose clause has a name: the name goes -/
def endF (D : L2.Ends) : Option Nat → L2.Ends
  | none => { nx := D.nx, rt := D.rt, bk := D.bk, ct := D.ct }
  | some i => { nx := fun τ G => D.nx (τ.set i none) G, rt := D.rt, bk := fun τ G => D.bk (τ.set i none) G, ct := fun τ G => D.ct (τ.set i none) G }
def begF (τ : L2.St) (a : Addr) : Option Nat → L2.St
  | none => τ
  | some i => τ.set i (some (.ref a))
/-- what they wish of an exception -/
def wF (K : PySem.W.Frag) (Wout : WX) (D : L2.Ends) : List HdT → WX
  | [] => Wout
  | (c, (o, t)) :: r => fun cls d τ G => ∃ y, PySem.W.exmOne K cls c = some y ∧
      (y = true → ∀ (a : Addr) (oe : Obj), G a = none → oe.cls = cls → oe.dict = d → (∃ vs, oe.data = .fields vs) → t (endF D o) (begF τ a o) (L2.upd G a (bareO a oe))) ∧ (y = false → wF K Wout D r cls d τ G)
inductive HdsF (X : Cx) : List ExceptHandler → List HdT → Prop
  | nil : HdsF X [] []
  | bare {x : Str} {c : Value} {t : TS} {b : Stmt} {bs : List Stmt} {p q : Pos} {hds : List ExceptHandler} {l : List HdT} (nm : L2.Names X x c) (su : ∀ a pn, PSs (suiteF X a pn) (b :: bs) t) (r : HdsF X hds l) : HdsF X (.ExceptHandler (some (.Name x p)) none (b :: bs) q :: hds) ((c, (none, t)) :: l)
  | named {x n : Str} {i : Nat} {c : Value} {t : TS} {b : Stmt} {bs : List Stmt} {p q : Pos} {hds : List ExceptHandler} {l : List HdT} (hi : X.N[i]? = some n) (lo : X.env.kindOf n = some .local) (nm : L2.Names X x c) (su : ∀ a pn, PSs (suiteF X a pn) (b :: bs) t) (r : HdsF X hds l) : HdsF X (.ExceptHandler (some (.Name x p)) (some n) (b :: bs) q :: hds) ((c, (some i, t)) :: l)
/-- an exception that has come down in a frame -/
structure Down (X : Cx) (pins : List (Addr × Obj)) (τ : L2.St) (G : Hp) (cls : Value) (d : Option Addr) (a : Addr) (B : Heap) (s0 s : Shared) : Prop where
  inv : Inv X pins τ G s0
  gr : ∀ b o, s0.heap.get? b = some o → b ∉ L2.frs X.stack → B.get? b = some o
  fly : HandSPX.FlyingZ B (X.env :: X.outer) a (L2.Zc cls d) s.heap
  up : s0.heap.UpToSlots s.heap
  os : s.os = s0.os
  ba : AllBare s.gens
  na : G a = none
section
variable {X : Cx} {pins : List (Addr × Obj)} {τ : L2.St} {G : Hp} {cls : Value} {d : Option Addr} {a : Addr} {B : Heap} {s0 s : Shared}
theorem Down.now (k : Down X pins τ G cls d a B s0 s) : Inv X pins τ G s := k.inv.landed k.gr k.fly.1 k.up k.os k.ba
theorem Down.obj (k : Down X pins τ G cls d a B s0 s) : ∃ oe vs, s.heap.get? a = some oe ∧ oe.cls = cls ∧ oe.dict = d ∧ oe.data = .fields vs := by
  obtain ⟨oe, vs, e, z, q⟩ := k.fly.there
  exact ⟨oe, vs, e, z.1, z.2, q⟩
theorem Down.noframe (k : Down X pins τ G cls d a B s0 s) (hs : X.stack = X.env :: X.outer) : a ∉ L2.frs X.stack := fun m => by
  obtain ⟨oe, vs, e, _, _, q⟩ := k.obj
  rw [hs] at m
  obtain ⟨_, o2, e2, no⟩ := k.fly.2.2.1.mem m
  rw [e] at e2
  cases e2
  exact no _ q
theorem Down.fresh (k : Down X pins τ G cls d a B s0 s) (hs : X.stack = X.env :: X.outer) : s0.heap.get? a = none := by
  cases e : s0.heap.get? a with
  | none => rfl
  | some o =>
    have z := k.gr a o e (k.noframe hs)
    have n := k.fly.2.1
    rw [z] at n
    cases n
theorem Down.noloc (k : Down X pins τ G cls d a B s0 s) (hs : X.stack = X.env :: X.outer) (hf : X.env.frame = some X.env.locals) : a ≠ X.env.locals := fun z => k.noframe hs (by
  rw [hs]
  exact List.mem_filterMap.mpr ⟨X.env, List.mem_cons_self, by rw [hf, z]⟩)
/-- it is taken into what is told, in the suite's context -/
theorem Down.take (k : Down X pins τ G cls d a B s0 s) (hex : X.ex = []) (hs : X.stack = X.env :: X.outer) (hf : X.env.frame = some X.env.locals) {oe : Obj} {vs : Array Value} (e : s.heap.get? a = some oe) (q : oe.data = .fields vs) : Inv (suiteF X a (X.pn ++ pins)) [] τ (L2.upd G a (bareO a oe)) s := by
  have fr := k.fresh hs
  have n0 : X.s_0.heap.get? a = none := by
    cases e0 : X.s_0.heap.get? a with
    | none => rfl
    | some o =>
      obtain ⟨o1, e1⟩ := k.inv.base.there a o e0 (by rw [hex]; exact fun z => nomatch z)
      rw [fr] at e1
      cases e1
  have I := inv_adopt k.now e q k.na (k.noloc hs hf) n0 fun p hp z => by
    have e1 := (k.inv.pin p hp).1
    rw [z, fr] at e1
    cases e1
  exact ⟨I.ok.suite a _, I.os, I.bare, I.base, I.loc, I.cell, I.free, I.freeC, fun p hp => I.pin p (by simpa using hp), I.hok, I.len⟩
end
/-- the suite is left -/
theorem suiteF_out {X : Cx} {pins : List (Addr × Obj)} {τ : L2.St} {G : Hp} {a : Addr} {s : Shared} (I : Inv (suiteF X a (X.pn ++ pins)) [] τ G s) (ok : X.Ok) : Inv X pins τ G s :=
  ⟨ok, I.os, I.bare, I.base, I.loc, I.cell, I.free, I.freeC, fun p hp => I.pin p (by simpa using hp), I.hok, I.len⟩
section
variable {X : Cx} {pins : List (Addr × Obj)} {τ : L2.St} {G : Hp} {cls : Value} {d : Option Addr} {a : Addr} {B : Heap} {s0 s : Shared} {D : L2.Ends} {Wout : WX}
/-- no clause takes it -/
theorem Down.on (k : Down X pins τ G cls d a B s0 s) (hs : X.stack = X.env :: X.outer) (hf : X.env.frame = some X.env.locals) (tk : L2.Takes X Wout) (w : Wout cls d τ G) :
    wpAny (model X.prog X.w) X.A (handleBy (.ref a) X.env []) (L2.SP X pins D) X.xe s := by
  obtain ⟨g1, g2, g3, oe, vs, tb, ot, ts, e1, e2, e3, e4, e5⟩ := k.fly
  refine wpAny_handleBy_nil ?_
  unfold PySem.passOn
  refine wpAny_bind (wpAny_field e1 e3 e4 ?_)
  have ne : ¬ ((Value.ref tb == Value.none) = true) := by simp
  have last : wpAny (model X.prog X.w) X.A (setFlight (.ref a) (some X.env.locals)) (fun _ z => wpAny (model X.prog X.w) X.A (throw (.ref a) : Sem Flow) (L2.SP X pins D) X.xe z) X.xe s :=
    HandSPX.setFlight_upZ k.fly fun h4 held up4 => wpAny_throw (tk _ _ ⟨a, B, s0, pins, τ, G, cls, d, rfl, k.inv, k.gr, k.up.trans up4, .inr (.inr (hs ▸ held)), k.na, k.os, k.ba, w⟩)
  rw [if_neg ne, hf]
  first
    | exact wpAny_bind (wpAny_pure (wpAny_bind last))
    | exact wpAny_bind last
/-- the class that a clause names is looked up while the exception is handled -/
theorem Down.named (k : Down X pins τ G cls d a B s0 s) (hex : X.ex = []) (hs : X.stack = X.env :: X.outer) (hf : X.env.frame = some X.env.locals) {x : Str} {c : Value} {p : Pos} (nm : L2.Names X x c) {Q E : Value → Shared → Prop} (q : Q c s) :
    wpAny (model X.prog X.w) (X.A.mark (some (.ref a))) (eval (.Name x p) X.env) Q E s := by
  obtain ⟨oe, vs, e1, _, _, e2⟩ := k.obj
  have I := k.take hex hs hf e1 e2
  obtain ⟨gl, db, m | ⟨m, v, nn⟩⟩ := nm
  · exact L2.ld_glob I gl m q db
  · exact L2.ld_blt I gl m v q nn db
theorem handF (hN : X.N.Nodup) (hex : X.ex = []) (hs : X.stack = X.env :: X.outer) (hf : X.env.frame = some X.env.locals) (tk : L2.Takes X Wout) : ∀ {hds : List ExceptHandler} {l : List HdT}, HdsF X hds l → Down X pins τ G cls d a B s0 s → wF X.K Wout D l cls d τ G →
    wpAny (model X.prog X.w) X.A (handleBy (.ref a) X.env hds) (L2.SP X pins D) X.xe s := by
  intro hds l H k
  have ok := k.inv.ok
  obtain ⟨oe, vs, e1, e2, e3, e4⟩ := k.obj
  have kin := k.now.kIn
  have looks : PySem.W.Looks (model X.prog X.w) s.heap (typeOf (.ref a)) cls := fun A Q E z kk q => wpAny_typeOf_ref (kk _ _ e1) (by rw [e2]; exact q)
  induction H with
  | nil => exact fun w => k.on hs hf tk w
  | @bare x c t b bs p q hds l nm su r ih =>
    rintro ⟨y, hy, yes, no⟩
    refine wpAny_handleBy_cons (codeAny_handlers_test ?_) (by intro z; cases z)
    refine k.named hex hs hf nm ((PySem.W.exm_one (M := model X.prog X.w) kin looks hy).here ?_)
    cases y with
    | false => exact ih (no rfl)
    | true =>
      refine codeAny_handlers_suite (HandSPX.lands_againZ k.fly fun h4 fly4 up4 => ?_)
      have k4 : Down X pins τ G cls d a B s0 { s with heap := h4 } := ⟨k.inv, k.gr, fly4, k.up.trans up4, k.os, k.ba, k.na⟩
      obtain ⟨oe', vs', f1, f2, f3, f4⟩ := k4.obj
      refine wpAny_mono ((su a (X.pn ++ pins)).run [] _ _ _ _ (k4.take hex hs hf f1 f4) (yes rfl a oe' k.na f2 f3 ⟨_, f4⟩)) (fun fl z e => ?_) fun _ _ z => z.elim
      cases fl with
      | ret u =>
        obtain ⟨v, τ', G', I', rv, q'⟩ := e
        exact ⟨v, τ', G', suiteF_out I' ok, rv, q'⟩
      | _ =>
        obtain ⟨τ', G', I', q'⟩ := e
        exact ⟨τ', G', suiteF_out I' ok, q'⟩
  | @named x n i c t b bs p q hds l hi lo nm su r ih =>
    rintro ⟨y, hy, yes, no⟩
    refine wpAny_handleBy_cons (codeAny_handlers_test ?_) (by intro z; cases z)
    refine k.named hex hs hf nm ((PySem.W.exm_one (M := model X.prog X.w) kin looks hy).here ?_)
    cases y with
    | false => exact ih (no rfl)
    | true =>
      refine codeAny_handlers_suite_as (HandSPX.lands_againZ k.fly fun h4 fly4 up4 => ?_)
      have k4 : Down X pins τ G cls d a B s0 { s with heap := h4 } := ⟨k.inv, k.gr, fly4, k.up.trans up4, k.os, k.ba, k.na⟩
      obtain ⟨oe', vs', f1, f2, f3, f4⟩ := k4.obj
      refine L2.store_ok (X := suiteF X a (X.pn ++ pins)) (v := .ref a) (k4.take hex hs hf f1 f4) hN hi (.inl lo) rfl (fun s5 I5 => ?_) (.inr lo)
      refine wpAny_mono ((su a (X.pn ++ pins)).run [] s5 _ _ _ I5 (yes rfl a oe' k.na f2 f3 ⟨_, f4⟩)) (fun fl z e => ?_) fun _ _ z => z.elim
      have goes : ∀ {τ' : L2.St} {G' : Hp} {Q : Shared → Prop}, Inv (suiteF X a (X.pn ++ pins)) [] τ' G' z → (∀ z', Inv X pins (τ'.set i none) G' z' → Q z') → wpAny (model X.prog X.w) X.A (do bindName X.env n .none; unbindBehindTheSuite X.env n q) (fun _ z' => Q z') X.xe z :=
        fun I' hq => L2.gone_ok (suiteF_out I' ok) hN hi lo hq
      cases fl with
      | ret u =>
        obtain ⟨v, τ', G', I', rv, q'⟩ := e
        exact goes I' fun z' J => ⟨v, _, _, J, rv, q'⟩
      | _ =>
        obtain ⟨τ', G', I', q'⟩ := e
        exact goes I' fun z' J => ⟨_, _, J, q'⟩
theorem ps_tryF {body : List Stmt} {h₀ : ExceptHandler} {hds : List ExceptHandler} {l : List HdT} {pos : Pos} {tb : WX → TS} (hN : X.N.Nodup) (hex : X.ex = []) (hs : X.stack = X.env :: X.outer) (hf : X.env.frame = some X.env.locals) (tk : L2.Takes X Wout)
    (hb : ∀ (W : WX) (pn : List (Addr × Obj)) (xe : Value → Shared → Prop), L2.Takes (X.tr pn xe) W → PassesOwn (model X.prog X.w) X.A X.env xe → PSs (X.tr pn xe) body (tb W))
    (hh : HdsF X (h₀ :: hds) l) : PS X (.Try body (h₀ :: hds) [] [] pos) (fun D τ G => tb (wF X.K Wout D l) D τ G) := by
  refine ⟨fun pins s τ G D I h => wpAny_Try_except ?_⟩
  have fr : X.A.frames = some (X.env :: X.outer) := by rw [I.ok.frames, hs]
  refine wpAny_mono ((hb (wF X.K Wout D l) (X.pn ++ pins) _ (fun u z xx => ?_) PassesOwn.looking).run [] s τ G D (I.toTry _) h) (fun fl z e => ?_) fun _ _ z => z
  · obtain ⟨a, B, s0, pins', τ', G', cls, d, rfl, J, nb, up, sky, na, os, ag, w⟩ := xx
    rw [hs] at sky
    show wpAny (model X.prog X.w) X.A (noteFrame (.ref a) X.env) _ _ _
    exact L2.Sky.land L2.Zc.steady fr hf sky fun h3 fly3 up3 => handF hN hex hs hf tk hh ⟨J.ofTry I.ok, nb, fly3, up.trans up3, os, ag, na⟩ w
  · cases fl with
    | next =>
      obtain ⟨τ', G', J, q⟩ := e
      exact wpAny_execs_nil ⟨τ', G', J.ofTry I.ok, q⟩
    | ret u =>
      obtain ⟨v, τ', G', J, rv, q⟩ := e
      exact ⟨v, τ', G', J.ofTry I.ok, rv, q⟩
    | _ =>
      obtain ⟨τ', G', J, q⟩ := e
      exact ⟨τ', G', J.ofTry I.ok, q⟩
end
theorem isFs_zip {K : PySem.W.Frag} {H : Hp} : ∀ {fn : List (List Nat)} {vs : List D} {ws : List V}, IsL K H vs ws → fn.length = ws.length → IsFs K H (fn.zip vs) ((fn.map SX.S).zip ws)
  | [], vs, ws, h, e => by
    cases ws with
    | nil => cases vs <;> rfl
    | cons w ws => cases e
  | f :: fn, [], ws, h, e => by
    rw [show ws = [] from h] at e
    cases e
  | f :: fn, d :: vs, ws, h, e => by
    obtain ⟨v, r, rfl, h1, h2⟩ := h
    exact ⟨v, _, rfl, h1, isFs_zip h2 (by simpa using e)⟩
section
variable {X : Cx} {cl : Nat → Addr}
/-- a field of an exception that stands in the heap -/
theorem xfld_D {pins : List (Addr × Obj)} {s : Shared} {σ : L2.St} {H : Hp} {xc : Nat → Bool} (A : ExAll cl X.K xc) (I : Inv X pins σ H s) {c : Nat} {fn : List (List Nat)} {vs : List D} {a : Addr} {f : List Nat} {y : D} (hx : IsV X.K H (.exc c fn vs) (.ref a)) (hc : xc c = true) (hf : f ∈ excF c) (hl : lk (fn.zip vs) f = some y) {ex : Bool} {Q : Value → Shared → Prop}
    (q : ∀ (w : V) (u : Value) (s' : Shared), IsV X.K H y w → RelV w u → Inv X pins σ H s' → Q u s') : wpAny (model X.prog X.w) X.A (getAttr (.ref a) (SX.S f) ex) Q X.xe s := by
  obtain ⟨a', ws, e0, hvs, hlen, oe, u, ha, ec, ⟨fs, ed⟩, hd⟩ := hx
  cases e0
  have T := A.cls c hc
  have no' := A.fld c f hc hf
  rw [← A.ecl c hc] at ec
  obtain ⟨e1, _⟩ := (show L2.ObjOk X.prog X.w H s.heap a (.frz oe u) from I.hok a _ ha)
  have no : PySem.W.notCls oe = true := by unfold PySem.W.notCls; rw [ed]
  have fs' : IsFs X.K H (fn.zip vs) ((fn.map SX.S).zip ws) := isFs_zip hvs hlen
  obtain ⟨w, hw, iw⟩ := (isFs_lk (f := f) fs').1 y hl
  rcases hd with ⟨hd0, hd⟩ | ⟨d, od, hd, h2⟩
  · rw [hd0] at hw
    cases hw
  · obtain ⟨e2, mA, hns, hrel⟩ := (show L2.ObjOk X.prog X.w H s.heap d (.frz od (.xd _)) from I.hok d _ h2)
    obtain ⟨od', ho, hlk⟩ := L2.lookIn_ns hns
    rw [e2] at ho
    cases ho
    have hf2 := hrel (SX.S f)
    rw [hw] at hf2
    obtain ⟨u2, hu, ru⟩ := L2.RelO.some_of hf2
    have J : PySem.W.InstAt s.heap a oe (cl c) (some od) := ⟨e1, ec, no, by rw [hd]; exact e2⟩
    exact HandSPX.exc_get I.kIn J T.xf.ga T.xf.gg T.xf.exC (PySem.W.findObj_own T.xf.hdC no' rfl (by rw [hlk, hu])) (L2.handed_of ru) (q w u2 _ iw ru (I.tok _))
end
section
variable {cl : Nat → Addr} {c : Ctx} {Γ : En} {k : Nat} {W : WX} {sc : Scope} {X : Cx}
theorem exOf_pe (G : Good cl c Γ k W sc X) {t : Str} {j : Nat} (h : exOf c sc t = some j) (p : Pos) : (Γ.xc j = true ∨ j = 9) ∧ PE X (.Name t p) (L2.tC (cvV cl j)) := by
  unfold exOf at h
  split at h
  · rename_i hg
    obtain ⟨g1, g2, g3⟩ := isGl_ok G hg
    split at h
    · rename_i ev
      split at h
      · rename_i hf
        cases h
        subst ev
        exact ⟨.inr rfl, L2.pe_bltn g1 (G.free _ hf) PyProof.Rows.Boot.«ValueError» rfl g3 g2⟩
      · cases h
    · obtain ⟨h1, h2, h3⟩ := G.exn t j h
      have := G.exa.lt j h1
      refine ⟨.inl h1, ?_⟩
      have e : cvV cl j = .ref (cl j) := if_neg (by omega)
      rw [e]
      exact L2.pe_glob g1 h2 rfl g2
  · cases h
theorem exsOf_pa (G : Good cl c Γ k W sc X) : ∀ {ts : List Expr} {ks : List Nat}, exsOf c sc ts = some ks → (∀ j ∈ ks, Γ.xc j = true ∨ j = 9) ∧ ks.length = ts.length ∧ PA X ts (fun _ H Q => Q (ks.map (cvV cl)) H)
  | [], ks, h => by
    cases h
    exact ⟨fun _ z => (nomatch z), rfl, L2.pa_nil⟩
  | e :: r, ks, h => by
    cases e <;> first | (cases h; done) | skip
    rename_i t p
    obtain ⟨j, hj, h⟩ := Option.bind_eq_some_iff.mp h
    obtain ⟨js, hjs, h⟩ := Option.map_eq_some_iff.mp h
    subst h
    obtain ⟨a1, a2⟩ := exOf_pe G hj p
    obtain ⟨b1, b2, b3⟩ := exsOf_pa G hjs
    refine ⟨fun i hi => ?_, by rw [List.length_cons, List.length_cons, b2], L2.pa_cons a2 b3⟩
    rcases List.mem_cons.mp hi with rfl | z
    · exact a1
    · exact b1 i z
theorem pe_isx1D (G : Good cl c Γ k W sc X) {tn : Str} {a : Expr} {ta : Rd D} {p p2 pos : Pos} {j : Nat} (hg : isGl sc "isinstance" = true) (ho : ("isinstance" : Str) ∈ c.free) (hj : exOf c sc tn = some j) (hp : plainE a = true) (h : PEl cl W X a ta) :
    PEl cl W X (.Call (.Name "isinstance" p) [a, .Name tn p2] [] pos) fun E σ m k => ta E σ m fun x m1 => rIsX Γ.xc [j] x m1 fun p => k (.bl p) m1 := by
  obtain ⟨g1, g2, g3⟩ := isGl_ok G hg
  obtain ⟨j1, pt⟩ := exOf_pe G hj p2
  refine ⟨fun pins s σ H Q I q => ?_⟩
  have hr : L2.CallR X (.builtin "isinstance") (fun vs H Q => ∃ x v m kk, vs = [v, cvV cl j] ∧ IsV X.K H x v ∧ Rep cl X.K H m ∧ rIsX Γ.xc [j] x m kk ∧ ∀ b, kk b → Q (.bl b) H) := by
    intro pins s σ H xs us Q I r h
    obtain ⟨x, v, m, kk, rfl, hx, hr, ht, q⟩ := h
    exact isx_one G.exa j1 I r hx hr ht q
  refine (L2.pe_callB (t := L2.tCons (Lift cl X.K W (RV X.K) ta) (L2.tCons (L2.tC (cvV cl j)) L2.tNil)) hr g1 (G.free _ ho) (by decide +kernel) (L2.pa_cons h (L2.pa_cons pt L2.pa_nil) (plain_star hp _ _)) g3 g2 (plain_star hp _ _)).run pins s σ H Q I ?_
  refine Lift.then_ (S := RV X.K) (u := fun x E σ m1 k => rIsX Γ.xc [j] x m1 fun p => k (D.bl p) m1) q fun x v H1 k1 s1 l1 => ?_
  obtain ⟨σ', m, k', E, hs, hr, ht, pp⟩ := l1
  exact ⟨x, v, m, fun p => k' (D.bl p) m, rfl, s1, hr, ht, fun b z => pp.ok _ _ _ _ z rfl hr (Ext.refl _ _)⟩
theorem pe_isxTD (G : Good cl c Γ k W sc X) {ts : List Expr} {a : Expr} {ta : Rd D} {p p4 pos : Pos} {kk : Nat} {ks : List Nat} (hg : isGl sc "isinstance" = true) (ho : ("isinstance" : Str) ∈ c.free) (hj : exsOf c sc ts = some ks) (hl : ts.length ≤ 1000) (hp : plainE a = true) (h : PEl cl W X a ta) :
    PEl cl W X (.Call (.Name "isinstance" p) [a, .Tuple ts kk p4] [] pos) fun E σ m k => ta E σ m fun x m1 => rIsX Γ.xc ks x m1 fun p => k (.bl p) m1 := by
  obtain ⟨g1, g2, g3⟩ := isGl_ok G hg
  obtain ⟨j1, j2, pt⟩ := exsOf_pa G hj
  refine ⟨fun pins s σ H Q I q => ?_⟩
  have ptt : PE X (.Tuple ts kk p4) (L2.tTup fun _ H Q => Q (ks.map (cvV cl)) H) := L2.pe_tup pt
  have hr : L2.CallR X (.builtin "isinstance") (fun vs H Q => ∃ (x : D) (v : V) (m : Mem) (k : Bool → Prop) (tp : Addr), vs = [v, .ref tp] ∧ H tp = some (.tup (ks.map (cvV cl))) ∧ IsV X.K H x v ∧ Rep cl X.K H m ∧ rIsX Γ.xc ks x m k ∧ ∀ b, k b → Q (.bl b) H) := by
    intro pins s σ H xs us Q I r h
    obtain ⟨x, v, m, k, tp, rfl, hT, hx, hr, ht, q⟩ := h
    exact isx_tup G.exa j1 I r hT hx hr ht q
  refine (L2.pe_callB (t := L2.tCons (Lift cl X.K W (RV X.K) ta) (L2.tCons (L2.tTup fun _ H Q => Q (ks.map (cvV cl)) H) L2.tNil)) hr g1 (G.free _ ho) (by decide +kernel) (L2.pa_cons h (L2.pa_cons ptt L2.pa_nil) (plain_star hp _ _)) g3 g2 (plain_star hp _ _)).run pins s σ H Q I ?_
  refine Lift.then_ (S := RV X.K) (u := fun x E σ m1 k => rIsX Γ.xc ks x m1 fun p => k (D.bl p) m1) q fun x v H1 k1 s1 l1 => ?_
  obtain ⟨σ', m, k', E, hs, hr, ht, pp⟩ := l1
  refine ⟨by rw [List.length_map, j2, sizeLine_eq]; omega, fun tp hp => ?_⟩
  exact ⟨x, v, m, fun p => k' (D.bl p) m, tp, rfl, L2.upd_same, s1.kp (kp_new hp), hr.hid hp, ht, fun b z => pp.ok _ _ _ _ z rfl (hr.hid hp) (Ext.hid hp)⟩
theorem pe_xfldD (G : Good cl c Γ k W sc X) {o : Expr} {f : Str} {p : Pos} {to : Rd D} (hb : baseE o = true) (ho : PEl cl W X o to) :
    PEl cl W X (.Attribute o f p) fun E σ m k => to E σ m fun x m1 => ∃ c fn vs v, x = .exc c fn vs ∧ Γ.xc c = true ∧ f.cps.toList ∈ excF c ∧ lk (fn.zip vs) f.cps.toList = some v ∧ k v m1 := by
  refine ⟨fun pins s σ H Q I q => ?_⟩
  refine L2.attr_of (base_ok hb f X.env _) (L2.thn (ho.run pins s σ H (fun w H1 => ∃ x, IsV X.K H1 x w ∧ Lift cl X.K W (RV X.K) (fun E σ m1 k => ∃ c fn vs v, x = .exc c fn vs ∧ Γ.xc c = true ∧ f.cps.toList ∈ excF c ∧ lk (fn.zip vs) f.cps.toList = some v ∧ k v m1) σ H1 Q) I
    (Lift.then_ (S := RV X.K) (u := fun x E σ m1 k => ∃ c fn vs v, x = .exc c fn vs ∧ Γ.xc c = true ∧ f.cps.toList ∈ excF c ∧ lk (fn.zip vs) f.cps.toList = some v ∧ k v m1) q fun x v H1 k1 s1 l1 => ⟨x, s1, l1⟩)) ?_)
  rintro u s1 ⟨w, H1, I1, rw', x, hx, l1⟩
  obtain ⟨σ', m, k', E, hs, hr, ⟨c', fn, vs, y, rfl, hc, hf, hl, ht⟩, pp⟩ := l1
  obtain ⟨a, ws, e1, e2⟩ := id hx
  subst e1
  obtain rfl : u = Value.ref a := rw'
  have := xfld_D (ex := true) (Q := L2.EP X pins σ Q) G.exa I1 hx hc hf hl fun w2 u2 s2 iv rv J => ⟨w2, H1, J, rv, pp.ok _ _ _ _ ht iv hr (Ext.refl _ _)⟩
  rw [SX.S_tl] at this
  exact this
end
section
variable {cl : Nat → Addr} {c : Ctx} {Γ : En} {k : Nat} {W : WX} {sc : Scope} {X : Cx}
theorem isFs_parts {K : PySem.W.Frag} {H : Hp} : ∀ {fs : List (List Nat × D)} {ws : List (Str × V)}, IsFs K H fs ws → IsL K H (fs.map (·.2)) (ws.map (·.2)) ∧ (fs.map (·.1)).length = (ws.map (·.2)).length ∧ ((fs.map (·.1)).map SX.S).zip (ws.map (·.2)) = ws
  | [], ws, h => by rw [show ws = [] from h]; exact ⟨rfl, rfl, rfl⟩
  | (f, d) :: r, ws, ⟨v, t, e, h, z⟩ => by
    subst e
    obtain ⟨a, b, c⟩ := isFs_parts z
    refine ⟨⟨v, _, rfl, h, a⟩, by simpa using b, ?_⟩
    simp only [List.map_cons, List.zip_cons_cons]
    rw [c]
/-- a caught exception as a value -/
theorem exc_val {K : PySem.W.Frag} {H : Hp} {e : Exc} {cls : Value} {dd : Option Addr} {a : Addr} {oe : Obj} (hx : IsX cl K H e cls dd) (ecl : cl e.cls = clA K e.cls) (ha : H a = none) (h1 : oe.cls = cls) (h2 : oe.dict = dd) (h3 : ∃ vs, oe.data = .fields vs) : IsV K (L2.upd H a (bareO a oe)) (excD e) (.ref a) := by
  obtain ⟨hc, hd⟩ := hx
  have kp := kp_new (o := bareO a oe) ha
  have cc : oe.cls = .ref (clA K e.cls) := by rw [h1, hc, ecl]
  rcases hd with ⟨e1, e2⟩ | ⟨d, ws, od, e1, e2, e3⟩
  · refine ⟨a, [], rfl, by rw [e1]; rfl, by rw [e1]; rfl, oe, _, L2.upd_same, cc, h3, .inl ⟨by rw [e1]; rfl, by rw [h2, e2]⟩⟩
  · obtain ⟨p1, p2, p3⟩ := isFs_parts (e3.kp kp)
    refine ⟨a, ws.map (·.2), rfl, p1, p2, oe, _, L2.upd_same, cc, h3, .inr ⟨d, od, by rw [h2, e1], ?_⟩⟩
    rw [p3]
    exact kp.frz _ _ _ e2
theorem unLaidB {fs ex : List Addr} {H : Hp} {h h' : Heap} {a : Addr} {o : HO} (k : ∀ b u, h.get? b = some u → h'.get? b = some u) (hp : h.get? a = none) (hn : H a = none) : L2.Un fs ex H (L2.upd H a o) h h' where
  keep := fun b u q _ _ _ => k b u q
  slot := fun b u q _ _ _ => ⟨u.slots, k b u q⟩
  free := fun b u q n _ => by rw [L2.upd_ne (fun z => by rw [z, hp] at q; cases q)]; exact n
  there := fun b u q _ => ⟨u, k b u q⟩
  tups := fun b xs q => by rw [L2.upd_ne (L2.ne_of_none q hn)]; exact q
  frzs := fun b u xs q => by rw [L2.upd_ne (L2.ne_of_none q hn)]; exact q
  tbls := fun b ps q => ⟨#[], by rw [L2.upd_ne (L2.ne_of_none q hn), q]; simp⟩
theorem hokLaidB {P : Program} {w : World} {H : Hp} {h h' : Heap} {a : Addr} {o : HO} (x : L2.HOk P w H h) (k : ∀ b u, h.get? b = some u → h'.get? b = some u) (hn : H a = none) (new : L2.ObjOk P w (L2.upd H a o) h' a o) : L2.HOk P w (L2.upd H a o) h' := fun b u e => by
  by_cases hb : b = a
  · subst hb
    rw [L2.upd_same] at e
    cases e
    exact new
  · rw [L2.upd_ne hb] at e
    exact (x b u e).stay (fun c v _ q => k c v q) (fun c q => by rw [L2.upd_ne (L2.ne_of_none q hn)]; exact q) fun c xs q => by rw [L2.upd_ne (L2.ne_of_none q hn)]; exact q
/-- an exception that is made, as a value -/
theorem pe_mkx {X : Cx} {e : Expr} {t : L2.St → Hp → L2.XK → Prop} (he : L2.PMk X e t) : PE X e fun σ H Q => t σ H fun cls d H' => ∀ a oe, H' a = none → oe.cls = cls → oe.dict = d → (∃ vs, oe.data = .fields vs) → Q (.ref a) (L2.upd H' a (bareO a oe)) := by
  refine ⟨fun pins s σ H Q I h => wpAny_mono (he pins s σ H _ I h) (fun u s1 hu => ?_) fun _ _ x => x⟩
  obtain ⟨a, oe, vs, sI, H', cls, d, rfl, J, k, hne, ha, hz, hd, h1, na, os, ag, r, q⟩ := hu
  have new : L2.ObjOk X.prog X.w (L2.upd H' a (bareO a oe)) s1.heap a (bareO a oe) := ⟨ha, ha, ⟨_, ha⟩, fun h1 h2 q k => k _ q⟩
  exact ⟨.ref a, _, J.call' (ch := []) os (unLaidB k hne na) (hokLaidB J.hok k na new) ag (fun b hb => nomatch hb), rfl, q a oe na hz.1 hz.2 ⟨vs, hd⟩⟩
theorem pe_mkx0D (G : Good cl c Γ k W sc X) (cool : c.hot = false) {x : Str} {j : Nat} {p pos : Pos} (hg : isGl sc x = true) (hx : c.exr.lookup x = some j) (he : excF j = []) :
    PEl cl W X (.Call (.Name x p) [] [] pos) fun _ _ m k => Γ.xc j = true ∧ k (excD ⟨j, []⟩) m := by
  obtain ⟨g1, g2, g3⟩ := isGl_ok G hg
  have R := G.exr x j hx
  refine pe_imp (pe_mkx (pmk_own0 PySem.F.excBase_ValueError (R.bare he) R.at_ R.kp (L2.raises_own R.ex R.ty) g1 g2)) fun σv H Q q => ?_
  obtain ⟨σ, m, k, E, hs, hr, ⟨hc, hz⟩, pp⟩ := q
  intro a oe ha h1 h2 h3
  exact pp.ok _ _ _ _ hz (exc_val (e := ⟨j, []⟩) (cl := cl) ⟨rfl, .inl ⟨rfl, rfl⟩⟩ (G.exa.ecl _ hc) ha h1 h2 h3) (hr.hid ha) (Ext.hid ha)
theorem pe_mkx1D (G : Good cl c Γ k W sc X) (cool : c.hot = false) {x : Str} {e : Expr} {j : Nat} {f : List Nat} {p pos : Pos} {t : Rd (List D)} (hg : isGl sc x = true) (hx : c.exr.lookup x = some j) (he : excF j = [f]) (h : PAl cl W X [e] t) (hp : plainE e = true) :
    PEl cl W X (.Call (.Name x p) [e] [] pos) fun E σ m k => Γ.xc j = true ∧ t E σ m fun ds m1 => k (excD ⟨j, (excF j).zip ds⟩) m1 := by
  obtain ⟨g1, g2, g3⟩ := isGl_ok G hg
  have R := G.exr x j hx
  obtain ⟨k2, T, no, fI, fd, ps, F, iC, tI, hb⟩ := R.ini f he
  have st := plain_star hp [] X.env
  refine pe_imp (pe_mkx (pmk_frz (L2.pmk_oex (ds := []) (dvs := []) T iC tI F ((G.room cool).room.mono (by decide)) hb .nil (fun _ _ _ _ _ _ _ z => by
    obtain ⟨_, _, _, _, _, _, _, _, _, _, _, _, z⟩ := z
    exact z.elim) g1 R.at_ h g2 st rfl))) fun σv H Q q => ?_
  obtain ⟨σ, m, k, E, hs, hr, ⟨hc, hq⟩, pp⟩ := q
  refine ⟨σ, m, _, E, hs, hr, hq, ⟨fun ds m1 vs H1 z s r ee => ?_, pp.ex⟩⟩
  obtain ⟨hn, hl⟩ := s
  match ds, hn, hl with
  | [d], _, hl =>
    obtain ⟨v, r0, ev, iv, er⟩ := hl
    rw [show r0 = [] from er] at ev
    subst ev
    refine ⟨by show 1 ≤ 1000; decide, fun a ha => ⟨a, cl j, v, rfl, T, no, L2.upd_same, fun dx n1 n2 => ?_⟩⟩
    have hd1 : H1 dx = none := by rw [L2.upd_ne n2] at n1; exact n1
    refine ⟨rfl, dx, [(SX.S f, v)], L2.upd_same, by rw [L2.upd_ne n2, L2.upd_same], hd1, dx, [(SX.S f, v)], rfl, L2.upd_same, fun od => ?_⟩
    have eH : L2.upd (L2.upd (L2.del (L2.upd (L2.upd (L2.upd H1 a (L2.exo a (cl j) none)) dx (L2.exd dx [(SX.S f, v)])) a (L2.exo a (cl j) (some dx))) a) dx (.xd [(SX.S f, v)])) dx (.frz od (.xd [(SX.S f, v)])) = L2.upd H1 dx (.frz od (.xd [(SX.S f, v)])) := by
      funext b
      by_cases hb : b = dx
      · subst hb
        rw [L2.upd_same, L2.upd_same]
      · rw [L2.upd_ne hb, L2.upd_ne hb, L2.upd_ne hb]
        by_cases hba : b = a
        · subst hba
          rw [L2.del_same, ha]
        · rw [L2.del_ne hba, L2.upd_ne hba, L2.upd_ne hb, L2.upd_ne hba]
    rw [eH]
    have kp := kp_new (o := HO.frz od (.xd [(SX.S f, v)])) hd1
    intro a2 oe2 ha2 h1 h2 h3
    refine pp.ok _ _ _ _ z (exc_val (e := ⟨j, (excF j).zip [d]⟩) (cl := cl) ⟨rfl, .inr ⟨dx, [(SX.S f, v)], od, rfl, L2.upd_same, ?_⟩⟩ (G.exa.ecl _ hc) ha2 h1 h2 h3) ((r.hid hd1).hid ha2) ((ee.trans (Ext.hid hd1)).trans (Ext.hid ha2))
    rw [he]
    exact ⟨v, [], rfl, iv.kp kp, rfl⟩
end
end DL

namespace DL
open PySem PySem.Spec PyProof.Rows
open L2 (V Hp HO SqL SqT TE TT TA TS TG TGs Cx Inv PE PT PW PA PS PSs PG PGs RelV Vals WX OpR UnR CallR IxR SlR MtR It TI PI)
/-- expressions whose truth is asked of their value -/
def atomT : Ex → Bool
  | .and .. => false | .or .. => false | .not .. => false | .cmp .. => false | .cmp2 .. => false | .cmpN .. => false
  | _ => true
theorem rT_rE {Γ : En} {E : XK} {x : Ex} (h : atomT x = true) {σ : St} {m : Mem} {k : Bool → Mem → Prop} (q : rT Γ E x σ m k) : rE Γ E x σ m fun d m1 => rTru d m1 fun p => k p m1 := by
  cases x <;> simp only [atomT, Bool.false_eq_true] at h <;> simp only [rT, rE] at q ⊢ <;> first | exact q.elim | exact q
/-- code whose truth is that of its value -/
def atomE : Expr → Bool
  | .UnaryOp .Not _ _ => false
  | .BoolOp .. => false
  | .IfExp .. => false
  | .Compare .. => false
  | _ => true
theorem atom_true {e : Expr} (h : atomE e = true) (env : Env) (whole : Sem Value) : isTrue e env whole = (do let v ← whole; standAt e.pos; holding [v] (truthy v)) := by
  cases e <;> first | rfl | cases h | skip
  rename_i o x p
  cases o <;> first | rfl | cases h
section
variable {cl : Nat → Addr} {c : Ctx} {Γ : En} {k : Nat}
/-- range(..)'s parts -/
def SndR (cl : Nat → Addr) (c : Ctx) (Γ : En) (k n : Nat) : Prop := ∀ {W : WX} {sc : Scope} {X : Cx}, Good cl c Γ k W sc X → ∀ {e tg : Expr} {x : Src}, isRng [e] = true → cSrc c n sc tg e = some x →
  (∀ y, x = .rng1 y → ∃ a p q, e = .Call (.Name "range" p) [a] [] q ∧ isGl sc "range" = true ∧ ("range" : Str) ∈ c.free ∧ plainE a = true ∧ PEl cl W X a fun E => rE Γ E y) ∧
  (∀ y z, x = .rng2 y z → ∃ a b p q, e = .Call (.Name "range" p) [a, b] [] q ∧ isGl sc "range" = true ∧ ("range" : Str) ∈ c.free ∧ plainE a = true ∧ plainE b = true ∧ (PEl cl W X a fun E => rE Γ E y) ∧ PEl cl W X b fun E => rE Γ E z)
/-- a chain's tests -/
def ChOk (cl : Nat → Addr) (W : WX) (X : Cx) (Γ : En) (os : List CmpOp) (bs : List Expr) (ch : Chn) : Prop := ∀ (pos : Pos) (pins : List (Addr × Obj)) (s : Shared) (σ : L2.St) (H : Hp) (Q : Bool → Hp → Prop) (y : D) (v : V) (lv : Value), Inv X pins σ H s → RelV v lv → IsV X.K H y v →
  Lift cl X.K W RB (fun E => rCh Γ E ch y) σ H Q → wpAny (model X.prog X.w) X.A (testChain pos lv os (evalEach bs X.env)) (L2.TP X pins σ Q) X.xe s
structure Snd (cl : Nat → Addr) (c : Ctx) (Γ : En) (k n : Nat) : Prop where
  e : ∀ {W : WX} {sc : Scope} {X : Cx}, Good cl c Γ k W sc X → ∀ {e : Expr} {x : Ex}, cE c n sc e = some x → PEl cl W X e fun E => rE Γ E x
  t : ∀ {W : WX} {sc : Scope} {X : Cx}, Good cl c Γ k W sc X → ∀ {e : Expr} {x : Ex}, cE c n sc e = some x → PTl cl W X e fun E => rT Γ E x
  w : ∀ {W : WX} {sc : Scope} {X : Cx}, Good cl c Γ k W sc X → ∀ {o : BoolOp} {es : List Expr} {q : Pos} {x : Ex}, cE c n sc (.BoolOp o es q) = some x → PWl cl W X (.BoolOp o es q) fun E => rT Γ E x
  p : ∀ {W : WX} {sc : Scope} {X : Cx}, Good cl c Γ k W sc X → ∀ {e : Option Expr} {x : Ex}, cP c n sc e = some x → POl cl W X e fun E => rP Γ E x
  a : ∀ {W : WX} {sc : Scope} {X : Cx}, Good cl c Γ k W sc X → ∀ {es : List Expr} {x : Exs}, cEs c n sc es = some x → PAl cl W X es (fun E => rEs Γ E x) ∧ es.all plainE = true
  i : ∀ {W : WX} {sc : Scope} {X : Cx}, Good cl c Γ k W sc X → ∀ {es : List Expr} {x : Ex}, cIf c n sc es = some x → L2.PTs X es (Lift cl X.K W RB fun E => rT Γ E x)
  s : ∀ {W : WX} {sc : Scope} {X : Cx}, Good cl c Γ k W sc X → ∀ {tg e : Expr} {x : Src}, cSrc c n sc tg e = some x → PIl cl W X tg e fun E => rSrc Γ E x
  r : SndR cl c Γ k n
  d : ∀ {W : WX} {sc : Scope} {X : Cx}, Good cl c Γ k W sc X → ∀ {pos : Pos} {keys : List (Option Expr)} {ks : List (List Nat)} {es : List Expr} {x : Exs}, ksOf keys = some ks → keys.length = es.length → cEs c n sc es = some x → PPl cl W X pos keys es fun E => rEs Γ E x
  h : ∀ {W : WX} {sc : Scope} {X : Cx}, Good cl c Γ k W sc X → ∀ {os : List CmpOp} {bs : List Expr} {x : Chn}, cCh c n sc os bs = some x → ChOk cl W X Γ os bs x ∧ lastMarks os bs = false
theorem snd_zero : Snd cl c Γ k 0 := by
  constructor <;> first | (intros; rename_i h; cases h) | (intro _ _ _ _ _ _ _ _ h; cases h)
section
variable {n : Nat} {W : WX} {sc : Scope} {X : Cx}
theorem pe_dnD {pos : Pos} : PEl cl W X (.Dict [] [] pos) fun E => rE Γ E .dn := ⟨fun pins s σ H Q I q => by
  obtain ⟨σ', m, k, E, hs, hr, ht, p⟩ := q
  rcases ht with ht | ht
  · exact (pe_dnKD (cl := cl) (W := W)).run pins s σ H Q I ⟨σ', m, k, E, hs, hr, ht, p⟩
  · exact (pe_dnTD (cl := cl) (W := W)).run pins s σ H Q I ⟨σ', m, k, E, hs, hr, ht, p⟩⟩
theorem snd_p (S : Snd cl c Γ k n) (G : Good cl c Γ k W sc X) {e : Option Expr} {x : Ex} (h : cP c (n + 1) sc e = some x) : POl cl W X e fun E => rP Γ E x := by
  cases e with
  | none =>
    cases h
    exact po_noneD
  | some e =>
    simp only [cP] at h
    obtain ⟨y, hy, h⟩ := Option.bind_eq_some_iff.mp h
    have pe := po_someD (S.e G hy)
    refine ⟨fun pins s σ H Q I q => pe.run pins s σ H Q I (q.imp fun E σ' m k' z => ?_)⟩
    split at h <;> cases h
    · simp only [rP, rE] at z ⊢
      split at z
      · rename_i j e1
        rw [e1]
        exact ⟨j, rfl, z⟩
      · exact z.elim
    · exact ⟨_, rfl, z⟩
    · exact z
    · exact z
    · exact z
    · exact ⟨_, rfl, z⟩
    · exact z
theorem snd_a (S : Snd cl c Γ k n) (G : Good cl c Γ k W sc X) {es : List Expr} {x : Exs} (h : cEs c (n + 1) sc es = some x) : PAl cl W X es (fun E => rEs Γ E x) ∧ es.all plainE = true := by
  cases es with
  | nil =>
    cases h
    exact ⟨pa_nilD, rfl⟩
  | cons e r =>
    simp only [cEs] at h
    by_cases hp : plainE e = true
    · rw [if_pos hp] at h
      obtain ⟨y, hy, h⟩ := Option.bind_eq_some_iff.mp h
      obtain ⟨z, hz, h⟩ := Option.map_eq_some_iff.mp h
      subst h
      obtain ⟨a, b⟩ := S.a G hz
      exact ⟨pa_consD hp (S.e G hy) a, by rw [List.all_cons, hp, b]; rfl⟩
    · rw [if_neg hp] at h
      cases h
theorem snd_d (S : Snd cl c Γ k n) (G : Good cl c Γ k W sc X) {pos : Pos} {keys : List (Option Expr)} {ks : List (List Nat)} {es : List Expr} {x : Exs} (hk : ksOf keys = some ks) (hl : keys.length = es.length) (h : cEs c (n + 1) sc es = some x) : PPl cl W X pos keys es fun E => rEs Γ E x := by
  cases es with
  | nil =>
    cases h
    cases keys with
    | nil => exact ppl_nil
    | cons a r => cases hl
  | cons e r =>
    simp only [cEs] at h
    by_cases hp : plainE e = true
    · rw [if_pos hp] at h
      obtain ⟨y, hy, h⟩ := Option.bind_eq_some_iff.mp h
      obtain ⟨z, hz, h⟩ := Option.map_eq_some_iff.mp h
      subst h
      cases keys with
      | nil => cases hl
      | cons a kr =>
        unfold ksOf at hk
        split at hk
        · rename_i e
          cases e
        · rename_i q _ _ r' e
          cases e
          obtain ⟨kt, hk2, rfl⟩ := Option.map_eq_some_iff.mp hk
          exact ppl_cons (S.e G hy) (S.d G hk2 (by simpa using hl) hz)
        · cases hk
    · rw [if_neg hp] at h
      cases h
theorem snd_i (S : Snd cl c Γ k n) (G : Good cl c Γ k W sc X) {es : List Expr} {x : Ex} (h : cIf c (n + 1) sc es = some x) : L2.PTs X es (Lift cl X.K W RB fun E => rT Γ E x) := by
  cases es with
  | nil =>
    cases h
    exact ⟨fun pins s σ H Q I q => L2.pts_nil.run pins s σ H Q I (q.at0 (fun _ _ _ _ z => z) rfl)⟩
  | cons e r =>
    cases r with
    | cons f r => simp [cIf] at h
    | nil =>
      simp only [cIf] at h
      obtain ⟨y, hy, h⟩ := Option.bind_eq_some_iff.mp h
      have pt := L2.pts_one (S.t G hy)
      split at h
      · cases h
      · cases h
        exact pt
theorem isTup_eq {e : Expr} (h : isTup e = true) : ∃ elts kk p, e = .Tuple elts kk p := by
  cases e <;> first | exact ⟨_, _, _, rfl⟩ | cases h
theorem snd_s (S : Snd cl c Γ k n) (G : Good cl c Γ k W sc X) {tg e : Expr} {x : Src} (h : cSrc c (n + 1) sc tg e = some x) : PIl cl W X tg e fun E => rSrc Γ E x := by
  simp only [cSrc] at h
  by_cases hp : plainE e = true
  · rw [if_pos hp] at h
    have of_ : ∀ {e : Expr} {x : Src}, (cE c n sc e).map Src.of = some x → PIl cl W X tg e fun E => rSrc Γ E x := fun h => by
      obtain ⟨y, hy, h⟩ := Option.map_eq_some_iff.mp h
      subst h
      exact pi_ofD (S.e G hy)
    split at h
    · rename_i x0 p a q
      by_cases hx : x0 = "range"
      · rw [if_pos hx] at h
        subst hx
        split at h
        · rename_i hh
          obtain ⟨y, hy, h⟩ := Option.map_eq_some_iff.mp h
          subst h
          exact pi_rng1D G hh.1 hh.2.1 hh.2.2 (S.e G hy)
        · cases h
      · rw [if_neg hx] at h
        by_cases hx2 : x0 = "enumerate"
        · rw [if_pos hx2] at h
          subst hx2
          split at h
          · rename_i hh
            obtain ⟨y, hy, h⟩ := Option.map_eq_some_iff.mp h
            subst h
            obtain ⟨elts, kk, tp, rfl⟩ := isTup_eq hh.1
            exact pi_enumD G hh.2.1 hh.2.2.1 hh.2.2.2 (S.e G hy)
          · cases h
        · rw [if_neg hx2] at h
          by_cases hx3 : x0 = "reversed"
          · rw [if_pos hx3] at h
            subst hx3
            split at h
            · rename_i hh
              obtain ⟨y, hy, h⟩ := Option.map_eq_some_iff.mp h
              subst h
              exact pi_revD G hh.1 hh.2.1 hh.2.2 (S.e G hy)
            · cases h
          · rw [if_neg hx3] at h
            exact of_ h
    · rename_i x0 p a b q
      by_cases hx : x0 = "range"
      · rw [if_pos hx] at h
        subst hx
        split at h
        · rename_i hh
          obtain ⟨y, hy, h⟩ := Option.bind_eq_some_iff.mp h
          obtain ⟨z, hz, h⟩ := Option.map_eq_some_iff.mp h
          subst h
          exact pi_rng2D G hh.1 hh.2.1 hh.2.2.1 hh.2.2.2 (S.e G hy) (S.e G hz)
        · cases h
      · rw [if_neg hx] at h
        by_cases hx2 : x0 = "zip"
        · rw [if_pos hx2] at h
          subst hx2
          split at h
          · rename_i hh
            obtain ⟨y, hy, h⟩ := Option.bind_eq_some_iff.mp h
            obtain ⟨z, hz, h⟩ := Option.map_eq_some_iff.mp h
            subst h
            obtain ⟨elts, kk, tp, rfl⟩ := isTup_eq hh.1
            exact pi_zipD G hh.2.1 hh.2.2.1 hh.2.2.2.1 hh.2.2.2.2 (S.e G hy) (S.e G hz)
          · cases h
        · rw [if_neg hx2] at h
          exact of_ h
    · rename_i x0 p a b d q
      by_cases hx : x0 = "range"
      · rw [if_pos hx] at h
        subst hx
        split at h
        · rename_i hh
          obtain ⟨y, hy, h⟩ := Option.bind_eq_some_iff.mp h
          obtain ⟨z, hz, h⟩ := Option.bind_eq_some_iff.mp h
          obtain ⟨w, hw, h⟩ := Option.map_eq_some_iff.mp h
          subst h
          exact pi_rng3D G hh.1 hh.2.1 hh.2.2.1 hh.2.2.2.1 hh.2.2.2.2 (S.e G hy) (S.e G hz) (S.e G hw)
        · cases h
      · rw [if_neg hx] at h
        exact of_ h
    · exact of_ h
  · rw [if_neg hp] at h
    cases h
theorem snd_r (S : Snd cl c Γ k n) : SndR cl c Γ k (n + 1) := by
  intro W sc X G e tg x hr h
  simp only [cSrc] at h
  by_cases hp : plainE e = true
  · rw [if_pos hp] at h
    split at h
    · rename_i x0 p a q
      have hx : x0 = "range" := by simpa [isRng] using hr
      rw [if_pos hx] at h
      subst hx
      split at h
      · rename_i hh
        obtain ⟨y, hy, h⟩ := Option.map_eq_some_iff.mp h
        subst h
        refine ⟨fun z e => ?_, fun _ _ e => by cases e⟩
        cases e
        exact ⟨a, p, q, rfl, hh.1, hh.2.1, hh.2.2, S.e G hy⟩
      · cases h
    · rename_i x0 p a b q
      have hx : x0 = "range" := by simpa [isRng] using hr
      rw [if_pos hx] at h
      subst hx
      split at h
      · rename_i hh
        obtain ⟨y, hy, h⟩ := Option.bind_eq_some_iff.mp h
        obtain ⟨z, hz, h⟩ := Option.map_eq_some_iff.mp h
        subst h
        refine ⟨fun _ e => (by cases e), fun _ _ e => ?_⟩
        cases e
        exact ⟨a, b, p, q, rfl, hh.1, hh.2.1, hh.2.2.1, hh.2.2.2, S.e G hy, S.e G hz⟩
      · cases h
    · rename_i x0 p a b d q
      have hx : x0 = "range" := by simpa [isRng] using hr
      rw [if_pos hx] at h
      split at h
      · obtain ⟨y, hy, h⟩ := Option.bind_eq_some_iff.mp h
        obtain ⟨z, hz, h⟩ := Option.bind_eq_some_iff.mp h
        obtain ⟨w, hw, h⟩ := Option.map_eq_some_iff.mp h
        subst h
        exact ⟨fun _ e => (by cases e), fun _ _ e => (by cases e)⟩
      · cases h
    · obtain ⟨y, hy, h⟩ := Option.map_eq_some_iff.mp h
      subst h
      exact ⟨fun _ e => (by cases e), fun _ _ e => (by cases e)⟩
  · rw [if_neg hp] at h
    cases h
theorem snd_rg (S : SndR cl c Γ k n) (G : Good cl c Γ k W sc X) {args : List Expr} {p q : Pos} {x : Ex} (hl : isGl sc "list" = true) (hm : ("list" : Str) ∈ c.free)
    (h : (match args with
      | [e] => (cSrc c n sc e e).bind srcRg
      | _ => none) = some x) (hr : isRng args = true) : PEl cl W X (.Call (.Name "list" p) args [] q) fun E => rE Γ E x := by
  split at h
  · rename_i e
    obtain ⟨y, hy, h⟩ := Option.bind_eq_some_iff.mp h
    obtain ⟨s1, s2⟩ := S G hr hy
    unfold srcRg at h
    split at h
    · cases h
      obtain ⟨a, p1, q1, rfl, g1, g2, g3, ha⟩ := s1 _ rfl
      exact pe_imp (pe_lrg1 G hl hm g1 g2 g3 ha) fun σ H Q z => z.imp fun E σ m k z => z
    · cases h
      obtain ⟨a, b, p1, q1, rfl, g1, g2, g3, g4, ha, hb⟩ := s2 _ _ rfl
      exact pe_imp (pe_lrg2 G hl hm g1 g2 g3 g4 ha hb) fun σ H Q z => z.imp fun E σ m k z => z
    · cases h
  · cases h
theorem isLc_plain {e : Expr} (h : isLc [e] = true) : plainE e = true := by
  cases e <;> first | rfl | cases h
theorem snd_call (S : Snd cl c Γ k n) (G : Good cl c Γ k W sc X) {f : Str} {args : List Expr} {p q : Pos} {x : Ex}
    (h : (if isGl sc f then match c.own.lookup f with
        | some (g, ar) => if args.length = ar then (cEs c n sc args).map (.call g) else none
        | none => match c.cls.lookup f with
        | some (C, ar) => if args.length = ar then (cEs c n sc args).map (.new C) else none
        | none => if f ∈ c.free then
            if f = "isinstance" then match args with
              | [a, .Name t _] => match exOf c sc t with
                | some k => if plainE a = true then (cE c n sc a).map (.isx [k]) else none
                | none => if isGl sc t ∧ t ∈ c.free ∧ plainE a = true then (tyOf t).bind fun b => (cE c n sc a).map fun a => .blt b (.c a .n) else none
              | [a, .Tuple ts _ _] => match exsOf c sc ts with
                | some ks => if plainE a = true ∧ ts.length ≤ 1000 then (cE c n sc a).map (.isx ks) else none
                | none => match ts with
                  | [.Name t _, .Name t2 _] => if isGl sc t ∧ t ∈ c.free ∧ isGl sc t2 ∧ t2 ∈ c.free ∧ plainE a = true then (tyOf t).bind fun b => (tyOf t2).bind fun b2 => (cE c n sc a).map fun a => .isi2 b b2 a else none
                  | _ => none
              | _ => none
            else if f = "dict" ∧ isZip args = true then match args with
              | [.Call (.Name z _) [a, b] [] _] => if isGl sc z ∧ z ∈ c.free ∧ plainE a = true ∧ plainE b = true then (cE c n sc a).bind fun a => (cE c n sc b).map fun b => .dz a b else none
              | _ => none
            else if f = "dict" ∧ isLc args = true then match args with
              | [e] => (cE c n sc e).map .dps
              | _ => none
            else if f = "list" ∧ isVls args = true then match args with
              | [.Call (.Attribute o _ ap) [] [] p2] => if baseE o = true ∧ (ap.endLine == p2.line) = true then (cE c n sc o).map .lvs else none
              | _ => none
            else if f = "list" ∧ isRng args = true then match args with
              | [e] => (cSrc c n sc e e).bind srcRg
              | _ => none
            else (bltOf f args.length).bind fun b => (cEs c n sc args).map (.blt b)
          else match mkOf c f args.length with
            | some j => (cEs c n sc args).map (.mkx j)
            | none => none
      else none) = some x) : PEl cl W X (.Call (.Name f p) args [] q) fun E => rE Γ E x := by
  by_cases hg : isGl sc f = true
  · rw [if_pos hg] at h
    split at h
    · rename_i g ar ho
      split at h
      · rename_i hh
        obtain ⟨y, hy, h⟩ := Option.map_eq_some_iff.mp h
        subst h
        obtain ⟨a, b⟩ := S.a G hy
        cases args with
        | nil =>
          have hh2 : ar = 0 := hh.symm
          subst hh2
          have ey : y = .n := by
            cases n with
            | zero => cases hy
            | succ n => cases hy; rfl
          subst ey
          exact pe_call0D G hg ho
        | cons e r => exact pe_callD G hg ho hh b a
      · cases h
    · rename_i ho
      split at h
      · rename_i C ar hc
        split at h
        · rename_i hh
          obtain ⟨y, hy, h⟩ := Option.map_eq_some_iff.mp h
          subst h
          obtain ⟨a, b⟩ := S.a G hy
          cases args with
          | nil =>
            have hh2 : ar = 0 := hh.symm
            subst hh2
            have ey : y = .n := by
              cases n with
              | zero => cases hy
              | succ n => cases hy; rfl
            subst ey
            exact pe_new0D G hg hc
          | cons e r => exact pe_newD G hg hc hh b a
        · cases h
      by_cases hf : f ∈ c.free
      · rw [if_pos hf] at h
        by_cases hi : f = "isinstance"
        · rw [if_pos hi] at h
          subst hi
          split at h
          · rename_i a t pt
            split at h
            · rename_i j hj
              split at h
              · rename_i hp
                obtain ⟨y, hy, h⟩ := Option.map_eq_some_iff.mp h
                subst h
                exact pe_isx1D G hg hf hj hp (S.e G hy)
              · cases h
            split at h
            · rename_i hh
              obtain ⟨b, hb, h⟩ := Option.bind_eq_some_iff.mp h
              obtain ⟨y, hy, h⟩ := Option.map_eq_some_iff.mp h
              subst h
              exact pe_isiD G hg hf hh.1 hh.2.1 hb hh.2.2 (S.e G hy)
            · cases h
          · rename_i a ts kk pq
            split at h
            · rename_i ks hks
              split at h
              · rename_i hp
                obtain ⟨y, hy, h⟩ := Option.map_eq_some_iff.mp h
                subst h
                exact pe_isxTD G hg hf hks hp.2 hp.1 (S.e G hy)
              · cases h
            split at h
            · rename_i t pt t2 pt2
              split at h
              · rename_i hh
                obtain ⟨b, hb, h⟩ := Option.bind_eq_some_iff.mp h
                obtain ⟨b2, hb2, h⟩ := Option.bind_eq_some_iff.mp h
                obtain ⟨y, hy, h⟩ := Option.map_eq_some_iff.mp h
                subst h
                exact pe_isi2D G hg hf hh.1 hh.2.1 hh.2.2.1 hh.2.2.2.1 hb hb2 hh.2.2.2.2 (S.e G hy)
              · cases h
            · cases h
          · cases h
        · rw [if_neg hi] at h
          by_cases hz : f = "dict" ∧ isZip args = true
          · rw [if_pos hz] at h
            obtain ⟨h1, h2⟩ := hz
            subst h1
            split at h
            · rename_i z pz a b qz
              have hzz : z = "zip" := by simpa [isZip] using h2
              subst hzz
              split at h
              · rename_i hh
                obtain ⟨ya, ha, h⟩ := Option.bind_eq_some_iff.mp h
                obtain ⟨yb, hb, h⟩ := Option.map_eq_some_iff.mp h
                subst h
                exact pe_dzD G hg hf hh.1 hh.2.1 hh.2.2.1 hh.2.2.2 (S.e G ha) (S.e G hb)
              · cases h
            · cases h
          rw [if_neg hz] at h
          by_cases hz2 : f = "dict" ∧ isLc args = true
          · rw [if_pos hz2] at h
            obtain ⟨h1, h2⟩ := hz2
            subst h1
            split at h
            · obtain ⟨y, hy, h⟩ := Option.map_eq_some_iff.mp h
              subst h
              exact pe_dpsD G hg hf (isLc_plain h2) (S.e G hy)
            · cases h
          rw [if_neg hz2] at h
          by_cases hv : f = "list" ∧ isVls args = true
          · rw [if_pos hv] at h
            obtain ⟨h1, h2⟩ := hv
            subst h1
            split at h
            · rename_i o mm ap p2
              split at h
              · rename_i hh
                obtain ⟨y, hy, h⟩ := Option.map_eq_some_iff.mp h
                subst h
                exact pe_lvsD G (by simpa [isVls] using h2) hg hf hh.1 hh.2 (S.e G hy)
              · cases h
            · cases h
          rw [if_neg hv] at h
          by_cases hr : f = "list" ∧ isRng args = true
          · rw [if_pos hr] at h
            obtain ⟨h1, h2⟩ := hr
            subst h1
            exact snd_rg S.r G hg hf h h2
          rw [if_neg hr] at h
          obtain ⟨b, hb, h⟩ := Option.bind_eq_some_iff.mp h
          obtain ⟨y, hy, h⟩ := Option.map_eq_some_iff.mp h
          subst h
          obtain ⟨a, b'⟩ := S.a G hy
          cases args with
          | nil => exact absurd (tabOf_mem hb) (by simp [bltTab])
          | cons e r => exact pe_bltD G hg hf hb b' a
      · rw [if_neg hf] at h
        split at h
        · rename_i j hj
          obtain ⟨y, hy, h⟩ := Option.map_eq_some_iff.mp h
          subst h
          unfold mkOf at hj
          split at hj
          · cases hj
          rename_i nh
          have cool : c.hot = false := by simpa using nh
          obtain ⟨j', h1, h2⟩ := Option.bind_eq_some_iff.mp hj
          split at h2
          · rename_i hl
            cases h2
            obtain ⟨a1, a2⟩ := S.a G hy
            match args, a1, a2, hl, hy with
            | [], a1, a2, hl, hy =>
              have ey : y = .n := by
                cases n with
                | zero => cases hy
                | succ n => cases hy; rfl
              subst ey
              refine pe_imp (pe_mkx0D G cool hg h1 (List.length_eq_zero_iff.mp hl)) fun σ H Q q => Lift.imp (fun E σ m k z => ?_) q
              have z : Γ.xc j = true ∧ k (excD ⟨j, (excF j).zip []⟩) m := z
              rw [List.zip_nil_right] at z
              exact z
            | [e], a1, a2, hl, hy =>
              obtain ⟨fl, ex⟩ : ∃ fl, excF j = [fl] := by
                match q : excF j, hl with
                | [fl], _ => exact ⟨fl, rfl⟩
              exact pe_mkx1D G cool hg h1 ex a1 (by simpa using a2)
            | e1 :: e2 :: r, a1, a2, hl, hy =>
              have : (excF j).length ≤ 1 := by
                unfold excF
                (repeat' split) <;> decide
              rw [hl] at this
              simp at this
          · cases h2
        · cases h
  · rw [if_neg hg] at h
    cases h
theorem snd_h (S : Snd cl c Γ k n) (G : Good cl c Γ k W sc X) {os : List CmpOp} {bs : List Expr} {x : Chn} (h : cCh c (n + 1) sc os bs = some x) : ChOk cl W X Γ os bs x ∧ lastMarks os bs = false := by
  match os, bs, h with
  | [o], [b], h =>
    simp only [cCh] at h
    split at h
    · rename_i hp
      obtain ⟨p, hp', h⟩ := Option.bind_eq_some_iff.mp h
      obtain ⟨e, he, h⟩ := Option.map_eq_some_iff.mp h
      subst h
      refine ⟨fun pos pins s σ H Q y v lv I rv hy q => ?_, plain_behind hp o⟩
      refine test_last (L2.thn ((S.e G he).run pins s σ H (fun w H1 => ∃ z, IsV X.K H1 z w ∧ IsV X.K H1 y v ∧ Lift cl X.K W RB (fun _ _ m k => rCmp p y z m fun q => k q m) σ H1 Q) I
        (Lift.then_ (S := RV X.K) (R := RB) (u := fun z E σ m1 k => rCmp p y z m1 fun q => k q m1) q fun z w H1 kp hz l => ⟨z, hz, hy.kp kp, l⟩)) ?_)
      rintro u s1 ⟨w, H1, I1, rw, z, hz, hy1, l⟩
      refine L2.thn (cmpR G hp' pins s1 σ H1 v w lv u (fun b' H2 => ∃ b, b' = .bl b ∧ Q b H2) I1 rv rw (lop_of_lift (r := cV (rCmp p)) hy1 hz (Lift.truth (t := fun _ _ m k => cV (rCmp p) y z m k) l fun _ _ _ _ z => z))) ?_
      rintro d s2 ⟨bv, H2, I2, r2, b, eb, qb⟩
      subst eb
      cases r2
      exact wpAny_truthy_bool ⟨H2, I2, qb⟩
    · cases h
  | o :: p :: os, b :: d :: bs, h =>
    simp only [cCh] at h
    obtain ⟨o', ho', h⟩ := Option.bind_eq_some_iff.mp h
    obtain ⟨e, he, h⟩ := Option.bind_eq_some_iff.mp h
    obtain ⟨r, hr, h⟩ := Option.map_eq_some_iff.mp h
    subst h
    obtain ⟨ih, im⟩ := S.h G hr
    refine ⟨fun pos pins s σ H Q y v lv I rv hy q => ?_, im⟩
    refine test_link (L2.thn ((S.e G he).run pins s σ H (fun w H1 => ∃ z, IsV X.K H1 z w ∧ IsV X.K H1 y v ∧ Lift cl X.K W RB (fun E σ m k => rCmp o' y z m fun q => (q = true → rCh Γ E r z σ m k) ∧ (q = false → k false m)) σ H1 Q) I
      (Lift.then_ (S := RV X.K) (R := RB) (u := fun z E σ m1 k => rCmp o' y z m1 fun q => (q = true → rCh Γ E r z σ m1 k) ∧ (q = false → k false m1)) q fun z w H1 kp hz l => ⟨z, hz, hy.kp kp, l⟩)) ?_)
    rintro u s1 ⟨w, H1, I1, rw, z, hz, hy1, l⟩
    refine L2.thn (cmpR G ho' pins s1 σ H1 v w lv u (fun b' H2 => ∃ b, b' = .bl b ∧ (b = true → IsV X.K H2 z w ∧ Lift cl X.K W RB (fun E => rCh Γ E r z) σ H2 Q) ∧ (b = false → Q false H2)) I1 rv rw ?_) ?_
    · obtain ⟨σ', m, k', E, hs, hm, ht, pp⟩ := l
      refine ⟨y, z, m, bOf fun q m2 => (q = true → rCh Γ E r z σ' m2 k') ∧ (q = false → k' false m2), hy1, hz, hm, ht, fun dd m' u H' zz su sr se => ?_⟩
      cases dd <;> first | exact zz.elim | skip
      rename_i b
      exact ⟨b, su, fun e => ⟨hz.kp (hm.kp se), σ', m', k', E, hs.kp (hm.kp se), sr, zz.1 e, pp.step se⟩, fun e => pp.ok _ _ _ _ (zz.2 e) rfl sr se⟩
    · rintro dv s2 ⟨bv, H2, I2, r2, b, eb, q1, q2⟩
      subst eb
      cases r2
      refine wpAny_truthy_bool ?_
      cases b with
      | false => exact ite_ff ⟨H2, I2, q2 rfl⟩
      | true =>
        obtain ⟨hz2, l⟩ := q1 rfl
        exact ite_tt (ih pos pins s2 σ H2 Q z w u I2 rw hz2 l)
theorem pt_chD (G : Good cl c Γ k W sc X) {a b d : Expr} {o p : CmpOp} {os : List CmpOp} {bs : List Expr} {pos : Pos} {ta : Rd D} {x : Chn} (ha : PEl cl W X a ta) (h : ChOk cl W X Γ (o :: p :: os) (b :: d :: bs) x) (hm : lastMarks (o :: p :: os) (b :: d :: bs) = false) :
    PTl cl W X (.Compare a (o :: p :: os) (b :: d :: bs) pos) fun E σ m k => ta E σ m fun y m1 => rCh Γ E x y σ m1 k := by
  refine ⟨fun pins s σ H Q I q => isTrue_chain (L2.thn (ha.run pins s σ H (fun w H1 => ∃ y, IsV X.K H1 y w ∧ Lift cl X.K W RB (fun E => rCh Γ E x y) σ H1 Q) I
    (Lift.then_ (S := RV X.K) (R := RB) (u := fun y E => rCh Γ E x y) q fun y w H1 kp hy l => ⟨y, hy, l⟩)) ?_) hm⟩
  rintro u s1 ⟨w, H1, I1, rw, y, hy, l⟩
  exact h pos pins s1 σ H1 Q y w u I1 rw hy l
theorem snd_mth (S : Snd cl c Γ k n) (G : Good cl c Γ k W sc X) {o : Expr} {mm : Str} {args : List Expr} {ap p : Pos} {x : Ex}
    (h : (match c.mth.lookup (rk o, mm) with
      | some (C, ar) => if args.length = ar ∧ ar < 30 ∧ (ap.endLine == p.line) = true ∧ baseE o = true then (cE c n sc o).bind fun o => (cEs c n sc args).map fun as => .mth C mm.cps.toList o as else none
      | none => (bmOf c.bd (rk o) mm args.length).bind fun b => if (ap.endLine == p.line) = true ∧ baseE o = true then (cE c n sc o).bind fun o => (cEs c n sc args).map fun as => .bm b o as else none) = some x) : PEl cl W X (.Call (.Attribute o mm ap) args [] p) fun E => rE Γ E x := by
  split at h
  · rename_i C ar hm
    split at h
    · rename_i hh
      obtain ⟨h1, h2, h3, h4⟩ := hh
      obtain ⟨y, hy, h⟩ := Option.bind_eq_some_iff.mp h
      obtain ⟨z, hz, h⟩ := Option.map_eq_some_iff.mp h
      subst h
      obtain ⟨a, b'⟩ := S.a G hz
      cases args with
      | nil =>
        have h1' : ar = 0 := h1.symm
        subst h1'
        have ez : z = .n := by
          cases n with
          | zero => cases hz
          | succ n => cases hz; rfl
        subst ez
        exact pe_mth0D G h4 h3 hm (S.e G hy)
      | cons e r => exact pe_mthD G h4 h3 hm h1 h2 b' (S.e G hy) a
    · cases h
  obtain ⟨b, hb, h⟩ := Option.bind_eq_some_iff.mp h
  split at h
  · rename_i hh
    obtain ⟨h2, h3⟩ := hh
    obtain ⟨y, hy, h⟩ := Option.bind_eq_some_iff.mp h
    obtain ⟨z, hz, h⟩ := Option.map_eq_some_iff.mp h
    subst h
    obtain ⟨a, b'⟩ := S.a G hz
    cases args with
    | nil =>
      have ez : z = .n := by
        cases n with
        | zero => cases hz
        | succ n => cases hz; rfl
      subst ez
      exact pe_bm0D G hb h2 h3 (S.e G hy)
    | cons e r => exact pe_bmD G hb h2 h3 b' (S.e G hy) a
  · cases h
theorem snd_lc (S : Snd cl c Γ k n) (G : Good cl c Γ k W sc X) {elt tg it : Expr} {ifs : List Expr} {scope : Scope} {p : Pos} {x : Ex}
    (h : (if c.hot = true then none else (ownOf c.N scope.names).bind fun own =>
      if L2.blkC c.N sc scope own then (cTg c.N (lcOk scope sc) n tg).bind fun t => if (tgSlots t).all fun i => own.any fun q => q.2 == i then (cSrc c n sc tg it).bind fun s => (cIf c n (L2.relS scope sc) ifs).bind fun k => (cE c n (L2.relS scope sc) elt).map fun e => .lc (own.map (·.2)) t s k e else none
      else none) = some x) (hp : plainE it = true) : PEl cl W X (.ListComp elt [⟨tg, it, ifs, 0⟩] scope p) fun E => rE Γ E x := by
  have cool : c.hot = false := by
    cases e : c.hot with
    | false => rfl
    | true => rw [e, if_pos rfl] at h; cases h
  rw [if_neg (by rw [cool]; decide)] at h
  obtain ⟨own, ho, h⟩ := Option.bind_eq_some_iff.mp h
  split at h
  · rename_i hb
    obtain ⟨t, ht, h⟩ := Option.bind_eq_some_iff.mp h
    split at h
    · rename_i hv
      obtain ⟨s, hs, h⟩ := Option.bind_eq_some_iff.mp h
      obtain ⟨ki, hk, h⟩ := Option.bind_eq_some_iff.mp h
      obtain ⟨e, he, h⟩ := Option.map_eq_some_iff.mp h
      subst h
      exact pe_lcD G cool hb ht hv hp (S.s G hs) (fun Y GY => S.i GY hk) (fun Y GY => S.e GY he)
    · cases h
  · cases h
theorem src_plain {tg e : Expr} {x : Src} (h : cSrc c n sc tg e = some x) : plainE e = true := by
  cases n with
  | zero => cases h
  | succ n =>
    simp only [cSrc] at h
    split at h
    · assumption
    · cases h
theorem never_e {e : Expr} : PEl cl W X e fun _ _ _ _ => False := ⟨fun pins s σ H Q I q => by
  obtain ⟨_, _, _, _, _, _, z, _⟩ := q
  exact z.elim⟩
theorem snd_e (S : Snd cl c Γ k n) (G : Good cl c Γ k W sc X) {e : Expr} {x : Ex} (h : cE c (n + 1) sc e = some x) : PEl cl W X e fun E => rE Γ E x := by
  simp only [cE] at h
  split at h
  · exact pe_name G h
  · exact pe_const h
  · obtain ⟨o, ho, h⟩ := Option.bind_eq_some_iff.mp h
    obtain ⟨a, ha, h⟩ := Option.bind_eq_some_iff.mp h
    obtain ⟨b, hb, h⟩ := Option.map_eq_some_iff.mp h
    subst h
    exact pe_binD ho (S.e G ha) (S.e G hb)
  · obtain ⟨a, ha, h⟩ := Option.map_eq_some_iff.mp h
    subst h
    exact pe_negD (S.e G ha)
  · obtain ⟨a, ha, h⟩ := Option.map_eq_some_iff.mp h
    subst h
    exact pe_notD (S.e G ha)
  · split at h
    · rename_i hp
      obtain ⟨o, ho, h⟩ := Option.bind_eq_some_iff.mp h
      obtain ⟨a, ha, h⟩ := Option.bind_eq_some_iff.mp h
      obtain ⟨b, hb, h⟩ := Option.map_eq_some_iff.mp h
      subst h
      exact pe_cmpD G ho hp (S.e G ha) (S.e G hb)
    · cases h
  · split at h
    · rename_i hp
      rw [Bool.and_eq_true] at hp
      obtain ⟨o, ho, h⟩ := Option.bind_eq_some_iff.mp h
      obtain ⟨o', ho', h⟩ := Option.bind_eq_some_iff.mp h
      obtain ⟨a, ha, h⟩ := Option.bind_eq_some_iff.mp h
      obtain ⟨b, hb, h⟩ := Option.bind_eq_some_iff.mp h
      obtain ⟨d, hd, h⟩ := Option.map_eq_some_iff.mp h
      subst h
      exact pe_cmp2D G ho ho' hp.2 (S.e G ha) (S.e G hb) (S.e G hd)
    · cases h
  · obtain ⟨a, ha, h⟩ := Option.bind_eq_some_iff.mp h
    obtain ⟨b, hb, h⟩ := Option.map_eq_some_iff.mp h
    subst h
    exact never_e
  · exact L2.pe_one (S.e G h)
  · obtain ⟨a, ha, h⟩ := Option.bind_eq_some_iff.mp h
    obtain ⟨b, hb, h⟩ := Option.map_eq_some_iff.mp h
    subst h
    exact pe_andD (S.e G ha) (S.e G hb)
  · obtain ⟨a, ha, h⟩ := Option.bind_eq_some_iff.mp h
    obtain ⟨b, hb, h⟩ := Option.map_eq_some_iff.mp h
    subst h
    exact pe_orD (S.e G ha) (S.e G hb)
  · obtain ⟨t, ht, h⟩ := Option.bind_eq_some_iff.mp h
    obtain ⟨a, ha, h⟩ := Option.bind_eq_some_iff.mp h
    obtain ⟨b, hb, h⟩ := Option.map_eq_some_iff.mp h
    subst h
    exact pe_iteD (S.t G ht) (S.e G ha) (S.e G hb)
  · obtain ⟨a, ha, h⟩ := Option.bind_eq_some_iff.mp h
    obtain ⟨lo, hl, h⟩ := Option.bind_eq_some_iff.mp h
    obtain ⟨hi, hh, h⟩ := Option.map_eq_some_iff.mp h
    subst h
    exact pe_slD (S.e G ha) (S.p G hl) (S.p G hh)
  · obtain ⟨a, ha, h⟩ := Option.map_eq_some_iff.mp h
    subst h
    exact pe_revD (S.e G ha)
  · obtain ⟨a, ha, h⟩ := Option.map_eq_some_iff.mp h
    subst h
    exact pe_r4D (S.e G ha)
  · split at h
    · rename_i hp
      obtain ⟨a, ha, h⟩ := Option.bind_eq_some_iff.mp h
      obtain ⟨i, hi, h⟩ := Option.map_eq_some_iff.mp h
      subst h
      exact pe_ixD G hp (S.e G ha) (S.e G hi)
    · cases h
  · split at h
    · rename_i hl
      obtain ⟨es, he, h⟩ := Option.map_eq_some_iff.mp h
      subst h
      exact pe_tupD hl (S.a G he).1
    · cases h
  · split at h
    · rename_i hl
      obtain ⟨es, he, h⟩ := Option.map_eq_some_iff.mp h
      subst h
      exact pe_lstD hl (S.a G he).1
    · cases h
  · cases h
    exact pe_dnD
  · split at h
    · rename_i hh
      obtain ⟨ks, hk, h⟩ := Option.bind_eq_some_iff.mp h
      obtain ⟨xs, hx, h⟩ := Option.map_eq_some_iff.mp h
      subst h
      exact pe_ddD hk hh.1 hh.2.1 hh.2.2 (S.d G hk hh.2.1 hx)
    · cases h
  · split at h
    · rename_i hh
      obtain ⟨h1, h2, h3, h4, h5, h6, h7⟩ := hh
      subst h1 h2
      obtain ⟨a, ha, h⟩ := Option.map_eq_some_iff.mp h
      subst h
      exact pe_sokD G h3 h4 h5 h6 h7 (S.e G ha)
    · cases h
  · exact snd_call S G h
  · split at h
    · rename_i hb
      split at h
      · obtain ⟨y, hy, h⟩ := Option.map_eq_some_iff.mp h
        subst h
        exact pe_xfldD G hb (S.e G hy)
      · obtain ⟨y, hy, h⟩ := Option.map_eq_some_iff.mp h
        subst h
        exact pe_fldD G hb (S.e G hy)
    · cases h
  · exact snd_mth S G h
  · refine snd_lc S G h ?_
    split at h
    · cases h
    obtain ⟨own, ho, h⟩ := Option.bind_eq_some_iff.mp h
    split at h
    · obtain ⟨t, ht, h⟩ := Option.bind_eq_some_iff.mp h
      split at h
      · obtain ⟨s, hs, h⟩ := Option.bind_eq_some_iff.mp h
        exact src_plain hs
      · cases h
    · cases h
  · cases h
theorem name_atom {f : Str} {x : Ex} (h : cName c sc f = some x) : atomT x = true := by
  unfold cName at h
  split at h
  · obtain ⟨i, _, rfl⟩ := Option.map_eq_some_iff.mp h
    rfl
  · split at h
    · obtain ⟨i, _, rfl⟩ := Option.map_eq_some_iff.mp h
      rfl
    · cases h
theorem atom_of {e : Expr} {x : Ex} (h : cE c (n + 1) sc e = some x) (ha : atomE e = true) : atomT x = true := by
  simp only [cE] at h
  split at h
  · exact name_atom h
  · unfold cConst at h
    split at h <;> cases h <;> rfl
  · obtain ⟨o, ho, h⟩ := Option.bind_eq_some_iff.mp h
    obtain ⟨a, ha, h⟩ := Option.bind_eq_some_iff.mp h
    obtain ⟨b, hb, h⟩ := Option.map_eq_some_iff.mp h
    subst h
    rfl
  · obtain ⟨a, ha, h⟩ := Option.map_eq_some_iff.mp h
    subst h
    rfl
  · cases ha
  · cases ha
  · cases ha
  · cases ha
  · cases ha
  · cases ha
  · cases ha
  · cases ha
  · obtain ⟨a, ha, h⟩ := Option.bind_eq_some_iff.mp h
    obtain ⟨lo, hl, h⟩ := Option.bind_eq_some_iff.mp h
    obtain ⟨hi, hh, h⟩ := Option.map_eq_some_iff.mp h
    subst h
    rfl
  · obtain ⟨a, ha, h⟩ := Option.map_eq_some_iff.mp h
    subst h
    rfl
  · obtain ⟨a, ha, h⟩ := Option.map_eq_some_iff.mp h
    subst h
    rfl
  · split at h
    · obtain ⟨a, ha, h⟩ := Option.bind_eq_some_iff.mp h
      obtain ⟨i, hi, h⟩ := Option.map_eq_some_iff.mp h
      subst h
      rfl
    · cases h
  · split at h
    · obtain ⟨es, he, h⟩ := Option.map_eq_some_iff.mp h
      subst h
      rfl
    · cases h
  · split at h
    · obtain ⟨es, he, h⟩ := Option.map_eq_some_iff.mp h
      subst h
      rfl
    · cases h
  · cases h
    rfl
  · split at h
    · obtain ⟨ks, hk, h⟩ := Option.bind_eq_some_iff.mp h
      obtain ⟨xs, hx, h⟩ := Option.map_eq_some_iff.mp h
      subst h
      rfl
    · cases h
  · split at h
    · obtain ⟨a, ha, h⟩ := Option.map_eq_some_iff.mp h
      subst h
      rfl
    · cases h
  · have srg : ∀ {y : Src} {x : Ex}, srcRg y = some x → atomT x = true := fun {y x} h => by
      unfold srcRg at h
      split at h <;> cases h <;> rfl
    (repeat' split at h) <;> first
      | (cases h; done)
      | (obtain ⟨es, he, h⟩ := Option.map_eq_some_iff.mp h; subst h; rfl)
      | (obtain ⟨s, hs, h⟩ := Option.bind_eq_some_iff.mp h; exact srg h)
      | (obtain ⟨b, hb, h⟩ := Option.bind_eq_some_iff.mp h; obtain ⟨b2, hb2, h⟩ := Option.bind_eq_some_iff.mp h; obtain ⟨es, he, h⟩ := Option.map_eq_some_iff.mp h; subst h; rfl)
      | (obtain ⟨b, hb, h⟩ := Option.bind_eq_some_iff.mp h; obtain ⟨es, he, h⟩ := Option.map_eq_some_iff.mp h; subst h; rfl)
  · (repeat' split at h) <;> first
      | (cases h; done)
      | (obtain ⟨es, he, h⟩ := Option.map_eq_some_iff.mp h; subst h; rfl)
  · split at h
    · split at h
      · obtain ⟨a, ha, h⟩ := Option.bind_eq_some_iff.mp h
        obtain ⟨es, he, h⟩ := Option.map_eq_some_iff.mp h
        subst h
        rfl
      · cases h
    · obtain ⟨b, hb, h⟩ := Option.bind_eq_some_iff.mp h
      split at h
      · obtain ⟨a, ha, h⟩ := Option.bind_eq_some_iff.mp h
        obtain ⟨es, he, h⟩ := Option.map_eq_some_iff.mp h
        subst h
        rfl
      · cases h
  · split at h
    · cases h
    obtain ⟨own, ho, h⟩ := Option.bind_eq_some_iff.mp h
    split at h
    · obtain ⟨t, ht, h⟩ := Option.bind_eq_some_iff.mp h
      split at h
      · obtain ⟨s, hs, h⟩ := Option.bind_eq_some_iff.mp h
        obtain ⟨i, hi, h⟩ := Option.bind_eq_some_iff.mp h
        obtain ⟨e, he, h⟩ := Option.map_eq_some_iff.mp h
        subst h
        rfl
      · cases h
    · cases h
  · cases h
theorem snd_w (S : Snd cl c Γ k n) (G : Good cl c Γ k W sc X) {o : BoolOp} {es : List Expr} {q : Pos} {x : Ex} (h : cE c (n + 1) sc (.BoolOp o es q) = some x) : PWl cl W X (.BoolOp o es q) fun E => rT Γ E x := by
  simp only [cE] at h
  match o, es, h with
  | .And, [a], h => exact L2.pw_and1 (S.t G h)
  | .Or, [a], h => exact L2.pw_or1 (S.t G h)
  | .And, a :: b :: r, h =>
    obtain ⟨a', ha, h⟩ := Option.bind_eq_some_iff.mp h
    obtain ⟨b', hb, h⟩ := Option.map_eq_some_iff.mp h
    subst h
    exact pw_andD (S.t G ha) (S.w G hb)
  | .Or, a :: b :: r, h =>
    obtain ⟨a', ha, h⟩ := Option.bind_eq_some_iff.mp h
    obtain ⟨b', hb, h⟩ := Option.map_eq_some_iff.mp h
    subst h
    exact pw_orD (S.t G ha) (S.w G hb)
theorem never_t {e : Expr} : PTl cl W X e fun _ _ _ _ => False := ⟨fun pins s σ H Q I q => by
  obtain ⟨_, _, _, _, _, _, z, _⟩ := q
  exact z.elim⟩
theorem snd_t (S : Snd cl c Γ k n) (G : Good cl c Γ k W sc X) {e : Expr} {x : Ex} (h : cE c (n + 1) sc e = some x) : PTl cl W X e fun E => rT Γ E x := by
  by_cases ha : atomE e = true
  · exact pt_imp (pt_truD (snd_e S G h) (atom_true ha X.env)) fun σ H Q q => q.imp fun E σ m k z => rT_rE (atom_of h ha) z
  · have h0 := h
    simp only [cE] at h
    split at h
    · exact absurd rfl ha
    · exact absurd rfl ha
    · exact absurd rfl ha
    · exact absurd rfl ha
    · obtain ⟨a, ha, h⟩ := Option.map_eq_some_iff.mp h
      subst h
      exact pt_notD (S.t G ha)
    · split at h
      · rename_i hp
        obtain ⟨o, ho, h⟩ := Option.bind_eq_some_iff.mp h
        obtain ⟨a, ha, h⟩ := Option.bind_eq_some_iff.mp h
        obtain ⟨b, hb, h⟩ := Option.map_eq_some_iff.mp h
        subst h
        exact pt_cmpD G ho hp (S.e G ha) (S.e G hb)
      · cases h
    · split at h
      · rename_i hp
        rw [Bool.and_eq_true] at hp
        obtain ⟨o, ho, h⟩ := Option.bind_eq_some_iff.mp h
        obtain ⟨o', ho', h⟩ := Option.bind_eq_some_iff.mp h
        obtain ⟨a, ha, h⟩ := Option.bind_eq_some_iff.mp h
        obtain ⟨b, hb, h⟩ := Option.bind_eq_some_iff.mp h
        obtain ⟨d, hd, h⟩ := Option.map_eq_some_iff.mp h
        subst h
        exact pt_cmp2D G ho ho' hp.2 (S.e G ha) (S.e G hb) (S.e G hd)
      · cases h
    · obtain ⟨a, ha, h⟩ := Option.bind_eq_some_iff.mp h
      obtain ⟨b, hb, h⟩ := Option.map_eq_some_iff.mp h
      subst h
      obtain ⟨h1, h2⟩ := S.h G hb
      exact pt_chD G (S.e G ha) h1 h2
    · exact (snd_w S G h0).pt
    · exact (snd_w S G h0).pt
    · exact (snd_w S G h0).pt
    · obtain ⟨t, ht, h⟩ := Option.bind_eq_some_iff.mp h
      obtain ⟨a, ha, h⟩ := Option.bind_eq_some_iff.mp h
      obtain ⟨b, hb, h⟩ := Option.map_eq_some_iff.mp h
      subst h
      exact never_t
    all_goals first
      | exact absurd rfl ha
      | (cases h; done)
theorem snd : ∀ n, Snd cl c Γ k n
  | 0 => snd_zero
  | n + 1 => ⟨fun G _ _ h => snd_e (snd n) G h, fun G _ _ h => snd_t (snd n) G h, fun G _ _ _ _ h => snd_w (snd n) G h, fun G _ _ h => snd_p (snd n) G h, fun G _ _ h => snd_a (snd n) G h, fun G _ _ h => snd_i (snd n) G h, fun G _ _ _ h => snd_s (snd n) G h, snd_r (snd n), fun G _ _ _ _ _ hk hl h => snd_d (snd n) G hk hl h, fun G _ _ _ h => snd_h (snd n) G h⟩
end
end
end DL

namespace DL
open PySem PySem.Spec PyProof.Rows
open L2 (V Hp HO SqL SqT TE TT TA TS TG TGs Cx Inv PE PT PW PA PS PSs PG PGs RelV Vals WX OpR UnR CallR IxR SlR MtR It TI PI)
/-- no comprehension -/
def noComp : Expr → Bool
  | .ListComp .. => false
  | .SetComp .. => false
  | .DictComp .. => false
  | _ => true
def noTup : Expr → Bool
  | .Tuple .. => false
  | .List .. => false
  | _ => true
/-- a target that is no name: a comprehension goes there as any value does -/
def noName : Expr → Bool
  | .Name .. => false
  | _ => true
mutual
def noGhS : Sm → Bool
  | .gh _ => false
  | .retL _ _ => false
  | .iteL _ _ _ _ => false
  | .ite _ a b => noGh a && noGh b
  | .whl _ b => noGh b
  | .for_ _ _ b => noGh b
  | .tri b _ => noGh b
  | _ => true
def noGh : Sms → Bool
  | .n => true
  | .c s r => noGhS s && noGh r
end
mutual
theorem noGhS_er : ∀ {s : Sm}, noGhS s = true → erS s = s
  | .ite _ a b, h => by
    rw [noGhS, Bool.and_eq_true] at h
    rw [erS, noGh_er h.1, noGh_er h.2]
  | .whl _ b, h => by
    rw [noGhS] at h
    rw [erS, noGh_er h]
  | .for_ _ _ b, h => by
    rw [noGhS] at h
    rw [erS, noGh_er h]
  | .tri b _, h => by
    rw [noGhS] at h
    rw [erS, noGh_er h]
  | .gh _, h => by cases h
  | .retL _ _, h => by cases h
  | .iteL _ _ _ _, h => by cases h
  | .set _ _, _ => rfl | .setT _ _, _ => rfl | .setIx _ _ _, _ => rfl | .setF _ _ _, _ => rfl | .aug _ _ _, _ => rfl | .augF _ _ _ _, _ => rfl | .expr _, _ => rfl | .ret _, _ => rfl | .retN, _ => rfl
  | .setSl _ _ _ _, _ => rfl | .swp _ _ _ _ _ _, _ => rfl | .bad, _ => rfl | .raise _ _, _ => rfl | .pass, _ => rfl | .brk, _ => rfl | .cont, _ => rfl
theorem noGh_er : ∀ {x : Sms}, noGh x = true → er x = x
  | .n, _ => rfl
  | .c s r, h => by
    rw [noGh, Bool.and_eq_true] at h
    have h1 := noGhS_er h.1
    have h2 := noGh_er h.2
    have : er (.c s r) = .c (erS s) (er r) := by
      cases s <;> first | rfl | (exact Bool.noConfusion (show false = true from h.1)) | (rw [er] <;> (intro g e; cases e))
    rw [this, h1, h2]
end
/-- a class that is raised here with so many arguments -/
def rsOf (c : Ctx) (sc : Scope) (x : Str) (n : Nat) : Option Nat := if isGl sc x = true ∧ c.hot = false then (c.exr.lookup x).bind fun j => if (excF j).length = n then some j else none else none
mutual
def cS : Ctx → Nat → Scope → Stmt → Option Sm
  | _, 0, _, _ => none
  | c, n + 1, sc, st => match st with
    | .Assign [.Name x px] (.ListComp elt [⟨tg, it, ifs, 0⟩] scope p) _ =>
      if c.hot = true then none else if isLoc sc x && (px.line == p.line) && !(scope.names.any fun (n, k) => n == x && (k == .local || k == .cell)) then (slotOf c.N x).bind fun i => (cE c (n + 1) sc (.ListComp elt [⟨tg, it, ifs, 0⟩] scope p)).map (.set i)
      else if isLocC sc x then (slotOf c.N x).bind fun i => (cE c n sc (.ListComp elt [⟨tg, it, ifs, 0⟩] scope p)).map (.set i) else none
    | .Assign [.Name x _] e _ => if isLocC sc x && noComp e then (slotOf c.N x).bind fun i => (cE c n sc e).map (.set i) else none
    | .Assign [.Attribute o f _] e _ => (cE c n sc o).bind fun o => (cE c n sc e).map fun e => .setF o f.cps.toList e
    | .Assign [.Subscript o (.Slice lo hi none _) _] e _ => (cE c n sc o).bind fun o => (cP c n sc lo).bind fun lo => (cP c n sc hi).bind fun hi => (cE c n sc e).map fun e => .setSl o lo hi e
    | .Assign [.Subscript o i _] e _ => if plainE i then (cE c n sc o).bind fun o => (cE c n sc i).bind fun i => (cE c n sc e).map fun e => .setIx o i e else none
    | .Assign [.Tuple [.Subscript o i _, .Subscript o' i' _] _ _] (.Tuple [a, b] _ _) _ => if c.hot = true then none else if plainE i && (plainE i' && (plainE a && plainE b)) then (cE c n sc o).bind fun o => (cE c n sc i).bind fun i => (cE c n sc o').bind fun o' => (cE c n sc i').bind fun i' => (cEs c n sc [a, b]).bind fun es => match es with
      | .c a (.c b .n) => some (.swp o i a o' i' b)
      | _ => none else none
    | .Assign [.Tuple [.Name x px, .Name y py] kt pt] (.Tuple [a, b] k2 pt2) _ => if c.hot = true then none else if isLoc sc x && (isLoc sc y && ((py.line == px.line) && (!(x == y) && (!(foldedForSure 8 a && foldedForSure 8 b) && (!(constantsAlone 8 a && constantsAlone 8 b)))))) then
        (slotOf c.N x).bind fun i => (slotOf c.N y).bind fun j => (cEs c n sc [a, b]).map fun es => .setT (.pair (.name i) (.name j)) (.tup es) else if (isLoc sc x && isLoc sc y) = false then (cTg c.N (isLocC sc) n (.Tuple [.Name x px, .Name y py] kt pt)).bind fun t => (cE c n sc (.Tuple [a, b] k2 pt2)).map fun e => .setT t e else none
    | .Assign [.Tuple [.Name x px, .Name y py, .Name z pz] _ _] (.Tuple [a, b, d] _ _) _ => if c.hot = true then none else if isLoc sc x && (isLoc sc y && (isLoc sc z && ((py.line == px.line) && ((pz.line == px.line) && (!(x == y) && (!(x == z) && (!(y == z) && (!(foldedForSure 8 a && (foldedForSure 8 b && foldedForSure 8 d)) && (!(constantsAlone 8 a && (constantsAlone 8 b && constantsAlone 8 d))))))))))) then
        (slotOf c.N x).bind fun i => (slotOf c.N y).bind fun j => (slotOf c.N z).bind fun l => (cEs c n sc [a, b, d]).map fun es => .setT (.trip (.name i) (.name j) (.name l)) (.tup es) else none
    | .Assign [tg] e _ => if c.hot = true then none else if noName tg && noTup e then (cTg c.N (isLocC sc) n tg).bind fun t => (cE c n sc e).map fun e => .setT t e else none
    | .AugAssign (.Attribute o f _) .Sub e _ => (cE c n sc o).bind fun o => (cE c n sc e).map fun e => .augF o f.cps.toList .sub e
    | .Expr e _ => if noComp e then (cE c n sc e).map .expr else none
    | .Return (some e) _ => (cE c n sc e).map .ret
    | .Return none _ => some .retN
    | .If t a b _ => (cE c n sc t).bind fun t => (cSs c n sc a).bind fun a => (cSs c n sc b).map fun b => .ite t a b
    | .While t a [] _ => (cE c n sc t).bind fun t => (cSs c n sc a).map fun a => .whl t a
    | .For tg it a [] _ => if c.hot = true then none else (cTg c.N (isLocC sc) n tg).bind fun t => (cSrc c n sc tg it).bind fun s => (cSs c n sc a).map fun a => .for_ t s a
    | .Pass _ => some .pass
    | .Break _ => some .brk
    | .Continue _ => some .cont
    | .Raise (some (.Call (.Name x _) args [] _)) none _ => match rsOf c sc x args.length with
      | some j => (cEs c n sc args).map (.raise j)
      | none => some .bad
    | .Raise _ _ _ => some .bad
    | .Try a (h :: hs) [] [] _ => if c.hot = true then none else (cSs c n sc a).bind fun a => (cHd c n sc (h :: hs)).map fun h => .tri a h
    | _ => none
def cSs : Ctx → Nat → Scope → List Stmt → Option Sms
  | _, 0, _, _ => none
  | _, _ + 1, _, [] => some .n
  | c, n + 1, sc, s :: r => (cS c n sc s).bind fun s => (cSs c n sc r).map fun r => .c s r
def cHd : Ctx → Nat → Scope → List ExceptHandler → Option Hds
  | _, 0, _, _ => none
  | _, _ + 1, _, [] => some .n
  | c, n + 1, sc, .ExceptHandler (some (.Name x _)) y (b :: bs) _ :: r => (exOf c sc x).bind fun j => if j = 9 then none else match y with
    | none => (cSs (c.suite []) n sc (b :: bs)).bind fun s => if noGh s = true then (cHd c n sc r).map fun r => .c j none s r else none
    | some y => if isLoc sc y = true then (slotOf c.N y).bind fun i => (cSs (c.suite [y]) n sc (b :: bs)).bind fun s => if noGh s = true then (cHd c n sc r).map fun r => .c j (some i) s r else none else none
  | _, _ + 1, _, _ :: _ => none
end
section
variable (cl : Nat → Addr) (K : PySem.W.Frag) (W : WX)
structure PostS (H : Hp) (m : Mem) (Z : Ends) (D : L2.Ends) : Prop where
  nx : ∀ σ' m' σv' H', Z.nx σ' m' → StR K H' σv' σ' → Rep cl K H' m' → Ext H m H' m' → D.nx σv' H'
  rt : ∀ d m' v H', Z.rt d m' → IsV K H' d v → Rep cl K H' m' → Ext H m H' m' → D.rt v H'
  bk : ∀ σ' m' σv' H', Z.bk σ' m' → StR K H' σv' σ' → Rep cl K H' m' → Ext H m H' m' → D.bk σv' H'
  ct : ∀ σ' m' σv' H', Z.ct σ' m' → StR K H' σv' σ' → Rep cl K H' m' → Ext H m H' m' → D.ct σv' H'
  ex : PostX cl K W H m Z.ex
def LSt (t : Ends → St → Mem → Prop) : TS := fun D σv H => ∃ Z σ m, StR K H σv σ ∧ Rep cl K H m ∧ t Z σ m ∧ PostS cl K W H m Z D
end
section
variable {cl : Nat → Addr} {K : PySem.W.Frag} {W : WX} {H H1 : Hp} {m m1 : Mem} {Z : Ends} {D : L2.Ends} {σv : L2.St} {α β : Type}
theorem PostS.step (p : PostS cl K W H m Z D) (e : Ext H m H1 m1) : PostS cl K W H1 m1 Z D where
  nx := fun σ' m' σv' H' a b c f => p.nx σ' m' σv' H' a b c (e.trans f)
  rt := fun σ' m' σv' H' a b c f => p.rt σ' m' σv' H' a b c (e.trans f)
  bk := fun σ' m' σv' H' a b c f => p.bk σ' m' σv' H' a b c (e.trans f)
  ct := fun σ' m' σv' H' a b c f => p.ct σ' m' σv' H' a b c (e.trans f)
  ex := p.ex.step e
theorem LSt.imp {t u : Ends → St → Mem → Prop} (i : ∀ Z σ m, t Z σ m → u Z σ m) (h : LSt cl K W t D σv H) : LSt cl K W u D σv H := by
  obtain ⟨Z, σ, m, a, b, q, p⟩ := h
  exact ⟨Z, σ, m, a, b, i _ _ _ q, p⟩
/-- first a value -/
theorem LSt.val {R : Hp → α → β → Prop} {t : Rd α} {u : α → Ends → St → Mem → Prop} {Q : β → Hp → Prop} (h : LSt cl K W (fun Z σ m => t Z.ex σ m fun x m1 => u x Z σ m1) D σv H)
    (i : ∀ v H1, Kp H H1 → (∃ x, R H1 x v ∧ LSt cl K W (u x) D σv H1) → Q v H1) : Lift cl K W R t σv H Q := by
  obtain ⟨Z, σ, m, hs, hr, ht, p⟩ := h
  exact ⟨σ, m, _, Z.ex, hs, hr, ht, ⟨fun d m' v H' q s r e => i _ _ (hr.kp e) ⟨d, s, Z, σ, m', hs.kp (hr.kp e), r, q, p.step e⟩, p.ex⟩⟩
/-- nothing is done -/
theorem LSt.nxt {σ2 : St → St} {v2 : L2.St → L2.St} (h : LSt cl K W (fun Z σ m => Z.nx (σ2 σ) m) D σv H) (i : ∀ σ, StR K H σv σ → StR K H (v2 σv) (σ2 σ)) : D.nx (v2 σv) H := by
  obtain ⟨Z, σ, m, hs, hr, ht, p⟩ := h
  exact p.nx _ _ _ _ ht (i σ hs) hr (Ext.refl _ _)
end
/-- what a def's body has besides -/
structure GoodS (cl : Nat → Addr) (c : Ctx) (Γ : En) (k : Nat) (W : WX) (sc : Scope) (X : Cx) : Prop extends Good cl c Γ k W sc X where
  fn : ∀ x, X.fn x = true
  kind : sc.kind = .function
  po : PassesOwn (model X.prog X.w) X.A X.env X.xe
  hex : X.ex = []
  hstk : X.stack = X.env :: X.outer
  hfr : X.env.frame = some X.env.locals
abbrev PSl (cl : Nat → Addr) (W : WX) (X : Cx) (st : Stmt) (t : Ends → St → Mem → Prop) : Prop := PS X st (LSt cl X.K W t)
abbrev PSsl (cl : Nat → Addr) (W : WX) (X : Cx) (st : List Stmt) (t : Ends → St → Mem → Prop) : Prop := PSs X st (LSt cl X.K W t)
theorem noComp_sw {e : Expr} (h : noComp e = true) (t : Option Expr) (l : Nat) (env : Env) : swapsWith e t l env = pure false := by
  cases e <;> first | rfl | cases h
theorem isLocC_ok {sc : Scope} {x : Str} (h : isLocC sc x = true) : L2.Loc sc x := by
  unfold isLocC at h
  rw [Bool.or_eq_true] at h
  exact h.elim (fun z => .inl (of_decide_eq_true z)) fun z => .inr (of_decide_eq_true z)
section
variable {cl : Nat → Addr} {c : Ctx} {Γ : En} {k n : Nat} {W : WX} {sc : Scope} {X : Cx} {bv : Bool}
theorem GoodS.hok (G : GoodS cl c Γ k W sc X) (x : Str) (h : isLocC sc x = true) : L2.Loc X.env.scope x ∧ (X.fn x = true ∨ X.env.scope.names.lookup x = some .local) := ⟨by rw [G.hsc]; exact isLocC_ok h, .inl (G.fn x)⟩
theorem ps_setD (G : GoodS cl c Γ k W sc X) {x : Str} {px pos : Pos} {e : Expr} {te : Rd D} {i : Nat} (hx : isLocC sc x = true) (hi : slotOf c.N x = some i) (hc : noComp e = true) (he : PEl cl W X e te) :
    PSl cl W X (.Assign [.Name x px] e pos) fun Z σ m => te Z.ex σ m fun d m1 => Z.nx (sset σ i d) m1 := by
  refine ps_imp (L2.ps_set (i := i) (by rw [G.hN]; exact G.nd) (by rw [G.hN]; exact slotOf_get hi) (G.hok x hx).1 he (noComp_sw hc _ _ _) (.inl (G.fn x))) fun D σ H q => ?_
  refine LSt.val (R := RV X.K) (u := fun d Z σ m1 => Z.nx (sset σ i d) m1) q fun v H1 _ ⟨d, hd, l⟩ => ?_
  exact l.nxt (v2 := fun σv => σv.set i (some v)) (σ2 := fun σ => sset σ i d) fun σ hs => hs.set hd i
theorem sw_no {elt : Expr} {gs : List Comprehension} {scope : Scope} {pos py : Pos} {y : Str} {l : Nat} {env : Env}
    (h : (isLoc env.scope y && (py.line == pos.line) && !(scope.names.any fun (n, k) => n == y && (k == .local || k == .cell))) = false) : swapsWith (.ListComp elt gs scope pos) (some (.Name y py)) l env = pure false := by
  have e : (env.kindOf y == some NameKind.local) = isLoc env.scope y := by
    show (env.scope.names.lookup y == some NameKind.local) = decide (env.scope.names.lookup y = some NameKind.local)
    cases env.scope.names.lookup y with
    | none => rfl
    | some k => cases k <;> rfl
  show (pure (env.blockKind == .function && env.kindOf y == some .local && py.line == pos.line && !(scope.names.any fun (n, k) => n == y && (k == .local || k == .cell))) : Sem Bool) = pure false
  rw [e, Bool.and_assoc, Bool.and_assoc, ← Bool.and_assoc (isLoc env.scope y), h, Bool.and_false]
theorem ps_setNo (G : GoodS cl c Γ k W sc X) {x : Str} {px pos : Pos} {e : Expr} {te : Rd D} {i : Nat} (hx : isLocC sc x = true) (hi : slotOf c.N x = some i) (hc : swapsWith e (some (.Name x px)) pos.line X.env = pure false) (he : PEl cl W X e te) :
    PSl cl W X (.Assign [.Name x px] e pos) fun Z σ m => te Z.ex σ m fun d m1 => Z.nx (sset σ i d) m1 := by
  refine ps_imp (L2.ps_set (i := i) (by rw [G.hN]; exact G.nd) (by rw [G.hN]; exact slotOf_get hi) (G.hok x hx).1 he hc (.inl (G.fn x))) fun D σ H q => ?_
  refine LSt.val (R := RV X.K) (u := fun d Z σ m1 => Z.nx (sset σ i d) m1) q fun v H1 _ ⟨d, hd, l⟩ => ?_
  exact l.nxt (v2 := fun σv => σv.set i (some v)) (σ2 := fun σ => sset σ i d) fun σ hs => hs.set hd i
theorem ps_setLcD (G : GoodS cl c Γ k W sc X) (cool : c.hot = false) {x : Str} {px spos : Pos} {elt tg it : Expr} {ifs : List Expr} {scope : Scope} {pos : Pos} {i : Nat} {own : List (Str × Nat)} {t : Tg} {ts : XK → St → Mem → ((Mem → Prop) → List D → Mem → Prop) → Prop} {tt : Rd Bool} {te : Rd D}
    (hx : isLoc sc x = true) (hi : slotOf c.N x = some i) (hl : (px.line == pos.line) = true) (ha : (scope.names.any fun (n, k) => n == x && (k == .local || k == .cell)) = false)
    (hb : L2.blkC c.N sc scope own = true) (ht : cTg c.N (lcOk scope sc) n tg = some t) (hv : ((tgSlots t).all fun i => own.any fun q => q.2 == i) = true) (hp : plainE it = true) (hs : PIl cl W X tg it ts)
    (hif : ∀ Y, Good cl c Γ k (fun _ _ _ _ => False) (L2.relS scope sc) Y → L2.PTs Y ifs (Lift cl Y.K (fun _ _ _ _ => False) RB tt))
    (he : ∀ Y, Good cl c Γ k (fun _ _ _ _ => False) (L2.relS scope sc) Y → PEl cl (fun _ _ _ _ => False) Y elt te) :
    PSl cl W X (.Assign [.Name x px] (.ListComp elt [⟨tg, it, ifs, 0⟩] scope pos) spos) fun Z σ m => (ts Z.ex σ m fun g items m1 => items.length ≤ big ∧ rLc g (rTg t) (tt fun _ _ _ => False) (te fun _ _ _ => False) (swipe σ (own.map (·.2))) items [] m1 fun ds m2 => NewLv bv m2 ds fun d m3 => Z.nx (sset σ i d) m3) := by
  obtain ⟨b1, b2⟩ := blkC_kind hb
  have hloc : X.env.scope.names.lookup x = some .local := by
    rw [G.hsc]
    exact of_decide_eq_true hx
  refine ps_imp (ps_frz <| L2.ps_setLc (i := i) (own := own) (g := LG cl X.K t) (tt := Lift cl X.K (fun _ _ _ _ => False) RB tt) (te := Lift cl X.K (fun _ _ _ _ => False) (RV X.K) te) (G.calm cool) (by rw [G.hN]; exact G.nd) (by rw [G.hN]; exact slotOf_get hi) hloc (L2.sw_true (by rw [G.hsc]; exact G.kind) hloc hl ha) hs (by rw [G.hN, G.hsc]; exact L2.blkOk_by hb)
    (fun s H C cc fp => pg_D (G.toGood.blk s H scope C cc fp b1 b2) cool (lc_hok G.toGood s H scope C cc fp) ht)
    (fun s H C cc fp => hif _ (G.toGood.blk s H scope C cc fp b1 b2)) (fun s H C cc fp => he _ (G.toGood.blk s H scope C cc fp b1 b2)) (plain_fold hp X.env)) fun D σv H q => ?_
  refine tLc_of (bv := bv) (W := W) (Q := fun v H' => D.nx (σv.set i (some v)) H') (fun v H' z => ?_) (lc_slots hv) ?_
  · rcases z with z | ⟨d, w, rfl, hd, mu, z⟩
    · exact .inl z
    · exact .inr ⟨d, w, hd, mu, z⟩
  · refine LSt.val (R := RV X.K) (t := fun E σ m k => ts E σ m fun g items m1 => items.length ≤ big ∧ rLc g (rTg t) (tt fun _ _ _ => False) (te fun _ _ _ => False) (swipe σ (own.map (·.2))) items [] m1 fun ds m2 => NewLv bv m2 ds k) (u := fun d Z σ m1 => Z.nx (sset σ i d) m1) q fun v H1 _ ⟨d, hd, l⟩ => ?_
    exact l.nxt (v2 := fun σv => σv.set i (some v)) (σ2 := fun σ => sset σ i d) fun σ hs => hs.set hd i
theorem sw_nn' {e tg : Expr} {l : Nat} {env : Env} (h : noName tg = true) : swapsWithSole [tg] e l env = pure false := by
  cases e <;> first | rfl | (cases tg <;> first | rfl | (cases h; done))
theorem ps_setTD (G : GoodS cl c Γ k W sc X) (cool : c.hot = false) {tg e : Expr} {pos : Pos} {te : Rd D} {t : Tg} (hc : noName tg = true) (hn : noTup e = true) (ht : cTg c.N (isLocC sc) n tg = some t) (he : PEl cl W X e te) :
    PSl cl W X (.Assign [tg] e pos) fun Z σ m => te Z.ex σ m fun d m1 => rTg t d σ m1 Z.nx := by
  have hstar := cTg_star ht
  refine ps_imp (L2.ps_asg he (pg_D G.toGood cool G.hok ht) (sw_nn' hc) (by cases e <;> first | (cases tg <;> rfl) | cases hn) (by rw [asg_cons hstar]; rfl)) fun D σ H q => ?_
  refine LSt.val (R := RV X.K) (u := fun d Z σ m1 => rTg t d σ m1 Z.nx) q fun v H1 _ ⟨d, hd, l⟩ => ?_
  obtain ⟨Z, σ', m, hs, hr, hq, p⟩ := l
  exact ⟨d, σ', m, _, hd, hs, hr, hq, fun σ2 m2 σv2 H2 z s r e _ => p.nx _ _ _ _ z s r e⟩
theorem ps_setIxD (G : GoodS cl c Γ k W sc X) {o i e : Expr} {p pos : Pos} {to ti te : Rd D} (hp : plainE i = true) (ho : PEl cl W X o to) (hi : PEl cl W X i ti) (he : PEl cl W X e te) :
    PSl cl W X (.Assign [.Subscript o i p] e pos) fun Z σ m => te Z.ex σ m fun v m1 => to Z.ex σ m1 fun x m2 => ti Z.ex σ m2 fun y m3 => rSet x y v m3 fun m4 => Z.nx σ m4 := by
  have hu := G.u65
  refine ps_imp (L2.ps_asg he (L2.pg_sub ho hi (set_D (cl := cl) (by omega)) (by intro v; cases i <;> first | rfl | cases hp)) (sw_nn' (tg := .Subscript o i p) rfl) (by cases e <;> rfl) (by rfl)) fun D σ H q => ?_
  refine LSt.val (R := RV X.K) (u := fun v Z σ m1 => to Z.ex σ m1 fun x m2 => ti Z.ex σ m2 fun y m3 => rSet x y v m3 fun m4 => Z.nx σ m4) q fun v H1 _ ⟨d, hd, l⟩ => ?_
  refine LSt.val (R := RV X.K) (u := fun x Z σ m2 => ti Z.ex σ m2 fun y m3 => rSet x y d m3 fun m4 => Z.nx σ m4) l fun ov H2 k2 ⟨x, hx, l⟩ => ?_
  refine LSt.val (R := RV X.K) (u := fun y Z σ m3 => rSet x y d m3 fun m4 => Z.nx σ m4) l fun iv H3 k3 ⟨y, hy, l⟩ => ?_
  obtain ⟨Z, σ', m, hs, hr, hq, p⟩ := l
  exact ⟨x, y, d, m, _, hx.kp k3, hy, (hd.kp k2).kp k3, hr, hq, fun m4 H4 z r e => p.nx _ _ _ _ z (hs.kp (hr.kp e)) r e⟩
theorem ps_setFD (G : GoodS cl c Γ k W sc X) {o e : Expr} {f : Str} {p pos : Pos} {to te : Rd D} (ho : PEl cl W X o to) (he : PEl cl W X e te) :
    PSl cl W X (.Assign [.Attribute o f p] e pos) fun Z σ m => te Z.ex σ m fun v m1 => to Z.ex σ m1 fun x m2 => ∃ a c fs, x = .ref a ∧ m2 a = some (.ins c fs) ∧ fs.length < 900 ∧ Γ.fk c f.cps.toList = true ∧ Z.nx σ (upd m2 a (.ins c (putF f.cps.toList v fs))) := by
  refine ps_imp (L2.ps_fld ho he (by cases e <;> rfl)) fun D σ H q => ?_
  refine LSt.val (R := RV X.K) (u := fun v Z σ m1 => to Z.ex σ m1 fun x m2 => ∃ a c fs, x = .ref a ∧ m2 a = some (.ins c fs) ∧ fs.length < 900 ∧ Γ.fk c f.cps.toList = true ∧ Z.nx σ (upd m2 a (.ins c (putF f.cps.toList v fs)))) q fun v H1 _ ⟨d, hd, l⟩ => ?_
  refine LSt.val (R := RV X.K) (u := fun x Z σ m2 => ∃ a c fs, x = .ref a ∧ m2 a = some (.ins c fs) ∧ fs.length < 900 ∧ Γ.fk c f.cps.toList = true ∧ Z.nx σ (upd m2 a (.ins c (putF f.cps.toList d fs)))) l fun ov H2 k2 ⟨x, hx, l⟩ => ?_
  obtain ⟨Z, σ', m, hs, hr, ⟨a, C, fs, e0, ea, hl, fk, hz⟩, pp⟩ := l
  subst e0
  cases hx
  obtain ⟨dx, ws, z, l⟩ := hr a _ ea
  obtain ⟨g1, g2⟩ := G.fld C _ fk
  rw [SX.S_tl] at g2
  refine ⟨a, cl C, dx, ws, rfl, z, g1, g2, by rw [isFs_len l]; omega, ?_⟩
  have kp : Kp H2 (L2.upd H2 a (.ins (cl C) dx (L2.putF f v ws))) := kp_mut z (fun _ h => nomatch h) fun _ _ h => nomatch h
  have put := isFs_put (f := f.cps.toList) ((hd.kp k2).kp kp) (l.kp kp)
  rw [SX.S_tl] at put
  exact pp.nx _ _ _ _ hz (hs.kp kp) (hr.mut ea ⟨dx, _, L2.upd_same, put⟩) (Ext.mut ea)
theorem sub_inv {v y : D} {m : Mem} {k : Kt} (h : rBin bv .sub v y m k) : ∃ i j, v = .int i ∧ y = .int j ∧ k (.int (i - j)) m := by
  cases v <;> cases y <;> first | exact h.elim | exact ⟨_, _, rfl, rfl, h⟩
theorem ps_augFD (G : GoodS cl c Γ k W sc X) {o e : Expr} {f : Str} {p pos : Pos} {to te : Rd D} (ho : PEl cl W X o to) (he : PEl cl W X e te) :
    PSl cl W X (.AugAssign (.Attribute o f p) .Sub e pos) fun Z σ m => to Z.ex σ m fun x m1 => ∃ a c fs v, x = .ref a ∧ m1 a = some (.ins c fs) ∧ lk fs f.cps.toList = some v ∧ Γ.fk c f.cps.toList = true ∧ te Z.ex σ m1 fun y m2 => rBin bv .sub v y m2 fun d m3 => ∃ fs', m3 a = some (.ins c fs') ∧ fs'.length < 900 ∧ Z.nx σ (upd m3 a (.ins c (putF f.cps.toList d fs'))) := by
  refine ps_imp (L2.ps_fldaug ho he L2.in_sub) fun D σ H q => ?_
  refine LSt.val (R := RV X.K) (u := fun x Z σ m1 => ∃ a c fs v, x = .ref a ∧ m1 a = some (.ins c fs) ∧ lk fs f.cps.toList = some v ∧ Γ.fk c f.cps.toList = true ∧ te Z.ex σ m1 fun y m2 => rBin bv .sub v y m2 fun d m3 => ∃ fs', m3 a = some (.ins c fs') ∧ fs'.length < 900 ∧ Z.nx σ (upd m3 a (.ins c (putF f.cps.toList d fs')))) q fun ov H1 _ ⟨x, hx, l⟩ => ?_
  obtain ⟨Z, σ', m, hs, hr, ⟨a, C, fs, v, e0, ea, ev, fk, hz⟩, pp⟩ := l
  subst e0
  cases hx
  obtain ⟨dx, ws, z, l⟩ := hr a _ ea
  obtain ⟨g1, g2⟩ := G.fld C _ fk
  obtain ⟨w, w1, w2⟩ := (isFs_lk (f := f.cps.toList) l).1 v ev
  rw [SX.S_tl] at g2 w1
  refine ⟨a, cl C, dx, ws, w, rfl, z, g1, g2, w1, ?_⟩
  refine LSt.val (R := RV X.K) (u := fun y Z σ m2 => rBin bv .sub v y m2 fun d m3 => ∃ fs', m3 a = some (.ins C fs') ∧ fs'.length < 900 ∧ Z.nx σ (upd m3 a (.ins C (putF f.cps.toList d fs')))) ⟨Z, σ', m, hs, hr, hz, pp⟩ fun yv H2 k2 ⟨y, hy, l2⟩ => ?_
  obtain ⟨Z, σ', m, hs, hr, hz, pp⟩ := l2
  obtain ⟨i, j, rfl, rfl, fs', ea', hl', hz⟩ := sub_inv hz
  cases w2
  cases hy
  obtain ⟨dx', ws', z', l'⟩ := hr a _ ea'
  refine ⟨i, j, rfl, rfl, dx', ws', z', by rw [isFs_len l']; omega, ?_⟩
  have kp : Kp H2 (L2.upd H2 a (.ins (cl C) dx' (L2.putF f (.int (i - j)) ws'))) := kp_mut z' (fun _ h => nomatch h) fun _ _ h => nomatch h
  have put := isFs_put (K := X.K) (f := f.cps.toList) (d := .int (i - j)) (v := .int (i - j)) rfl (l'.kp kp)
  rw [SX.S_tl] at put
  exact pp.nx _ _ _ _ hz (hs.kp kp) (hr.mut ea' ⟨dx', _, L2.upd_same, put⟩) (Ext.mut ea')
/-- o[lo:hi] = a list -/
def gSl (to : TE) (tl th : L2.TO) : TG := fun v σ H Q => to σ H fun x H1 => tl σ H1 fun p H2 => th σ H2 fun q H3 => ∃ a b xs ys i j, x = .ref a ∧ v = .ref b ∧ H3 a = some (.lst xs) ∧ H3 b = some (.lst ys) ∧ a ≠ b ∧ p = some i ∧ q = some j ∧ 0 ≤ i ∧ i ≤ j ∧ j ≤ xs.length ∧ xs.length + ys.length ≤ sizeLine ∧
  Q σ (L2.upd H3 a (.lst (xs.take i.toNat ++ ys ++ xs.drop j.toNat)))
theorem pg_subSl {o : Expr} {lo hi : Option Expr} {p2 p3 : Pos} {to : TE} {tl th : L2.TO} (ho : PE X o to) (hl : L2.PO X lo tl) (hu : L2.PO X hi th) : PG X (.Subscript o (.Slice lo hi none p2) p3) (gSl to tl th) := by
  refine ⟨fun pins s σ H v u Q I r h => ?_⟩
  have ha : assign (.Subscript o (.Slice lo hi none p2) p3) X.env u = (do
      let ov ← holding [u] (eval o X.env)
      let iv ← holding [u, ov] (eval (.Slice lo hi none p2) X.env)
      standAt p3
      holding [u, ov, iv] (setItem ov iv u)
      release [iv, u, ov] []) := rfl
  rw [ha]
  refine wpAny_bind (wpAny_holding (L2.thn (ho.run pins s σ H _ I h) fun ov s1 ⟨x, H1, I1, r1, q1⟩ => ?_))
  refine wpAny_bind (wpAny_holding (wpAny_Slice (L2.thn (hl.run pins s1 σ H1 _ I1 q1) fun vl s2 ⟨l, H2, I2, pl, q2⟩ => L2.thn (hu.run pins s2 σ H2 _ I2 q2) fun vu s3 ⟨t, H3, I3, pu, q3⟩ => ?_)))
  rw [evalPart_none]
  refine wpAny_pure ?_
  obtain ⟨a, b, xs, ys, i, j, rfl, rfl, ea, eb, hab, rfl, rfl, h0, h1, h2, h3, q3⟩ := q3
  obtain rfl : ov = Value.ref a := r1
  obtain rfl : u = Value.ref b := r
  have I4 : Inv X pins σ H3 { s3 with heap := s3.heap.push { cls := .type "slice", data := .fields #[vl, vu, .none] } } := I3.kept (t' := s3.toks) fun b ob q => Heap.get?_push_of_some _ q
  have rl : RelV (.int i) vl := by cases pl; exact ⟨_, rfl⟩
  have ru : RelV (.int j) vu := by cases pu; exact ⟨_, rfl⟩
  refine wpAny_bind (wpAny_standAt (wpAny_bind (wpAny_holding (L2.set_slice I4 ea eb hab (Heap.IsSliceOf.new ..) rl ru h0 h1 h2 h3 fun s5 I5 => ?_))))
  exact wpAny_release ⟨σ, _, I5, q3⟩
theorem isL_take {K : PySem.W.Frag} {H : Hp} : ∀ {n : Nat} {ds : List D} {vs : List V}, IsL K H ds vs → IsL K H (ds.take n) (vs.take n)
  | 0, _, _, _ => rfl
  | n + 1, [], _, h => by rw [show _ = [] from h]; rfl
  | n + 1, d :: ds, _, ⟨v, t, e, h, z⟩ => by subst e; exact ⟨v, _, rfl, h, isL_take z⟩
theorem isL_drop {K : PySem.W.Frag} {H : Hp} : ∀ {n : Nat} {ds : List D} {vs : List V}, IsL K H ds vs → IsL K H (ds.drop n) (vs.drop n)
  | 0, _, _, h => h
  | n + 1, [], _, h => by rw [show _ = [] from h]; rfl
  | n + 1, d :: ds, _, ⟨v, t, e, h, z⟩ => by subst e; show IsL K H (ds.drop n) (t.drop n); exact isL_drop z
theorem isL_app {K : PySem.W.Frag} {H : Hp} : ∀ {ds es : List D} {vs ws : List V}, IsL K H ds vs → IsL K H es ws → IsL K H (ds ++ es) (vs ++ ws)
  | [], _, _, _, h, g => by rw [show _ = [] from h]; exact g
  | d :: ds, _, _, _, ⟨v, t, e, h, z⟩, g => by subst e; exact ⟨v, _, rfl, h, isL_app z g⟩
theorem ps_setSlD (G : GoodS cl c Γ k W sc X) {o e : Expr} {lo hi : Option Expr} {p2 p pos : Pos} {to te : Rd D} {tl th : Rd (Option Int)} (ho : PEl cl W X o to) (hl : POl cl W X lo tl) (hh : POl cl W X hi th) (he : PEl cl W X e te) :
    PSl cl W X (.Assign [.Subscript o (.Slice lo hi none p2) p] e pos) fun Z σ m => te Z.ex σ m fun v m1 => to Z.ex σ m1 fun x m2 => tl Z.ex σ m2 fun p m3 => th Z.ex σ m3 fun q m4 => ∃ a b xs ys i j, x = .ref a ∧ v = .ref b ∧ m4 a = some (.lst xs) ∧ m4 b = some (.lst ys) ∧ a ≠ b ∧ p = some i ∧ q = some j ∧ 0 ≤ i ∧ i ≤ j ∧ j ≤ xs.length ∧ xs.length + ys.length ≤ big ∧ Z.nx σ (upd m4 a (.lst (xs.take i.toNat ++ ys ++ xs.drop j.toNat))) := by
  refine ps_imp (L2.ps_asg he (pg_subSl ho hl hh) (sw_nn' (tg := .Subscript o (.Slice lo hi none p2) p) rfl) (by cases e <;> rfl) (by rfl)) fun D σ H q => ?_
  refine LSt.val (R := RV X.K) (u := fun v Z σ m1 => to Z.ex σ m1 fun x m2 => tl Z.ex σ m2 fun p m3 => th Z.ex σ m3 fun q m4 => ∃ a b xs ys i j, x = .ref a ∧ v = .ref b ∧ m4 a = some (.lst xs) ∧ m4 b = some (.lst ys) ∧ a ≠ b ∧ p = some i ∧ q = some j ∧ 0 ≤ i ∧ i ≤ j ∧ j ≤ xs.length ∧ xs.length + ys.length ≤ big ∧ Z.nx σ (upd m4 a (.lst (xs.take i.toNat ++ ys ++ xs.drop j.toNat)))) q fun v H1 _ ⟨d, hd, l⟩ => ?_
  refine LSt.val (R := RV X.K) (u := fun x Z σ m2 => tl Z.ex σ m2 fun p m3 => th Z.ex σ m3 fun q m4 => ∃ a b xs ys i j, x = .ref a ∧ d = .ref b ∧ m4 a = some (.lst xs) ∧ m4 b = some (.lst ys) ∧ a ≠ b ∧ p = some i ∧ q = some j ∧ 0 ≤ i ∧ i ≤ j ∧ j ≤ xs.length ∧ xs.length + ys.length ≤ big ∧ Z.nx σ (upd m4 a (.lst (xs.take i.toNat ++ ys ++ xs.drop j.toNat)))) l fun ov H2 k2 ⟨x, hx, l⟩ => ?_
  refine LSt.val (R := RO) (u := fun p Z σ m3 => th Z.ex σ m3 fun q m4 => ∃ a b xs ys i j, x = .ref a ∧ d = .ref b ∧ m4 a = some (.lst xs) ∧ m4 b = some (.lst ys) ∧ a ≠ b ∧ p = some i ∧ q = some j ∧ 0 ≤ i ∧ i ≤ j ∧ j ≤ xs.length ∧ xs.length + ys.length ≤ big ∧ Z.nx σ (upd m4 a (.lst (xs.take i.toNat ++ ys ++ xs.drop j.toNat)))) l fun pv H3 k3 ⟨p, hp, l⟩ => ?_
  refine LSt.val (R := RO) (u := fun q Z σ m4 => ∃ a b xs ys i j, x = .ref a ∧ d = .ref b ∧ m4 a = some (.lst xs) ∧ m4 b = some (.lst ys) ∧ a ≠ b ∧ p = some i ∧ q = some j ∧ 0 ≤ i ∧ i ≤ j ∧ j ≤ xs.length ∧ xs.length + ys.length ≤ big ∧ Z.nx σ (upd m4 a (.lst (xs.take i.toNat ++ ys ++ xs.drop j.toNat)))) l fun qv H4 k4 ⟨q, hq, l⟩ => ?_
  obtain ⟨Z, σ', m, hs, hr, ⟨a, b, xs, ys, i, j, rfl, rfl, ea, eb, hab, rfl, rfl, h0, h1, h2, h3, hz⟩, pp⟩ := l
  cases hx
  cases hd
  cases hp
  cases hq
  obtain ⟨vs, z, l⟩ := hr a _ ea
  obtain ⟨ws, z', l'⟩ := hr b _ eb
  refine ⟨a, b, vs, ws, i, j, rfl, rfl, z, z', hab, rfl, rfl, h0, h1, by rw [l.length]; exact h2, by rw [l.length, l'.length]; exact big_le h3, ?_⟩
  have kp : Kp H4 (L2.upd H4 a (.lst (vs.take i.toNat ++ ws ++ vs.drop j.toNat))) := kp_mut z (fun _ h => nomatch h) fun _ _ h => nomatch h
  exact pp.nx _ _ _ _ hz (hs.kp kp) (hr.mut ea ⟨_, L2.upd_same, isL_app (isL_app (isL_take (l.kp kp)) (l'.kp kp)) (isL_drop (l.kp kp))⟩) (Ext.mut ea)
theorem ps_raise0D (G : GoodS cl c Γ k W sc X) (cool : c.hot = false) {x : Str} {j : Nat} {p pos pos' : Pos} (hg : isGl sc x = true) (hx : c.exr.lookup x = some j) (he : excF j = []) :
    PSl cl W X (.Raise (some (.Call (.Name x p) [] [] pos)) none pos') fun Z σ m => Z.ex σ ⟨j, []⟩ m := by
  obtain ⟨g1, g2, g3⟩ := isGl_ok G.toGood hg
  have R := G.exr x j hx
  refine ps_imp (L2.ps_raise (G.calm cool) G.tk (pmk_own0 PySem.F.excBase_ValueError (R.bare he) R.at_ R.kp (L2.raises_own R.ex R.ty) g1 g2)) fun D σv H q => ?_
  obtain ⟨Z, σ, m, hs, hr, hq, p⟩ := q
  exact p.ex.ex σ σv ⟨j, []⟩ m _ _ H hq hs ⟨rfl, .inl ⟨rfl, rfl⟩⟩ hr (Ext.refl _ _)
theorem ps_raise1D (G : GoodS cl c Γ k W sc X) (cool : c.hot = false) {x : Str} {e : Expr} {j : Nat} {f : List Nat} {p pos pos' : Pos} {t : Rd (List D)} (hg : isGl sc x = true) (hx : c.exr.lookup x = some j) (he : excF j = [f]) (h : PAl cl W X [e] t) (hp : plainE e = true) :
    PSl cl W X (.Raise (some (.Call (.Name x p) [e] [] pos)) none pos') fun Z σ m => t Z.ex σ m fun ds m1 => Z.ex σ ⟨j, (excF j).zip ds⟩ m1 := by
  obtain ⟨g1, g2, g3⟩ := isGl_ok G.toGood hg
  have R := G.exr x j hx
  obtain ⟨k2, T, no, fI, fd, ps, F, iC, tI, hb⟩ := R.ini f he
  have st := plain_star hp [] X.env
  refine ps_imp (L2.ps_raise (G.calm cool) G.tk (pmk_frz (L2.pmk_oex (ds := []) (dvs := []) T iC tI F ((G.room cool).room.mono (by decide)) hb .nil (fun _ _ _ _ _ _ _ z => by
    obtain ⟨_, _, _, _, _, _, _, _, _, _, _, _, z⟩ := z
    exact z.elim) g1 R.at_ h g2 st rfl))) fun D σv H q => ?_
  obtain ⟨Z, σ, m, hs, hr, hq, pp⟩ := q
  refine ⟨σ, m, _, Z.ex, hs, hr, hq, ⟨fun ds m1 vs H1 z s r ee => ?_, pp.ex⟩⟩
  obtain ⟨hn, hl⟩ := s
  match ds, hn, hl with
  | [d], _, hl =>
    obtain ⟨v, r0, ev, iv, er⟩ := hl
    rw [show r0 = [] from er] at ev
    subst ev
    refine ⟨by show 1 ≤ 1000; decide, fun a ha => ⟨a, cl j, v, rfl, T, no, L2.upd_same, fun dx n1 n2 => ?_⟩⟩
    have hd1 : H1 dx = none := by rw [L2.upd_ne n2] at n1; exact n1
    refine ⟨rfl, dx, [(SX.S f, v)], L2.upd_same, by rw [L2.upd_ne n2, L2.upd_same], hd1, dx, [(SX.S f, v)], rfl, L2.upd_same, fun od => ?_⟩
    have eH : L2.upd (L2.upd (L2.del (L2.upd (L2.upd (L2.upd H1 a (L2.exo a (cl j) none)) dx (L2.exd dx [(SX.S f, v)])) a (L2.exo a (cl j) (some dx))) a) dx (.xd [(SX.S f, v)])) dx (.frz od (.xd [(SX.S f, v)])) = L2.upd H1 dx (.frz od (.xd [(SX.S f, v)])) := by
      funext b
      by_cases hb : b = dx
      · subst hb
        rw [L2.upd_same, L2.upd_same]
      · rw [L2.upd_ne hb, L2.upd_ne hb, L2.upd_ne hb]
        by_cases hba : b = a
        · subst hba
          rw [L2.del_same, ha]
        · rw [L2.del_ne hba, L2.upd_ne hba, L2.upd_ne hb, L2.upd_ne hba]
    rw [eH]
    have kp := kp_new (o := HO.frz od (.xd [(SX.S f, v)])) hd1
    refine pp.ex.ex σ σv _ m1 _ _ _ z ((hs.kp (hr.kp ee)).kp kp) ⟨rfl, .inr ⟨dx, _, od, rfl, L2.upd_same, ?_⟩⟩ (r.hid hd1) (ee.trans (Ext.hid hd1))
    rw [he]
    exact ⟨v, [], rfl, iv.kp kp, rfl⟩
theorem ps_badD {st : Stmt} : PSl cl W X st fun _ _ _ => False := ⟨fun pins s σ H D I h => by
  obtain ⟨Z, σ', m, hs, hr, hz, pp⟩ := h
  exact hz.elim⟩
theorem GoodS.bk (G : GoodS cl c Γ k W sc X) : X.env.blockKind = .function := by
  show (if X.env.scope.kind.isAnnotationScope then ScopeKind.function else X.env.scope.kind) = .function
  rw [G.hsc, G.kind]
  rfl
theorem GoodS.lk_ (G : GoodS cl c Γ k W sc X) {x : Str} (h : isLoc sc x = true) : X.env.scope.names.lookup x = some .local := by
  rw [G.hsc]
  exact of_decide_eq_true h
theorem swp_two {env : Env} {x y : Str} {px py pt pt2 : Pos} {kt k2} {a b : Expr} (hk : env.blockKind = .function) (hx : env.scope.names.lookup x = some .local) (hy : env.scope.names.lookup y = some .local) (hl : (py.line == px.line) = true) (hxy : (x == y) = false)
    (pa : plainE a = true) (pb : plainE b = true) (hf : (foldedForSure 8 a && foldedForSure 8 b) = false) (hc : (constantsAlone 8 a && constantsAlone 8 b) = false) :
    swappedStores [.Tuple [.Name x px, .Name y py] kt pt] (.Tuple [a, b] k2 pt2) env = pure (some [x, y]) := by
  have sa : ∀ e, plainE e = true → (match e with | .Starred .. => true | _ => false) = false := fun e h => by cases e <;> first | rfl | cases h
  have hyx : (y == x) = false := by rw [Bool.eq_false_iff] at hxy ⊢; intro z; exact hxy (by rw [beq_iff_eq] at z ⊢; exact z.symm)
  have ed : [x, y].eraseDups = [x, y] := by simp [List.eraseDups_cons, hyx]
  unfold swappedStores
  simp only [List.length_cons, List.length_nil, hk, List.any_cons, List.any_nil, sa a pa, sa b pb, List.filterMap_cons, List.filterMap_nil, Env.kindOf, hx, hy, List.head?_cons, Option.map_some, Option.getD_some, Expr.pos, hl, beq_self_eq_true, Bool.and_true, Bool.and_self, if_true, ed, List.all_cons, List.all_nil, hf, hc]
  rw [if_neg (by decide), if_neg ?star]
  case star =>
    intro h
    simp only [Bool.or_eq_true, Bool.or_false] at h
    rcases h with h | h
    · cases a <;> first | (cases pa; done) | (cases h; done)
    · cases b <;> first | (cases pb; done) | (cases h; done)
  rfl
theorem swp_three {env : Env} {x y z : Str} {px py pz pt pt2 : Pos} {kt k2} {a b d : Expr} (hk : env.blockKind = .function) (hx : env.scope.names.lookup x = some .local) (hy : env.scope.names.lookup y = some .local) (hz : env.scope.names.lookup z = some .local) (hl : (py.line == px.line) = true) (hl2 : (pz.line == px.line) = true) (hxy : (x == y) = false) (hxz : (x == z) = false) (hyz : (y == z) = false)
    (pa : plainE a = true) (pb : plainE b = true) (pd : plainE d = true) (hf : (foldedForSure 8 a && (foldedForSure 8 b && foldedForSure 8 d)) = false) (hc : (constantsAlone 8 a && (constantsAlone 8 b && constantsAlone 8 d)) = false) :
    swappedStores [.Tuple [.Name x px, .Name y py, .Name z pz] kt pt] (.Tuple [a, b, d] k2 pt2) env = pure (some [x, y, z]) := by
  have sa : ∀ e, plainE e = true → (match e with | .Starred .. => true | _ => false) = false := fun e h => by cases e <;> first | rfl | cases h
  have sy : ∀ {x y : Str}, (x == y) = false → (y == x) = false := fun {x y} h => by rw [Bool.eq_false_iff] at h ⊢; intro z; exact h (by rw [beq_iff_eq] at z ⊢; exact z.symm)
  have ed : [x, y, z].eraseDups = [x, y, z] := by simp [List.eraseDups_cons, sy hxy, sy hxz, sy hyz]
  unfold swappedStores
  simp only [List.length_cons, List.length_nil, hk, List.any_cons, List.any_nil, sa a pa, sa b pb, sa d pd, List.filterMap_cons, List.filterMap_nil, Env.kindOf, hx, hy, hz, List.head?_cons, Option.map_some, Option.getD_some, Expr.pos, hl, hl2, beq_self_eq_true, Bool.and_true, Bool.and_self, if_true, ed, List.all_cons, List.all_nil, hf, hc]
  rw [if_neg (by decide), if_neg ?star]
  case star =>
    intro h
    simp only [Bool.or_eq_true, Bool.or_false] at h
    rcases h with h | h | h
    · cases a <;> first | (cases pa; done) | (cases h; done)
    · cases b <;> first | (cases pb; done) | (cases h; done)
    · cases d <;> first | (cases pd; done) | (cases h; done)
  rfl
theorem slot_ne {N : List Str} {x y : Str} {i j : Nat} (hi : slotOf N x = some i) (hj : slotOf N y = some j) (h : (x == y) = false) : i ≠ j := by
  intro e
  subst e
  have h1 := slotOf_get hi
  rw [slotOf_get hj] at h1
  cases h1
  simp at h
theorem swp_cell {env : Env} {x y : Str} {px py pt pt2 : Pos} {kt k2} {a b : Expr} (h : (env.kindOf x == some NameKind.local) = false ∨ (env.kindOf y == some NameKind.local) = false) :
    swappedStores [.Tuple [.Name x px, .Name y py] kt pt] (.Tuple [a, b] k2 pt2) env = pure none := by
  unfold swappedStores
  dsimp only
  split
  · rfl
  split
  · rfl
  have hl : ∀ (n : Nat), (List.filterMap (fun (e : Expr) => match e with
      | .Name id pos => if (env.kindOf id == some NameKind.local && pos.line == n) = true then some id else none
      | _ => none) [.Name x px, .Name y py]).length ≤ 1 := fun n => by
    rcases h with h | h
    · rw [List.filterMap_cons]
      simp only [h, Bool.false_and, Bool.false_eq_true, if_false]
      rw [List.filterMap_cons]
      split <;> simp
    · rw [List.filterMap_cons]
      split
      · rw [List.filterMap_cons]
        simp only [h, Bool.false_and, Bool.false_eq_true, if_false]
        simp
      · rw [List.filterMap_cons]
        simp only [h, Bool.false_and, Bool.false_eq_true, if_false]
        simp
  have h2 := hl ((Option.map (fun (e : Expr) => e.pos.line) [Expr.Name x px, Expr.Name y py].head?).getD 0)
  refine if_pos ((Bool.or_eq_true _ _).mpr (.inl ?_))
  rw [bne_iff_ne]
  intro e
  exact absurd (show 2 ≤ 1 from Nat.le_trans (Nat.le_of_eq e.symm) h2) (by decide)
theorem ps_par2C (G : GoodS cl c Γ k W sc X) (cool : c.hot = false) {x y : Str} {px py pt pt2 pos : Pos} {kt k2} {a b : Expr} {te : Rd D} {t : Tg} (hk : (isLoc sc x && isLoc sc y) = false) (ht : cTg c.N (isLocC sc) n (.Tuple [.Name x px, .Name y py] kt pt) = some t) (he : PEl cl W X (.Tuple [a, b] k2 pt2) te) :
    PSl cl W X (.Assign [.Tuple [.Name x px, .Name y py] kt pt] (.Tuple [a, b] k2 pt2) pos) fun Z σ m => te Z.ex σ m fun d m1 => rTg t d σ m1 Z.nx := by
  have hstar := cTg_star ht
  have kd : ∀ z, isLoc sc z = false → (X.env.kindOf z == some NameKind.local) = false := fun z hz => by
    have e : (X.env.kindOf z == some NameKind.local) = isLoc X.env.scope z := by
      show (X.env.scope.names.lookup z == some NameKind.local) = decide (X.env.scope.names.lookup z = some NameKind.local)
      cases X.env.scope.names.lookup z with
      | none => rfl
      | some k => cases k <;> rfl
    rw [e, G.hsc]
    exact hz
  refine ps_imp (L2.ps_asg he (pg_D G.toGood cool G.hok ht) (sw_nn' rfl) (swp_cell ?_) (by rw [asg_cons hstar]; rfl)) fun D σ H q => ?_
  · rw [Bool.and_eq_false_iff] at hk
    exact hk.elim (fun h => .inl (kd x h)) fun h => .inr (kd y h)
  refine LSt.val (R := RV X.K) (u := fun d Z σ m1 => rTg t d σ m1 Z.nx) q fun v H1 _ ⟨d, hd, l⟩ => ?_
  obtain ⟨Z, σ', m, hs, hr, hq, p⟩ := l
  exact ⟨d, σ', m, _, hd, hs, hr, hq, fun σ2 m2 σv2 H2 z s r e _ => p.nx _ _ _ _ z s r e⟩
theorem ps_par2D (G : GoodS cl c Γ k W sc X) (cool : c.hot = false) {x y : Str} {i j : Nat} {px py pt pt2 pos : Pos} {kt k2} {a b : Expr} {t : Rd (List D)} (hx : isLoc sc x = true) (hy : isLoc sc y = true) (hl : (py.line == px.line) = true) (hxy : (x == y) = false)
    (hf : (foldedForSure 8 a && foldedForSure 8 b) = false) (hc : (constantsAlone 8 a && constantsAlone 8 b) = false) (hi : slotOf c.N x = some i) (hj : slotOf c.N y = some j) (h : PAl cl W X [a, b] t ∧ [a, b].all plainE = true) :
    PSl cl W X (.Assign [.Tuple [.Name x px, .Name y py] kt pt] (.Tuple [a, b] k2 pt2) pos) fun Z σ m => t Z.ex σ m fun ds m1 => rTg (.pair (.name i) (.name j)) (.tup ds) σ m1 Z.nx := by
  obtain ⟨ha, hp⟩ := h
  simp only [List.all_cons, List.all_nil, Bool.and_true, Bool.and_eq_true] at hp
  have hij := slot_ne hi hj hxy
  refine ps_imp (L2.ps_par (i := i) (j := j) (G.calm cool) (by rw [G.hN]; exact G.nd) (by rw [G.hN]; exact slotOf_get hi) (by rw [G.hN]; exact slotOf_get hj) hij (G.lk_ hx) (G.lk_ hy) ha (swp_two G.bk (G.lk_ hx) (G.lk_ hy) hl hxy hp.1 hp.2 hf hc)) fun D σ H q => ?_
  refine LSt.val (R := RN X.K 2) (u := fun ds Z σ m1 => rTg (.pair (.name i) (.name j)) (.tup ds) σ m1 Z.nx) q fun vs H1 _ ⟨ds, ⟨hn, hd⟩, l⟩ => ?_
  match ds, hn, hd with
  | [d1, d2], _, hd =>
    obtain ⟨v1, v2, ev, l1, l2⟩ := isL2 hd
    subst ev
    refine ⟨v1, v2, rfl, ?_⟩
    obtain ⟨Z, σ', m, hs, hr, hz, pp⟩ := l
    exact pp.nx _ _ _ _ hz.2 ((hs.set l1 i).set l2 j) hr (Ext.refl _ _)
theorem ps_par3D (G : GoodS cl c Γ k W sc X) (cool : c.hot = false) {x y z : Str} {i j l : Nat} {px py pz pt pt2 pos : Pos} {kt k2} {a b d : Expr} {t : Rd (List D)} (hx : isLoc sc x = true) (hy : isLoc sc y = true) (hz : isLoc sc z = true) (hl : (py.line == px.line) = true) (hl2 : (pz.line == px.line) = true) (hxy : (x == y) = false) (hxz : (x == z) = false) (hyz : (y == z) = false)
    (hf : (foldedForSure 8 a && (foldedForSure 8 b && foldedForSure 8 d)) = false) (hc : (constantsAlone 8 a && (constantsAlone 8 b && constantsAlone 8 d)) = false) (hi : slotOf c.N x = some i) (hj : slotOf c.N y = some j) (hk : slotOf c.N z = some l) (h : PAl cl W X [a, b, d] t ∧ [a, b, d].all plainE = true) :
    PSl cl W X (.Assign [.Tuple [.Name x px, .Name y py, .Name z pz] kt pt] (.Tuple [a, b, d] k2 pt2) pos) fun Z σ m => t Z.ex σ m fun ds m1 => rTg (.trip (.name i) (.name j) (.name l)) (.tup ds) σ m1 Z.nx := by
  obtain ⟨ha, hp⟩ := h
  simp only [List.all_cons, List.all_nil, Bool.and_true, Bool.and_eq_true] at hp
  refine ps_imp (L2.ps_par3 (i := i) (j := j) (l := l) (G.calm cool) (by rw [G.hN]; exact G.nd) (by rw [G.hN]; exact slotOf_get hi) (by rw [G.hN]; exact slotOf_get hj) (by rw [G.hN]; exact slotOf_get hk) (slot_ne hi hj hxy) (slot_ne hi hk hxz) (slot_ne hj hk hyz) (G.lk_ hx) (G.lk_ hy) (G.lk_ hz) ha (swp_three G.bk (G.lk_ hx) (G.lk_ hy) (G.lk_ hz) hl hl2 hxy hxz hyz hp.1 hp.2.1 hp.2.2 hf hc)) fun D σ H q => ?_
  refine LSt.val (R := RN X.K 3) (u := fun ds Z σ m1 => rTg (.trip (.name i) (.name j) (.name l)) (.tup ds) σ m1 Z.nx) q fun vs H1 _ ⟨ds, ⟨hn, hd⟩, q⟩ => ?_
  match ds, hn, hd with
  | [d1, d2, d3], _, hd =>
    obtain ⟨v1, r1, ev, l1, hd⟩ := hd
    obtain ⟨v2, v3, ev2, l2, l3⟩ := isL2 hd
    subst ev ev2
    refine ⟨v1, v2, v3, rfl, ?_⟩
    obtain ⟨Z, σ', m, hs, hr, hz, pp⟩ := q
    exact pp.nx _ _ _ _ hz.2 (((hs.set l1 i).set l2 j).set l3 l) hr (Ext.refl _ _)
/-- a pair's reading -/
def onPair (f : D → D → Ends → St → Mem → Prop) : D → Ends → St → Mem → Prop
  | .tup [v, w] => f v w
  | _ => fun _ _ _ => False
theorem onPair_inv {f : D → D → Ends → St → Mem → Prop} {d : D} {Z : Ends} {σ : St} {m : Mem} (h : onPair f d Z σ m) : ∃ v w, d = .tup [v, w] ∧ f v w Z σ m := by
  unfold onPair at h
  split at h
  · exact ⟨_, _, rfl, h⟩
  · exact h.elim
theorem ps_swpD (G : GoodS cl c Γ k W sc X) (cool : c.hot = false) {o i o' i' a b : Expr} {p p' pt pt2 pos : Pos} {kt k2} {to ti to' ti' ta tb : Rd D} (hi : plainE i = true) (hi' : plainE i' = true) (ho : PEl cl W X o to) (hI : PEl cl W X i ti) (ho' : PEl cl W X o' to') (hI' : PEl cl W X i' ti')
    (h : PAl cl W X [a, b] fun E σ m k => ta E σ m fun v m1 => tb E σ m1 fun w m2 => k [v, w] m2) :
    PSl cl W X (.Assign [.Tuple [.Subscript o i p, .Subscript o' i' p'] kt pt] (.Tuple [a, b] k2 pt2) pos) fun Z σ m => ta Z.ex σ m fun v m1 => tb Z.ex σ m1 fun w m2 => to Z.ex σ m2 fun x m3 => ti Z.ex σ m3 fun y m4 => rSet x y v m4 fun m5 => to' Z.ex σ m5 fun x' m6 => ti' Z.ex σ m6 fun y' m7 => rSet x' y' w m7 fun m8 => Z.nx σ m8 := by
  have hu := G.u65
  have g1 : PG X (.Subscript o i p) _ := L2.pg_sub ho hI (set_D (cl := cl) (by omega)) (by intro v; cases i <;> first | rfl | cases hi)
  have g2 : PG X (.Subscript o' i' p') _ := L2.pg_sub ho' hI' (set_D (cl := cl) (by omega)) (by intro v; cases i' <;> first | rfl | cases hi')
  refine ps_imp (L2.ps_asg (pe_tupD (show 2 ≤ 1000 by decide) h) (L2.pg_tup (n := 2) (G.calm cool) (L2.pgs_cons g1 (L2.pgs_cons g2 L2.pgs_nil (by rfl)) (by rfl)) (by rfl) (by rfl)) (by rfl) (by
    unfold swappedStores
    simp only [List.length_cons, List.length_nil, G.bk, List.filterMap_cons, List.filterMap_nil]
    split <;> first | rfl | skip
    split <;> rfl) (by rfl)) fun D σ H q => ?_
  refine LSt.val (R := RV X.K) (t := fun E σ m k => ta E σ m fun v m1 => tb E σ m1 fun w m2 => k (.tup [v, w]) m2) (u := onPair fun v w Z σ m2 => to Z.ex σ m2 fun x m3 => ti Z.ex σ m3 fun y m4 => rSet x y v m4 fun m5 => to' Z.ex σ m5 fun x' m6 => ti' Z.ex σ m6 fun y' m7 => rSet x' y' w m7 fun m8 => Z.nx σ m8) q fun dv H1 _ ⟨d, hd, l⟩ => ?_
  obtain ⟨Z, σ', m, hs, hr, hz, pp⟩ := l
  obtain ⟨v, w, rfl, hz⟩ := onPair_inv hz
  obtain ⟨pa, vs, ep, tq, lq⟩ := tupS_sq (ds := [v, w]) rfl hd
  obtain ⟨vv, wv, ev, hv, hw⟩ := isL2 lq
  subst ep ev
  refine ⟨pa, _, rfl, tq, rfl, vv, _, rfl, ?_⟩
  refine LSt.val (R := RV X.K) (t := to) (u := fun x Z σ m3 => ti Z.ex σ m3 fun y m4 => rSet x y v m4 fun m5 => to' Z.ex σ m5 fun x' m6 => ti' Z.ex σ m6 fun y' m7 => rSet x' y' w m7 fun m8 => Z.nx σ m8) ⟨Z, σ', m, hs, hr, hz, pp⟩ fun ov H2 k2 ⟨x, hx, l⟩ => ?_
  refine LSt.val (R := RV X.K) (t := ti) (u := fun y Z σ m4 => rSet x y v m4 fun m5 => to' Z.ex σ m5 fun x' m6 => ti' Z.ex σ m6 fun y' m7 => rSet x' y' w m7 fun m8 => Z.nx σ m8) l fun iv H3 k3 ⟨y, hy, l⟩ => ?_
  obtain ⟨Z, σ', m, hs, hr, hq, p⟩ := l
  refine ⟨x, y, v, m, _, hx.kp k3, hy, (hv.kp k2).kp k3, hr, hq, fun m4 H4 z r e => ?_⟩
  have k4 := hr.kp e
  refine ⟨wv, _, rfl, ?_⟩
  refine LSt.val (R := RV X.K) (t := to') (u := fun x' Z σ m6 => ti' Z.ex σ m6 fun y' m7 => rSet x' y' w m7 fun m8 => Z.nx σ m8) ⟨Z, σ', m4, hs.kp k4, r, z, p.step e⟩ fun ov H5 k5 ⟨x', hx', l⟩ => ?_
  refine LSt.val (R := RV X.K) (t := ti') (u := fun y' Z σ m7 => rSet x' y' w m7 fun m8 => Z.nx σ m8) l fun iv H6 k6 ⟨y', hy', l⟩ => ?_
  obtain ⟨Z, σ', m, hs, hr, hq, p⟩ := l
  exact ⟨x', y', w, m, _, hx'.kp k6, hy', ((((hw.kp k2).kp k3).kp k4).kp k5).kp k6, hr, hq, fun m8 H8 z r e => ⟨rfl, p.nx _ _ _ _ z (hs.kp (hr.kp e)) r e⟩⟩
theorem ps_exprD {e : Expr} {pos : Pos} {te : Rd D} (hc : noComp e = true) (he : PEl cl W X e te) : PSl cl W X (.Expr e pos) fun Z σ m => te Z.ex σ m fun _ m1 => Z.nx σ m1 := by
  refine ps_imp (L2.ps_expr he (noComp_sw hc _ _ _)) fun D σ H q => ?_
  refine LSt.val (R := RV X.K) (u := fun _ Z σ m1 => Z.nx σ m1) q fun v H1 _ ⟨d, hd, l⟩ => ?_
  exact l.nxt (v2 := fun σv => σv) (σ2 := fun σ => σ) fun σ hs => hs
theorem pe_frzD {b : Bool} {e : Expr} {te : Rd D} (h : PEl cl W X e te) : PEl cl W X e fun E σ m k => te E σ m fun d m1 => if b = true then frz d m1 k else k d m1 := by
  refine pe_imp (pe_frz h) fun σ H Q q => ?_
  obtain ⟨σ', m, k, E, hs, hr, ht, p⟩ := q
  refine ⟨σ', m, _, E, hs, hr, ht, ⟨fun d m' v H' z hd r e => fz_ok ?_ hd r e p.ok, p.ex⟩⟩
  by_cases hb : b = true
  · rw [if_pos hb] at z
    exact frz_fz z
  · rw [if_neg hb] at z
    exact .inl z
theorem ps_retD {b : Bool} {e : Expr} {pos : Pos} {te : Rd D} (he0 : PEl cl W X e te) : PSl cl W X (.Return (some e) pos) fun Z σ m => te Z.ex σ m fun d m1 => if b = true then frz d m1 Z.rt else Z.rt d m1 := by
  have he := pe_frzD (b := b) he0
  refine ps_imp (L2.ps_ret he) fun D σ H q => ?_
  refine LSt.val (R := RV X.K) (u := fun d Z σ m1 => Z.rt d m1) q fun v H1 _ ⟨d, hd, l⟩ => ?_
  obtain ⟨Z, σ', m, hs, hr, hq, p⟩ := l
  exact p.rt _ _ _ _ hq hd hr (Ext.refl _ _)
theorem ps_retND {pos : Pos} : PSl cl W X (.Return none pos) fun Z σ m => Z.rt .non m := by
  refine ps_imp L2.ps_retN fun D σ H q => ?_
  obtain ⟨Z, σ', m, hs, hr, hq, p⟩ := q
  exact p.rt _ _ _ _ hq rfl hr (Ext.refl _ _)
theorem ps_iteD {t : Expr} {a b : List Stmt} {pos : Pos} {tt : Rd Bool} {ta tb : Ends → St → Mem → Prop} (ht : PTl cl W X t tt) (ha : PSsl cl W X a ta) (hb : PSsl cl W X b tb) :
    PSl cl W X (.If t a b pos) fun Z σ m => tt Z.ex σ m fun p m1 => (p = true → ta Z σ m1) ∧ (p = false → tb Z σ m1) := by
  refine ps_imp (L2.ps_if ht ha hb) fun D σ H q => ?_
  refine LSt.val (R := RB) (u := fun p Z σ m1 => (p = true → ta Z σ m1) ∧ (p = false → tb Z σ m1)) q fun v H1 _ ⟨d, hd, l⟩ => ?_
  cases hd
  cases v with
  | true => exact l.imp fun _ _ _ z => z.1 rfl
  | false => exact l.imp fun _ _ _ z => z.2 rfl
theorem pss_nilD : PSsl cl W X [] fun Z σ m => Z.nx σ m := pss_imp L2.pss_nil fun D σ H q => q.nxt (v2 := fun σv => σv) (σ2 := fun σ => σ) fun σ hs => hs
theorem pss_consD {s : Stmt} {r : List Stmt} {t u : Ends → St → Mem → Prop} (hs : PSl cl W X s t) (hr : PSsl cl W X r u) :
    PSsl cl W X (s :: r) fun Z σ m => t { nx := fun σ1 m1 => u Z σ1 m1, rt := Z.rt, bk := Z.bk, ct := Z.ct, ex := Z.ex } σ m := by
  refine pss_imp (L2.pss_cons hs hr) fun D σ H q => ?_
  obtain ⟨Z, σ', m, hs, hr, hq, p⟩ := q
  exact ⟨_, σ', m, hs, hr, hq, ⟨fun σ2 m2 σv2 H2 z s r e => ⟨Z, σ2, m2, s, r, z, p.step e⟩, p.rt, p.bk, p.ct, p.ex⟩⟩
theorem ps_passD {pos : Pos} : PSl cl W X (.Pass pos) fun Z σ m => Z.nx σ m := ps_imp L2.ps_pass fun D σ H q => q.nxt (v2 := fun σv => σv) (σ2 := fun σ => σ) fun σ hs => hs
theorem ps_brkD {pos : Pos} : PSl cl W X (.Break pos) fun Z σ m => Z.bk σ m := ps_imp L2.ps_break fun D σ H q => by
  obtain ⟨Z, σ', m, hs, hr, hq, p⟩ := q
  exact p.bk _ _ _ _ hq hs hr (Ext.refl _ _)
theorem ps_contD {pos : Pos} : PSl cl W X (.Continue pos) fun Z σ m => Z.ct σ m := ps_imp L2.ps_continue fun D σ H q => by
  obtain ⟨Z, σ', m, hs, hr, hq, p⟩ := q
  exact p.ct _ _ _ _ hq hs hr (Ext.refl _ _)
theorem ps_whlD (G : GoodS cl c Γ k W sc X) {t : Expr} {a : List Stmt} {pos : Pos} {tt : Rd Bool} {ta : Ends → St → Mem → Prop} (ht : PTl cl W X t tt) (ha : PSsl cl W X a ta) :
    PSl cl W X (.While t a [] pos) fun Z σ m => ∃ n, rWhl tt ta Z n σ m := by
  refine ps_imp (L2.ps_while G.po ht ha) fun D σv H q => ?_
  obtain ⟨Z, σ, m, hs, hr, ⟨n, hq⟩, p⟩ := q
  refine ⟨fun n σv' H' => ∃ σ m1, StR X.K H' σv' σ ∧ Rep cl X.K H' m1 ∧ Ext H m H' m1 ∧ rWhl tt ta Z n σ m1, ⟨n, σ, m, hs, hr, Ext.refl _ _, hq⟩, ?_⟩
  rintro n σv1 H1 ⟨σ1, m1, s1, r1, e1, q1⟩
  cases n with
  | zero => exact q1.elim
  | succ n =>
    refine ⟨σ1, m1, _, Z.ex, s1, r1, q1, ⟨fun b m2 b' H2 z2 s2 r2 e2 => ?_, (p.step e1).ex⟩⟩
    cases s2
    have pe := p.step (e1.trans e2)
    cases b with
    | false =>
      rw [if_neg (by decide)]
      exact pe.nx _ _ _ _ (z2.2 rfl) (s1.kp (r1.kp e2)) r2 (Ext.refl _ _)
    | true =>
      rw [if_pos rfl]
      have again : ∀ σ' m' σv' H', (∃ m3, Sub m3 m' ∧ rWhl tt ta Z n σ' m3) → StR X.K H' σv' σ' → Rep cl X.K H' m' → Ext H2 m2 H' m' → (fun σv' H' => ∃ σ m1, StR X.K H' σv' σ ∧ Rep cl X.K H' m1 ∧ Ext H m H' m1 ∧ rWhl tt ta Z n σ m1) σv' H' :=
        fun σ' m' σv' H' ⟨m3, sb, z⟩ s r e => ⟨σ', m3, s, r.sub sb, ((e1.trans e2).trans e).sub sb, z⟩
      exact ⟨_, fun σ' H' w => ⟨n, Nat.lt_succ_self n, w⟩, _, σ1, m2, s1.kp (r1.kp e2), r2, z2.1 rfl, ⟨again, pe.rt, pe.nx, again, pe.ex⟩⟩
theorem ps_forD (G : GoodS cl c Γ k W sc X) (cool : c.hot = false) {tg it : Expr} {a : List Stmt} {pos : Pos} {ts : XK → St → Mem → ((Mem → Prop) → List D → Mem → Prop) → Prop} {t : Tg} {ta : Ends → St → Mem → Prop} (hp : plainE it = true) (hs : PIl cl W X tg it ts) (ht : cTg c.N (isLocC sc) n tg = some t) (ha : PSsl cl W X a ta) :
    PSl cl W X (.For tg it a [] pos) fun Z σ m => ts Z.ex σ m fun g items m1 => rFor g (rTg t) ta Z items σ m1 := by
  refine ps_imp (L2.ps_for G.po (G.calm cool) hs (pg_D G.toGood cool G.hok ht) ha (plain_fold hp X.env)) fun D σv H q => ?_
  obtain ⟨Z, σ, m, hs, hr, hq, p⟩ := q
  refine ⟨σ, m, _, Z.ex, hs, hr, hq, fun g items m1 H1 J z it r e => ?_, p.ex⟩
  refine ⟨fun i n σv2 H2 => n = items.length - i ∧ i ≤ items.length ∧ ∃ σ2 m2, StR X.K H2 σv2 σ2 ∧ Rep cl X.K H2 m2 ∧ Ext H1 m1 H2 m2 ∧ rFor g (rTg t) ta Z (items.drop i) σ2 m2,
    ⟨_, rfl, Nat.zero_le _, σ, m1, hs.kp (hr.kp e), r, Ext.refl _ _, z⟩, ?_⟩
  rintro i n σv2 H2 ⟨rfl, hi, σ2, m2, s2, r2, e2, z2⟩
  have kp2 : Kp H1 H2 := r.kp e2
  by_cases hlt : i < items.length
  · have dr : items.drop i = items[i] :: items.drop (i + 1) := List.drop_eq_getElem_cons hlt
    rw [dr] at z2
    obtain ⟨gg, z2⟩ := z2
    refine .inr ⟨it.go i _ H2 m2 (List.getElem?_eq_getElem hlt) kp2 r2 gg, fun σv3 H3 => ∃ σ3 m3, StR X.K H3 σv3 σ3 ∧ Rep cl X.K H3 m3 ∧ Ext H1 m1 H3 m3 ∧ rFor g (rTg t) ta Z (items.drop (i + 1)) σ3 m3,
      fun σ' H' q => ⟨items.length - (i + 1), by omega, rfl, hlt, q⟩, fun x H' y => ?_⟩
    obtain ⟨hx, r3, e3⟩ := it.yld i _ H2 m2 x H' (List.getElem?_eq_getElem hlt) kp2 r2 gg y
    refine ⟨items[i], σ2, m2, _, hx, s2.kp (r2.kp e3), r3, z2, fun σ4 m4 σv4 H4 z4 s4 r4 e4 _ => ?_⟩
    have tot : Ext H1 m1 H4 m4 := (e2.trans e3).trans e4
    have pe := p.step (e.trans tot)
    have again : ∀ σ' m' σv' H', (∃ m3, Sub m3 m' ∧ rFor g (rTg t) ta Z (items.drop (i + 1)) σ' m3) → StR X.K H' σv' σ' → Rep cl X.K H' m' → Ext H4 m4 H' m' → (fun σv3 H3 => ∃ σ3 m3, StR X.K H3 σv3 σ3 ∧ Rep cl X.K H3 m3 ∧ Ext H1 m1 H3 m3 ∧ rFor g (rTg t) ta Z (items.drop (i + 1)) σ3 m3) σv' H' :=
      fun σ' m' σv' H' ⟨m3, sb, z⟩ s r e => ⟨σ', m3, s, r.sub sb, (tot.trans e).sub sb, z⟩
    exact ⟨_, σ4, m4, s4, r4, z4, ⟨again, pe.rt, pe.nx, again, pe.ex⟩⟩
  · have ei : i = items.length := by omega
    subst ei
    rw [List.drop_length] at z2
    obtain ⟨gg, z2⟩ := z2
    exact .inl ⟨it.stop H2 m2 kp2 r2 gg, p.nx _ _ _ _ z2 s2 r2 (e.trans e2)⟩
/-- the clauses' readings -/
def HdsD (cl : Nat → Addr) (Γ : En) (W : WX) (X : Cx) (hds : List ExceptHandler) (x : Hds) : Prop := ∃ l, HdsF X hds l ∧ ∀ {D : L2.Ends} {Z : Ends} {H : Hp} {m : Mem}, PostS cl X.K W H m Z D → ∀ {e : Exc} {σ' : St} {σv' : L2.St} {m' : Mem} {cls : Value} {dd : Option Addr} {H' : Hp}, rHd Γ x Z e σ' m' → StR X.K H' σv' σ' → IsX cl X.K H' e cls dd → Rep cl X.K H' m' → Ext H m H' m' → wF X.K W D l cls dd σv' H'
theorem GoodS.suite (G : GoodS cl c Γ k W sc X) (xs : List Str) (a : Addr) (pn : List (Addr × Obj)) : GoodS cl (c.suite xs) Γ k (fun _ _ _ _ => False) sc (suiteF X a pn) where
  hN := G.hN
  nd := G.nd
  hsc := G.hsc
  calm := fun z => nomatch z
  tk := fun _ _ ⟨_, _, _, _, _, _, _, _, _, _, _, _, _, _, _, _, z⟩ => z.elim
  room := fun z => nomatch z
  un := G.un
  hfree := fun _ x hx => by
    have := (List.mem_filter.mp hx).2
    simpa using this
  hown := fun _ => ⟨rfl, rfl, rfl⟩
  exa := G.exa
  exn := G.exn
  own := fun _ _ _ h => nomatch h
  glb := G.glb
  free := fun x hx => G.free x (List.mem_filter.mp hx).1
  cls := fun _ _ _ h => nomatch h
  mth := fun _ _ _ _ h => nomatch h
  fld := G.fld
  k2 := fun _ h => nomatch h
  fn := G.fn
  kind := G.kind
  po := PassesOwn.never
  hex := G.hex
  hstk := G.hstk
  hfr := G.hfr
  exr := G.exr
theorem GoodS.tri (G : GoodS cl c Γ k W sc X) {W2 : WX} {pn : List (Addr × Obj)} {xe : Value → Shared → Prop} (tk : L2.Takes (X.tr pn xe) W2) (po : PassesOwn (model X.prog X.w) X.A X.env xe) : GoodS cl c Γ k W2 sc (X.tr pn xe) where
  hN := G.hN
  nd := G.nd
  hsc := G.hsc
  calm := G.calm
  tk := tk
  room := G.room
  un := G.un
  hfree := G.hfree
  hown := G.hown
  exa := G.exa
  exn := G.exn
  own := fun x f n h => ⟨(G.own x f n h).ex⟩
  glb := G.glb
  free := G.free
  cls := fun x C n h => ⟨(G.cls x C n h).ex⟩
  mth := fun r m C n h => ⟨(G.mth r m C n h).ex⟩
  fld := G.fld
  k2 := G.k2
  fn := G.fn
  kind := G.kind
  po := po
  hex := G.hex
  hstk := G.hstk
  hfr := G.hfr
  exr := G.exr
structure SndS (cl : Nat → Addr) (c : Ctx) (Γ : En) (k n : Nat) : Prop where
  d : ∀ {W : WX} {sc : Scope} {X : Cx}, GoodS cl c Γ k W sc X → ∀ {hds : List ExceptHandler} {x : Hds}, cHd c n sc hds = some x → HdsD cl Γ W X hds x
  s : ∀ {W : WX} {sc : Scope} {X : Cx}, GoodS cl c Γ k W sc X → ∀ {st : Stmt} {x : Sm}, cS c n sc st = some (erS x) → PSl cl W X st (rS Γ x)
  b : ∀ {W : WX} {sc : Scope} {X : Cx}, GoodS cl c Γ k W sc X → ∀ {st : List Stmt} {x : Sms}, cSs c n sc st = some (er x) → PSsl cl W X st (rSs Γ x)
theorem pss_lock {X : Cx} {st : List Stmt} {t : TS} (h : PSs X st t) : PSs X st fun D σ H => ∃ d u, H d = some u ∧ L2.Mut (some u) ∧ ∀ od, t D σ (L2.upd H d (.frz od u)) := ⟨fun pins s σ H D I hw => by
  obtain ⟨d, u, hd, mu, hw⟩ := hw
  obtain ⟨od, I1⟩ := I.lock hd mu
  exact h.run pins s σ _ D I1 (hw od)⟩
theorem isFs_repl {K : PySem.W.Frag} {H : Hp} {f : List Nat} {a : Addr} {r : D} (hr : IsV K H r (.ref a)) : ∀ {fs : List (List Nat × D)} {ws : List (Str × V)}, IsFs K H fs ws → lk fs f = some (.ref a) → IsFs K H (putF f r fs) ws
  | [], _, _, e => by cases e
  | (g, d) :: t, _, ⟨v, us, e, h, z⟩, q => by
    subst e
    by_cases w : g = f
    · subst w
      have : d = .ref a := by simpa [lk, List.lookup] using q
      subst this
      cases h
      unfold putF
      rw [if_pos rfl]
      exact ⟨_, _, rfl, hr, z⟩
    · have b1 : (f == g) = false := by simpa using fun e => w e.symm
      have q2 : lk t f = some (.ref a) := by simpa [lk, List.lookup, b1] using q
      unfold putF
      rw [if_neg w]
      exact ⟨_, _, rfl, h, isFs_repl hr z q2⟩
theorem isL_repl {K : PySem.W.Frag} {H : Hp} {a : Addr} {r : D} (hr : IsV K H r (.ref a)) : ∀ {ds : List D} {ws : List V} {j : Nat}, IsL K H ds ws → ds[j]? = some (.ref a) → IsL K H (ds.set j r) ws
  | [], _, _, _, e => by cases e
  | d :: t, _, 0, ⟨v, us, e, h, z⟩, q => by
    cases q
    cases h
    exact ⟨_, us, e, hr, z⟩
  | d :: t, _, j + 1, ⟨v, us, e, h, z⟩, q => ⟨v, us, e, h, isL_repl hr z q⟩
theorem pss_ghD {g : Gst} {st : List Stmt} {t : Ends → St → Mem → Prop} (h : PSsl cl W X st t) : PSsl cl W X st fun Z σ m => rGh g { Z with nx := fun σ m => t Z σ m } σ m := by
  refine pss_imp (pss_lock h) fun D σv H q => ?_
  obtain ⟨Z, σ, m, hs, hr, hz, p⟩ := q
  cases g with
  | slot i =>
    obtain ⟨a, o, r, e1, e2, e3, hz⟩ := hz
    obtain ⟨w, hw, mu, q⟩ := mut_of_rep hr e2 e3
    refine ⟨a, w, hw, mu, fun od => ?_⟩
    obtain ⟨iv, r2, ex⟩ := q od
    have hs2 := hs.kp (hr.kp ex)
    refine ⟨Z, sset σ i r, _, ?_, r2, hz, p.step ex⟩
    obtain ⟨v, ev, hv⟩ := hs.at_ i _ e1
    cases hv
    have := hs2.set iv i
    have e4 : σv.set i (some (V.ref a)) = σv := by
      apply List.ext_getElem?
      intro j
      by_cases hj : i = j
      · subst hj
        rw [ev, List.getElem?_set_self (List.getElem?_eq_some_iff.mp ev).1]
      · rw [List.getElem?_set_ne hj]
    rw [e4] at this
    exact this
  | part i j =>
    obtain ⟨ds, a, o, r, e0, e1, e2, e3, hz⟩ := hz
    obtain ⟨w, hw, mu, q⟩ := mut_of_rep hr e2 e3
    refine ⟨a, w, hw, mu, fun od => ?_⟩
    obtain ⟨iv, r2, ex⟩ := q od
    have hs2 := hs.kp (hr.kp ex)
    refine ⟨Z, sset σ i (.tup (ds.set j r)), _, ?_, r2, hz, p.step ex⟩
    obtain ⟨v, ev, hv⟩ := hs2.at_ i _ e0
    obtain ⟨pa, vs, z1, z2, z3⟩ := hv
    have := hs2.set (show IsV X.K (L2.upd H a (.frz od w)) (.tup (ds.set j r)) v from ⟨pa, vs, z1, z2, isL_repl iv z3 e1⟩) i
    have e4 : σv.set i (some v) = σv := by
      apply List.ext_getElem?
      intro j
      by_cases hj : i = j
      · subst hj
        rw [ev, List.getElem?_set_self (List.getElem?_eq_some_iff.mp ev).1]
      · rw [List.getElem?_set_ne hj]
    rw [e4] at this
    exact this
  | fld i f =>
    obtain ⟨pa, c0, fs, a, o, r, e0, ep, e1, e2, e3, hz⟩ := hz
    obtain ⟨w, hw, mu, q⟩ := mut_of_rep hr e2 e3
    refine ⟨a, w, hw, mu, fun od => ?_⟩
    obtain ⟨iv, r2, ex⟩ := q od
    have npa : pa ≠ a := by
      rintro rfl
      rw [ep] at e2
      cases e2
      cases e3
    have ep2 : del m a pa = some (.ins c0 fs) := by
      unfold del
      rw [if_neg npa]
      exact ep
    obtain ⟨dx, ws, z1, z2⟩ := r2 pa _ ep2
    have r3 : Rep cl X.K (L2.upd H a (.frz od w)) (upd (del m a) pa (.ins c0 (putF f r fs))) := fun b u qb => by
      unfold upd at qb
      split at qb
      · rename_i eb
        cases qb
        rw [eb]
        exact ⟨dx, ws, z1, isFs_repl iv z2 e1⟩
      · exact r2 b u qb
    have ex3 : Ext (L2.upd H a (.frz od w)) (del m a) (L2.upd H a (.frz od w)) (upd (del m a) pa (.ins c0 (putF f r fs))) := ⟨fun _ _ h _ => h, fun b n _ => by
      rw [upd_ne]
      · exact n
      · rintro rfl
        rw [ep2] at n
        cases n⟩
    exact ⟨Z, σ, _, hs.kp (hr.kp ex), r3, hz, p.step (ex.trans ex3)⟩
/-- a statement without a body -/
def flatS : Sm → Bool
  | .ite .. => false
  | .ret .. => false
  | .retL .. => false
  | .iteL .. => false
  | .whl .. => false
  | .for_ .. => false
  | .tri .. => false
  | _ => true
theorem erS_flat {x y : Sm} (h : erS x = y) (f : flatS y = true) : x = y := by
  cases x <;> simp only [erS] at h <;> first | exact h | (subst h; cases f)
theorem erS_ite {x : Sm} {t : Ex} {a b : Sms} (h : erS x = .ite t a b) : ∃ a' b', (x = .ite t a' b' ∨ ∃ i, x = .iteL i t a' b') ∧ er a' = a ∧ er b' = b := by
  cases x <;> simp only [erS, reduceCtorEq, Sm.ite.injEq] at h
  · obtain ⟨rfl, rfl, rfl⟩ := h
    exact ⟨_, _, .inl rfl, rfl, rfl⟩
  · obtain ⟨rfl, rfl, rfl⟩ := h
    exact ⟨_, _, .inr ⟨_, rfl⟩, rfl, rfl⟩
theorem erS_ret {x : Sm} {e : Ex} (h : erS x = .ret e) : x = .ret e ∨ ∃ i, x = .retL i e := by
  cases x <;> simp only [erS, reduceCtorEq, Sm.ret.injEq] at h
  · subst h
    exact .inl rfl
  · subst h
    exact .inr ⟨_, rfl⟩
theorem pe_lkD {i : Nat} {e : Expr} {te : Rd D} (h : PEl cl W X e te) : PEl cl W X e fun _ σ m k => rLk i σ m fun σ1 => te (fun _ _ _ => False) σ1 noMem fun d _ => D.noRef d = true ∧ k d m := by
  refine pe_imp (L2.pe_lock h) fun σv H Q q => ?_
  obtain ⟨σ, m, k, E, hs, hr, ⟨a, o, r, e1, e2, e3, hz⟩, p⟩ := q
  obtain ⟨w, hw, mu, q⟩ := mut_of_rep hr e2 e3
  refine ⟨a, w, hw, mu, fun od => ?_⟩
  obtain ⟨iv, _, ex⟩ := q od
  refine ⟨sset σ i r, noMem, _, _, lk_st (o := o) hs hr e1 iv ex, (fun _ _ h => nomatch h), hz, ⟨fun d m' v H' z hd r' ex' => ?_, ⟨fun _ _ _ _ _ _ _ z => z.elim⟩⟩⟩
  obtain ⟨g1, g2, g3, g4⟩ := lk_ok hr e2 hw ex'
  exact ⟨g1, p.ok d m v _ z.2 (isV_tups g4 z.1 hd) g2 g3⟩
theorem pt_lkD {i : Nat} {e : Expr} {te : Rd Bool} (h : PTl cl W X e te) : PTl cl W X e fun _ σ m k => rLk i σ m fun σ1 => te (fun _ _ _ => False) σ1 noMem fun d _ => k d m := by
  refine pt_imp (pt_lock h) fun σv H Q q => ?_
  obtain ⟨σ, m, k, E, hs, hr, ⟨a, o, r, e1, e2, e3, hz⟩, p⟩ := q
  obtain ⟨w, hw, mu, q⟩ := mut_of_rep hr e2 e3
  refine ⟨a, w, hw, mu, fun od => ?_⟩
  obtain ⟨iv, _, ex⟩ := q od
  refine ⟨sset σ i r, noMem, _, _, lk_st (o := o) hs hr e1 iv ex, (fun _ _ h => nomatch h), hz, ⟨fun d m' v H' z hd r' ex' => ?_, ⟨fun _ _ _ _ _ _ _ z => z.elim⟩⟩⟩
  obtain ⟨g1, g2, g3, g4⟩ := lk_ok hr e2 hw ex'
  exact ⟨g1, p.ok d m v _ z hd g2 g3⟩
theorem erS_whl {x : Sm} {t : Ex} {a : Sms} (h : erS x = .whl t a) : ∃ a', x = .whl t a' ∧ er a' = a := by
  cases x <;> simp only [erS, reduceCtorEq, Sm.whl.injEq] at h
  obtain ⟨rfl, rfl⟩ := h
  exact ⟨_, rfl, rfl⟩
theorem erS_for {x : Sm} {t : Tg} {s : Src} {a : Sms} (h : erS x = .for_ t s a) : ∃ a', x = .for_ t s a' ∧ er a' = a := by
  cases x <;> simp only [erS, reduceCtorEq, Sm.for_.injEq] at h
  obtain ⟨rfl, rfl, rfl⟩ := h
  exact ⟨_, rfl, rfl⟩
theorem erS_tri {x : Sm} {a : Sms} {h : Hds} (e : erS x = .tri a h) : ∃ a', x = .tri a' h ∧ er a' = a := by
  cases x <;> simp only [erS, reduceCtorEq, Sm.tri.injEq] at e
  obtain ⟨rfl, rfl⟩ := e
  exact ⟨_, rfl, rfl⟩
theorem Good.tr {Γ : En} (G : Good cl c Γ k W sc X) : Good cl c Γ.tr k W sc X := ⟨G.hN, G.nd, G.hsc, G.calm, G.tk, G.room, G.un, G.hfree, G.hown, G.exa, G.exn, G.own, G.glb, G.free, G.cls, G.mth, G.fld, G.k2, G.exr⟩
theorem Good.at {Γ : En} (G : Good cl c Γ k W sc X) (i : Nat) : Good cl c (Γ.at i) k W sc X := by
  unfold En.at
  split
  · exact G.tr
  · exact G
theorem Good.atF {Γ : En} (G : Good cl c Γ k W sc X) (f : List Nat) : Good cl c (Γ.atF f) k W sc X := by
  unfold En.atF
  split
  · exact G.tr
  · exact G
theorem Good.ax {Γ : En} (G : Good cl c Γ k W sc X) : Good cl c Γ.ax k W sc X := by
  unfold En.ax
  split
  · exact G.tr
  · exact G
theorem er_gh {g : Gst} {r : Sms} : er (.c (.gh g) r) = er r := by rw [er]
theorem er_c {s : Sm} {r : Sms} (h : ∀ g, s ≠ .gh g) : er (.c s r) = .c (erS s) (er r) := by
  cases s <;> first | (rw [er] <;> (intro g e; exact h g e)) | exact absurd rfl (h _) | rfl
theorem sndS_b (S : ∀ c, SndS cl c Γ k n) (G : GoodS cl c Γ k W sc X) : ∀ {x : Sms} {st : List Stmt}, cSs c (n + 1) sc st = some (er x) → PSsl cl W X st (rSs Γ x)
  | .n, st, h => by
    rw [er] at h
    cases st with
    | nil => exact pss_nilD
    | cons s r =>
      simp only [cSs] at h
      obtain ⟨a, ha, h⟩ := Option.bind_eq_some_iff.mp h
      obtain ⟨b, hb, h⟩ := Option.map_eq_some_iff.mp h
      cases h
  | .c s0 r0, st, h => by
    by_cases hg : ∃ g, s0 = .gh g
    · obtain ⟨g, rfl⟩ := hg
      rw [er_gh] at h
      exact pss_ghD (sndS_b S G h)
    · rw [er_c fun g e => hg ⟨g, e⟩] at h
      cases st with
      | nil => cases h
      | cons s r =>
        simp only [cSs] at h
        obtain ⟨a, ha, h⟩ := Option.bind_eq_some_iff.mp h
        obtain ⟨b, hb, h⟩ := Option.map_eq_some_iff.mp h
        cases h
        exact pss_consD (t := rS Γ s0) (u := rSs Γ r0) ((S c).s G ha) ((S c).b G hb)
theorem ps_triD (G : GoodS cl c Γ k W sc X) {a : List Stmt} {a' : Sms} {h₀ : ExceptHandler} {hds : List ExceptHandler} {hd : Hds} {pos : Pos}
    (hb : ∀ (W2 : WX) (pn : List (Addr × Obj)) (xe : Value → Shared → Prop), L2.Takes (X.tr pn xe) W2 → PassesOwn (model X.prog X.w) X.A X.env xe → PSsl cl W2 (X.tr pn xe) a (rSs Γ a')) (hh : HdsD cl Γ W X (h₀ :: hds) hd) : PSl cl W X (.Try a (h₀ :: hds) [] [] pos) (rS Γ (.tri a' hd)) := by
  obtain ⟨l, H, wf⟩ := hh
  refine ps_imp (ps_tryF (tb := fun W2 => LSt cl X.K W2 (rSs Γ a')) (by rw [G.hN]; exact G.nd) G.hex G.hstk G.hfr G.tk hb H) fun D σv Hh q => ?_
  obtain ⟨Z, σ, m, hs, hr, ht, p⟩ := q
  exact ⟨_, σ, m, hs, hr, ht, ⟨p.nx, p.rt, p.bk, p.ct, ⟨fun σ' σv' e m' cls dd H' z s ix r ee => wf p z s ix r ee⟩⟩⟩
theorem sndS_s (S : ∀ c, SndS cl c Γ k n) (G : GoodS cl c Γ k W sc X) {st : Stmt} {x : Sm} (h : cS c (n + 1) sc st = some (erS x)) : PSl cl W X st (rS Γ x) := by
  generalize hx : erS x = y at h
  have flat : flatS y = true → PSl cl W X st (rS Γ y) → PSl cl W X st (rS Γ x) := fun f p => by rw [erS_flat hx f]; exact p
  simp only [cS] at h
  split at h
  · rename_i x px elt tg it ifs scope p pos
    split at h
    · cases h
    rename_i nh
    have cool : c.hot = false := by simpa using nh
    split at h
    · rename_i hh
      rw [Bool.and_eq_true, Bool.and_eq_true] at hh
      obtain ⟨⟨h1, h2⟩, h3⟩ := hh
      obtain ⟨i, hi, h⟩ := Option.bind_eq_some_iff.mp h
      obtain ⟨e, he, h⟩ := Option.map_eq_some_iff.mp h
      subst h
      simp only [cE] at he
      rw [if_neg (by rw [cool]; decide)] at he
      obtain ⟨own, ho, h⟩ := Option.bind_eq_some_iff.mp he
      split at h
      · rename_i hb
        obtain ⟨t, ht, h⟩ := Option.bind_eq_some_iff.mp h
        split at h
        · rename_i hv
          obtain ⟨s, hs, h⟩ := Option.bind_eq_some_iff.mp h
          obtain ⟨ki, hk, h⟩ := Option.bind_eq_some_iff.mp h
          obtain ⟨e2, he2, h⟩ := Option.map_eq_some_iff.mp h
          subst h
          refine flat rfl ?_
          exact ps_setLcD (Γ := Γ.at i) ⟨G.toGood.at i, G.fn, G.kind, G.po, G.hex, G.hstk, G.hfr⟩ cool h1 hi h2 (by simpa using h3) hb ht hv (src_plain hs) ((snd n).s (G.toGood.at i) hs) (fun Y GY => (snd n).i GY hk) (fun Y GY => (snd n).e GY he2)
        · cases h
      · cases h
    · rename_i hno
      split at h
      · rename_i hh
        obtain ⟨i, hi, h⟩ := Option.bind_eq_some_iff.mp h
        obtain ⟨e, he, h⟩ := Option.map_eq_some_iff.mp h
        subst h
        refine flat rfl ?_
        exact ps_setNo G hh hi (sw_no (by rw [G.hsc]; exact Bool.eq_false_iff.mpr hno)) ((snd n).e (G.toGood.at i) he)
      · cases h
  · split at h
    · rename_i hh
      rw [Bool.and_eq_true] at hh
      obtain ⟨i, hi, h⟩ := Option.bind_eq_some_iff.mp h
      obtain ⟨e, he, h⟩ := Option.map_eq_some_iff.mp h
      subst h
      refine flat rfl ?_
      exact ps_setD G hh.1 hi hh.2 ((snd n).e (G.toGood.at i) he)
    · cases h
  · obtain ⟨o, ho, h⟩ := Option.bind_eq_some_iff.mp h
    obtain ⟨e, he, h⟩ := Option.map_eq_some_iff.mp h
    subst h
    refine flat rfl ?_
    exact ps_setFD G ((snd n).e G.toGood ho) ((snd n).e (G.toGood.atF _) he)
  · obtain ⟨o, ho, h⟩ := Option.bind_eq_some_iff.mp h
    obtain ⟨lo, hlo, h⟩ := Option.bind_eq_some_iff.mp h
    obtain ⟨hi, hhi, h⟩ := Option.bind_eq_some_iff.mp h
    obtain ⟨e, he, h⟩ := Option.map_eq_some_iff.mp h
    subst h
    refine flat rfl ?_
    exact ps_setSlD G ((snd n).e G.toGood ho) ((snd n).p G.toGood hlo) ((snd n).p G.toGood hhi) ((snd n).e G.toGood.tr he)
  · split at h
    · rename_i hh
      obtain ⟨o, ho, h⟩ := Option.bind_eq_some_iff.mp h
      obtain ⟨i, hi, h⟩ := Option.bind_eq_some_iff.mp h
      obtain ⟨e, he, h⟩ := Option.map_eq_some_iff.mp h
      subst h
      refine flat rfl ?_
      exact ps_setIxD G hh ((snd n).e G.toGood ho) ((snd n).e G.toGood hi) ((snd n).e G.toGood.ax he)
    · cases h
  · split at h
    · cases h
    rename_i nh
    have cool : c.hot = false := by simpa using nh
    split at h
    · rename_i hh
      rw [Bool.and_eq_true, Bool.and_eq_true] at hh
      obtain ⟨o, ho, h⟩ := Option.bind_eq_some_iff.mp h
      obtain ⟨i, hi, h⟩ := Option.bind_eq_some_iff.mp h
      obtain ⟨o', ho', h⟩ := Option.bind_eq_some_iff.mp h
      obtain ⟨i', hi', h⟩ := Option.bind_eq_some_iff.mp h
      obtain ⟨es, he, h⟩ := Option.bind_eq_some_iff.mp h
      split at h
      · cases h
        refine flat rfl ?_
        exact ps_swpD G cool hh.1 hh.2.1 ((snd n).e G.toGood ho) ((snd n).e G.toGood hi) ((snd n).e G.toGood ho') ((snd n).e G.toGood hi') ((snd n).a G.toGood he).1
      · cases h
    · cases h
  · split at h
    · cases h
    rename_i nh
    have cool : c.hot = false := by simpa using nh
    split at h
    · rename_i hh
      simp only [Bool.and_eq_true, Bool.not_eq_true'] at hh
      obtain ⟨h1, h2, h3, h4, h5, h6⟩ := hh
      obtain ⟨i, hi, h⟩ := Option.bind_eq_some_iff.mp h
      obtain ⟨j, hj, h⟩ := Option.bind_eq_some_iff.mp h
      obtain ⟨es, he, h⟩ := Option.map_eq_some_iff.mp h
      subst h
      refine flat rfl ?_
      exact ps_par2D G cool h1 h2 h3 h4 h5 h6 hi hj ((snd n).a G.toGood he)
    · split at h
      · rename_i hh
        obtain ⟨t, ht, h⟩ := Option.bind_eq_some_iff.mp h
        obtain ⟨e, he, h⟩ := Option.map_eq_some_iff.mp h
        subst h
        refine flat rfl ?_
        exact ps_par2C G cool hh ht ((snd n).e G.toGood he)
      · cases h
  · split at h
    · cases h
    rename_i nh
    have cool : c.hot = false := by simpa using nh
    split at h
    · rename_i hh
      simp only [Bool.and_eq_true, Bool.not_eq_true'] at hh
      obtain ⟨h1, h2, h2z, h3, h3z, h4, h4y, h4z, h5, h6⟩ := hh
      obtain ⟨i, hi, h⟩ := Option.bind_eq_some_iff.mp h
      obtain ⟨j, hj, h⟩ := Option.bind_eq_some_iff.mp h
      obtain ⟨l, hl, h⟩ := Option.bind_eq_some_iff.mp h
      obtain ⟨es, he, h⟩ := Option.map_eq_some_iff.mp h
      subst h
      refine flat rfl ?_
      exact ps_par3D G cool h1 h2 h2z h3 h3z h4 h4y h4z h5 h6 hi hj hl ((snd n).a G.toGood he)
    · cases h
  · split at h
    · cases h
    rename_i nh
    have cool : c.hot = false := by simpa using nh
    split at h
    · rename_i hh
      rw [Bool.and_eq_true] at hh
      obtain ⟨t, ht, h⟩ := Option.bind_eq_some_iff.mp h
      obtain ⟨e, he, h⟩ := Option.map_eq_some_iff.mp h
      subst h
      refine flat rfl ?_
      exact ps_setTD G cool hh.1 hh.2 ht ((snd n).e G.toGood he)
    · cases h
  · obtain ⟨o, ho, h⟩ := Option.bind_eq_some_iff.mp h
    obtain ⟨e, he, h⟩ := Option.map_eq_some_iff.mp h
    subst h
    refine flat rfl ?_
    exact ps_augFD G ((snd n).e G.toGood ho) ((snd n).e G.toGood he)
  · split at h
    · rename_i hh
      obtain ⟨e, he, h⟩ := Option.map_eq_some_iff.mp h
      subst h
      refine flat rfl ?_
      exact ps_exprD hh ((snd n).e G.toGood.ax he)
    · cases h
  · obtain ⟨e, he, h⟩ := Option.map_eq_some_iff.mp h
    subst h
    rcases erS_ret hx with rfl | ⟨i, rfl⟩
    · exact ps_retD ((snd n).e G.toGood he)
    · exact ps_imp (ps_retD (b := false) (pe_lkD (i := i) ((snd n).e G.toGood he))) fun D σ H q => q.imp fun Z σ m ⟨a, o, r, e1, e2, e3, hz⟩ => ⟨a, o, r, e1, e2, e3, hz⟩
  · cases h
    refine flat rfl ?_
    exact ps_retND
  · obtain ⟨t, ht, h⟩ := Option.bind_eq_some_iff.mp h
    obtain ⟨a, ha, h⟩ := Option.bind_eq_some_iff.mp h
    obtain ⟨b, hb, h⟩ := Option.map_eq_some_iff.mp h
    subst h
    obtain ⟨a', b', rfl | ⟨i, rfl⟩, rfl, rfl⟩ := erS_ite hx
    · exact ps_iteD ((snd n).t G.toGood ht) ((S c).b G ha) ((S c).b G hb)
    · exact ps_iteD (pt_lkD (i := i) ((snd n).t G.toGood ht)) ((S c).b G ha) ((S c).b G hb)
  · obtain ⟨t, ht, h⟩ := Option.bind_eq_some_iff.mp h
    obtain ⟨a, ha, h⟩ := Option.map_eq_some_iff.mp h
    subst h
    obtain ⟨a', rfl, rfl⟩ := erS_whl hx
    exact ps_whlD G ((snd n).t G.toGood ht) ((S c).b G ha)
  · split at h
    · cases h
    rename_i nh
    have cool : c.hot = false := by simpa using nh
    obtain ⟨t, ht, h⟩ := Option.bind_eq_some_iff.mp h
    obtain ⟨s, hs, h⟩ := Option.bind_eq_some_iff.mp h
    obtain ⟨a, ha, h⟩ := Option.map_eq_some_iff.mp h
    subst h
    obtain ⟨a', rfl, rfl⟩ := erS_for hx
    exact ps_forD G cool (src_plain hs) ((snd n).s G.toGood hs) ht ((S c).b G ha)
  · cases h
    refine flat rfl ?_
    exact ps_passD
  · cases h
    refine flat rfl ?_
    exact ps_brkD
  · cases h
    refine flat rfl ?_
    exact ps_contD
  · split at h
    · rename_i j hj
      unfold rsOf at hj
      split at hj
      · rename_i hh
        obtain ⟨j', h1, h2⟩ := Option.bind_eq_some_iff.mp hj
        split at h2
        · rename_i hl
          cases h2
          obtain ⟨es, he, h⟩ := Option.map_eq_some_iff.mp h
          subst h
          refine flat rfl ?_
          obtain ⟨a1, a2⟩ := (snd n).a G.toGood he
          rename_i args _ _ _
          match args, a1, a2, hl, he with
          | [], a1, a2, hl, he =>
            have ex : excF j = [] := List.length_eq_zero_iff.mp hl
            have ey : es = .n := by
              cases n with
              | zero => cases he
              | succ n => cases he; rfl
            subst ey
            refine ps_imp (ps_raise0D G hh.2 hh.1 h1 ex) fun D σ H q => q.imp fun Z σ m z => ?_
            have z : Z.ex σ ⟨j, (excF j).zip []⟩ m := z
            rw [List.zip_nil_right] at z
            exact z
          | [e], a1, a2, hl, he =>
            obtain ⟨f, ex⟩ : ∃ f, excF j = [f] := by
              match q : excF j, hl with
              | [f], _ => exact ⟨f, rfl⟩
            exact ps_raise1D G hh.2 hh.1 h1 ex a1 (by simpa using a2)
          | e1 :: e2 :: r, a1, a2, hl, he =>
            have : (excF j).length ≤ 1 := by
              unfold excF
              (repeat' split) <;> decide
            rw [hl] at this
            simp at this
        · cases h2
      · cases hj
    · cases h
      refine flat rfl ?_
      exact ps_badD
  · cases h
    refine flat rfl ?_
    exact ps_badD
  · split at h
    · cases h
    rename_i nh
    have cool : c.hot = false := by simpa using nh
    obtain ⟨a, ha, h⟩ := Option.bind_eq_some_iff.mp h
    obtain ⟨hd, hhd, h⟩ := Option.map_eq_some_iff.mp h
    subst h
    obtain ⟨a', rfl, rfl⟩ := erS_tri hx
    exact ps_triD G (fun W pn xe tk po => (S c).b (G.tri tk po) ha) ((S c).d G hhd)
  · cases h
theorem sndS_d (S : ∀ c, SndS cl c Γ k n) (G : GoodS cl c Γ k W sc X) {hds : List ExceptHandler} {xh : Hds} (h : cHd c (n + 1) sc hds = some xh) : HdsD cl Γ W X hds xh := by
  have suite : ∀ {xs : List Str} {bs : List Stmt} {s : Sms}, cSs (c.suite xs) n sc bs = some s → noGh s = true → ∀ a pn, PSs (suiteF X a pn) bs (LSt cl X.K (fun _ _ _ _ => False) (rSs Γ s)) := fun {xs bs s} h hn a pn => (S (c.suite xs)).b (G.suite xs a pn) (by rw [noGh_er hn]; exact h)
  -- one clause ahead of others
  have one : ∀ {D : L2.Ends} {Z : Ends} {H : Hp} {m : Mem}, PostS cl X.K W H m Z D → ∀ {o : Option Nat} {j : Nat} {s : Sms} {r : Hds} {l : List HdT} {e : Exc} {σ' : St} {σv' : L2.St} {m' : Mem} {cls : Value} {dd : Option Addr} {H' : Hp}, Γ.xc j = true → (rHd Γ r Z e σ' m' → wF X.K W D l cls dd σv' H') → rHd Γ (.c j o s r) Z e σ' m' → StR X.K H' σv' σ' → IsX cl X.K H' e cls dd → Rep cl X.K H' m' → Ext H m H' m' →
      wF X.K W D ((.ref (cl j), (o, LSt cl X.K (fun _ _ _ _ => False) (rSs Γ s))) :: l) cls dd σv' H' := by
    intro D Z H m p o j s r l e σ' σv' m' cls dd H' hj rest hz hs ix hr ex
    obtain ⟨hc, yes, no⟩ := hz
    have ecl := G.exa.ecl _ hc
    refine ⟨excSub e.cls j, by rw [ix.1]; exact G.exa.exm _ _ hc hj, fun y a oe ha h1 h2 h3 => ?_, fun y => rest (no y)⟩
    have y := yes y
    have kp := kp_new (o := bareO a oe) ha
    have hr2 := hr.hid (o := bareO a oe) ha
    have ex2 := ex.trans (Ext.hid (m := m') (o := bareO a oe) ha)
    have p2 := p.step ex2
    cases o with
    | none => exact ⟨_, σ', m', hs.kp kp, hr2, y, ⟨p2.nx, p2.rt, p2.bk, p2.ct, ⟨fun _ _ _ _ _ _ _ z => z.elim⟩⟩⟩
    | some i =>
      exact ⟨_, _, m', (hs.kp kp).set (exc_val ix ecl ha h1 h2 h3) i, hr2, y, ⟨fun σ1 m1 σv1 H1 z s1 r1 e1 => p2.nx _ _ _ _ z (s1.wipe1 i) r1 e1, p2.rt, fun σ1 m1 σv1 H1 z s1 r1 e1 => p2.bk _ _ _ _ z (s1.wipe1 i) r1 e1, fun σ1 m1 σv1 H1 z s1 r1 e1 => p2.ct _ _ _ _ z (s1.wipe1 i) r1 e1, ⟨fun _ _ _ _ _ _ _ z => z.elim⟩⟩⟩
  have nm : ∀ {x : Str} {j : Nat}, exOf c sc x = some j → j ≠ 9 → L2.Names X x (.ref (cl j)) ∧ Γ.xc j = true := fun {x j} h hj => by
    unfold exOf at h
    split at h
    · rename_i hg
      obtain ⟨g1, g2, g3⟩ := isGl_ok G.toGood hg
      split at h
      · split at h
        · cases h
          exact absurd rfl hj
        · cases h
      · obtain ⟨h1, h2, h3⟩ := G.exn x j h
        exact ⟨⟨g1, g2, .inl h2⟩, h1⟩
    · cases h
  cases hds with
  | nil =>
    cases h
    exact ⟨[], .nil, fun p e σ' σv' m' cls dd H' z s ix r ee => p.ex.ex _ _ _ _ _ _ _ z s ix r ee⟩
  | cons h0 r0 =>
    obtain ⟨ty, y, body, q⟩ := h0
    cases ty with
    | none => cases h
    | some e0 =>
      cases e0 <;> first | (cases h; done) | skip
      rename_i x p
      cases body with
      | nil => cases h
      | cons b bs =>
        have h : ((exOf c sc x).bind fun j => if j = 9 then none else match y with
          | none => (cSs (c.suite []) n sc (b :: bs)).bind fun s => if noGh s = true then (cHd c n sc r0).map fun r => .c j none s r else none
          | some y => if isLoc sc y = true then (slotOf c.N y).bind fun i => (cSs (c.suite [y]) n sc (b :: bs)).bind fun s => if noGh s = true then (cHd c n sc r0).map fun r => .c j (some i) s r else none else none) = some xh := h
        obtain ⟨j, hj, h⟩ := Option.bind_eq_some_iff.mp h
        split at h
        · cases h
        rename_i j9
        obtain ⟨nx, xj⟩ := nm hj j9
        cases y with
        | none =>
          obtain ⟨s, hs, h⟩ := Option.bind_eq_some_iff.mp h
          split at h
          · rename_i ng
            obtain ⟨r, hr, h⟩ := Option.map_eq_some_iff.mp h
            subst h
            obtain ⟨l, H1, wf⟩ := (S c).d G hr
            exact ⟨_, .bare nx (suite hs ng) H1, fun p e σ' σv' m' cls dd H' z s1 ix hr ex => one p xj (fun z => wf p z s1 ix hr ex) z s1 ix hr ex⟩
          · cases h
        | some y =>
          dsimp only at h
          split at h
          · rename_i ly
            obtain ⟨i, hi, h⟩ := Option.bind_eq_some_iff.mp h
            obtain ⟨s, hs, h⟩ := Option.bind_eq_some_iff.mp h
            split at h
            · rename_i ng
              obtain ⟨r, hr, h⟩ := Option.map_eq_some_iff.mp h
              subst h
              obtain ⟨l, H1, wf⟩ := (S c).d G hr
              exact ⟨_, .named (by rw [G.hN]; exact slotOf_get hi) (G.lk_ ly) nx (suite hs ng) H1, fun p e σ' σv' m' cls dd H' z s1 ix hr ex => one p xj (fun z => wf p z s1 ix hr ex) z s1 ix hr ex⟩
            · cases h
          · cases h
theorem sndS : ∀ n c, SndS cl c Γ k n
  | 0, c => by constructor <;> (intros; rename_i h; cases h)
  | n + 1, c => ⟨fun G _ _ h => sndS_d (sndS n) G h, fun G _ _ h => sndS_s (sndS n) G h, fun G _ _ h => sndS_b (sndS n) G h⟩
end
end DL

namespace DL
open PySem PySem.Spec PyProof.Rows
open L2 (V Hp HO SqL SqT TE TT TA TS TG TGs Cx Inv PE PT PW PA PS PSs PG PGs RelV Vals WX FunD FnScope FnOk)
theorem isL_start {K : PySem.W.Frag} {H : Hp} : ∀ {ds : List D} {vs : List V}, IsL K H ds vs → ∀ (i : Nat) (d : D) (n : Nat), sget (ds.map some ++ List.replicate n none) i = some d → ∃ v, (vs.map some ++ List.replicate n (none : Option V))[i]? = some (some v) ∧ IsV K H d v
  | [], vs, h, i, d, n, q => by
    exfalso
    rw [List.map_nil, List.nil_append] at q
    induction n generalizing i with
    | zero => cases q
    | succ n ih =>
      rw [List.replicate_succ] at q
      cases i with
      | zero => cases q
      | succ i => exact ih i q
  | x :: ds, vs, ⟨v, r, e, h, t⟩, 0, d, n, q => by
    subst e
    cases q
    exact ⟨v, rfl, h⟩
  | x :: ds, vs, ⟨v, r, e, h, t⟩, i + 1, d, n, q => by
    subst e
    obtain ⟨w, a, b⟩ := isL_start t i d n q
    exact ⟨w, a, b⟩
theorem stR_start {K : PySem.W.Frag} {H : Hp} {ds : List D} {vs : List V} {N : List Str} (h : IsL K H ds vs) : StR K H (L2.start N vs) (startD N.length ds) := by
  unfold L2.start startD
  have e := h.length
  rw [e]
  refine ⟨by simp [e], fun i d q => isL_start h i d _ q⟩
/-- what a def's surroundings give -/
structure Env0 (cl : Nat → Addr) (P : Program) (w : World) (K : PySem.W.Frag) (mg : Str → Option Value) (base : Heap) (c : Ctx) (Γ : En) (k : Nat) : Prop where
  own : ∀ x f n, c.own.lookup x = some (f, n) → ∃ j a fd ps, j ≤ k ∧ L2.Fi.FnD P w K mg base (L2.CX P w) j a fd ps (Lsp cl K n (Γ.fn f)) ∧ mg x = some (.ref a) ∧ PySem.W.keepIn K (.ref a) = true ∧ L2.Binds K fd ps []
  glb : ∀ x g, c.glb.lookup x = some g → ∃ u v, mg x = some u ∧ RelV v u ∧ ∀ H, IsV K H (Γ.gl g) v
  free : ∀ x, x ∈ c.free → mg x = none
  cls : ∀ x C n, c.cls.lookup x = some (C, n) → ∃ j f fd ps, j + 1 ≤ k ∧ L2.Mk K (cl C) f ∧ mg x = some (.ref (cl C)) ∧ L2.Fi.FnD P w K mg base (L2.CX P w) j f fd ps (Lsp cl K (n + 1) (Γ.ini C)) ∧ L2.Binds K fd ps []
  mth : ∀ r m C n, c.mth.lookup (r, m) = some (C, n) → ∃ j f fd ps, j ≤ k ∧ L2.Cls K (cl C) ∧ L2.Meth K (cl C) m f ∧ L2.Fi.FnD P w K mg base (L2.CX P w) j f fd ps (Lsp cl K (n + 1) (Γ.mt C m.cps.toList)) ∧ L2.Binds K fd ps []
  fld : ∀ C f, Γ.fk C f = true → L2.Cls K (cl C) ∧ L2.NoAttr K (cl C) (SX.S f)
  cool : c.hot = false
  exa : ExAll cl K Γ.xc
  exn : ∀ x k, c.exc.lookup x = some k → Γ.xc k = true ∧ mg x = some (.ref (cl k)) ∧ PySem.W.keepIn K (.ref (cl k)) = true
  exr : ∀ x j, c.exr.lookup x = some j → Rz cl P w K mg base k x j
  k2 : ∀ x, x ∈ c.k2 → Key2 K mg x
theorem fn_ok {cl : Nat → Addr} {P : Program} {w : World} {K : PySem.W.Frag} {mg : Str → Option Value} {base : Heap} {x qual : Str} {params : Arguments} {body : List Stmt} {scope : Scope} {f : Addr} {fd : FuncData} {c : Ctx} {Γ : En} {k n ar : Nat} {ps : List Str} {b : Sms} {sp : Sp}
    (F : FunD K x qual params body scope [] [] f fd) (S : FnScope c.N ps scope) (har : ps.length = ar) (hc : cSs c n scope body = some (er b)) (E0 : Env0 cl P w K mg base c Γ k) (hk : Keeps Γ c.N.length b sp) :
    L2.Fi.FnD P w K mg base (L2.CX P w) (k + 1) f fd ps (Lsp cl K ar sp) := by
  refine L2.Fi.fund_okD F S (fun vs H Q E h => ?_) fun cdv A outer s H vs Q E hr h => ?_
  · obtain ⟨ds, m, kk, X, hl, hv, _⟩ := h
    rw [hv.length, hl, har]
  · obtain ⟨ds, m, kk, X, hl, hv, hm, hsp, h1, h2⟩ := h
    refine ⟨LSt cl K (fun cls d _ H => E cls d H) (rSs Γ b), (sndS n c).b (k := k) (X := L2.cxOf (L2.CX P w) P w K mg base c.N qual scope f cdv A outer s H E) ?_ hc, ?_⟩
    · exact { hN := rfl, nd := S.nd, hsc := rfl, calm := fun _ => rfl, tk := L2.takes_of rfl rfl rfl rfl, room := fun _ => hr, un := Nat.lt_of_le_of_lt (Nat.add_le_add_right (Nat.le_add_right _ _) _) hr.room.un, hfree := (fun z => by rw [E0.cool] at z; cases z), hown := (fun z => by rw [E0.cool] at z; cases z), exa := E0.exa, exn := E0.exn, own := fun x f n h => ⟨E0.own x f n h⟩, glb := E0.glb, free := E0.free, cls := fun x C n h => ⟨E0.cls x C n h⟩, mth := fun r m C n h => ⟨E0.mth r m C n h⟩, fld := E0.fld, k2 := E0.k2, fn := fun _ => rfl, kind := S.kind, po := L2.passes_of rfl, hex := rfl, hstk := rfl, hfr := rfl, exr := E0.exr }
    · refine ⟨_, startD c.N.length ds, m, stR_start hv, hm, hk ds m kk X hsp, ⟨?_, ?_, fun _ _ _ _ z => z.elim, fun _ _ _ _ z => z.elim, ⟨?_⟩⟩⟩
      · rintro σ' m' σv' H' ⟨m2, sb, z⟩ hs hr' e
        exact h1 _ _ _ _ z rfl (hr'.sub sb) (e.sub sb)
      · rintro d m' v H' ⟨m2, sb, z⟩ hd hr' e
        exact h1 _ _ _ _ z hd (hr'.sub sb) (e.sub sb)
      · rintro σ' σv' x m' cls dd H' ⟨m2, sb, z⟩ hs hx hr' e
        exact h2 _ _ _ _ _ z hx (hr'.sub sb) (e.sub sb)
/-- the false promise is kept -/
theorem fn_bot {cl : Nat → Addr} {P : Program} {w : World} {K : PySem.W.Frag} {mg : Str → Option Value} {base : Heap} {f : Addr} {fd : FuncData} {k ar : Nat} {ps : List Str} {sp : Sp} (h : ∀ ds m k X, ¬ sp ds m k X) : L2.Fi.FnD P w K mg base (L2.CX P w) k f fd ps (Lsp cl K ar sp) := by
  refine ⟨fun vs H Q E z => ?_, fun A outer s H args us vs Q E hr he hb hv z => ?_⟩ <;>
  · obtain ⟨ds, m, kk, X, _, _, _, z, _⟩ := z
    exact (h _ _ _ _ z).elim
theorem binds_of {K : PySem.W.Frag} {x qual : Str} {params : Arguments} {body : List Stmt} {scope : Scope} {fd : FuncData} {f : Addr} {ps : List Str} (F : FunD K x qual params body scope [] [] f fd)
    (h : ∀ (kV doc pm : Value) (an : Option Addr) (cdv ct : Value) (us : List Value), us.length = ps.length → bindArgs (PySem.W.fnOf x qual params body scope .none kV doc pm an cdv ct) ⟨us, []⟩ = pure (ps.zip us)) : L2.Binds K fd ps [] := F.bindsN h
/-- a script, as a value -/
theorem script_v {K : PySem.W.Frag} {H : Hp} {a : Addr} {ns : List Int} (hS : SqL K H a (ns.map V.int)) (hO : L2.Only H) : Scr K H a (ns.map V.int) := by
  rcases hS with (h | ⟨o, h⟩) | h
  · rcases hO a with z | ⟨o, xs, z⟩ <;> (rw [h] at z; cases z)
  · exact .inl ⟨o, h⟩
  · exact .inr (.inr h)
end DL

namespace DL
open PySem PySem.Spec PyProof.Rows
open L2 (V Hp HO SqL SqT RelV Vals FunD FnScope FnOk)
/-- which fields a class may have -/
def fkT (tbl : List (Nat × Str)) (c : Nat) (f : List Nat) : Bool := tbl.any fun q => q.1 == c && q.2.cps.toList == f
section
variable (cl : Nat → Addr) (P : Program) (w : World) (K : PySem.W.Frag) (mg : Str → Option Value) (base : Heap)
/-- the def at f, of n parameters, keeps sp, j calls deep -/
def KnwF (f : Addr) (n : Nat) (sp : Sp) (j : Nat) : Prop := ∃ fd ps, L2.Fi.FnD P w K mg base (L2.CX P w) j f fd ps (Lsp cl K n sp) ∧ L2.Binds K fd ps []
/-- the module's name x is a def of n parameters that keeps sp, j calls deep -/
def Knw (x : Str) (n : Nat) (sp : Sp) (j : Nat) : Prop := ∃ a, KnwF cl P w K mg base a n sp j ∧ mg x = some (.ref a) ∧ PySem.W.keepIn K (.ref a) = true
/-- class C has the method m of n arguments -/
def KnwM (C : Nat) (m : Str) (n : Nat) (sp : Sp) (j : Nat) : Prop := ∃ f, L2.Cls K (cl C) ∧ L2.Meth K (cl C) m f ∧ KnwF cl P w K mg base f (n + 1) sp j
/-- the module's name x is the class C, made from n arguments -/
def KnwC (x : Str) (C : Nat) (n : Nat) (sp : Sp) (j : Nat) : Prop := ∃ f, L2.Mk K (cl C) f ∧ mg x = some (.ref (cl C)) ∧ KnwF cl P w K mg base f (n + 1) sp j
def ClsAll (Γ : En) (k : Nat) (l : List (Str × (Nat × Nat))) : Prop := ∀ x C n, l.lookup x = some (C, n) → ∃ j, j + 1 ≤ k ∧ KnwC cl P w K mg base x C n (Γ.ini C) j
def MthAll (Γ : En) (k : Nat) (l : List ((Str × Str) × (Nat × Nat))) : Prop := ∀ r m C n, l.lookup (r, m) = some (C, n) → ∃ j, j ≤ k ∧ KnwM cl P w K mg base C m n (Γ.mt C m.cps.toList) j
def FldAll (Γ : En) : Prop := ∀ C f, Γ.fk C f = true → L2.Cls K (cl C) ∧ L2.NoAttr K (cl C) (SX.S f)
def OwnAll (Γ : En) (k : Nat) (l : List (Str × (Nat × Nat))) : Prop := ∀ x f n, l.lookup x = some (f, n) → ∃ j, j ≤ k ∧ Knw cl P w K mg base x n (Γ.fn f) j
def GlbAll (Γ : En) (l : List (Str × Nat)) : Prop := ∀ x g, l.lookup x = some g → ∃ u v, mg x = some u ∧ RelV v u ∧ ∀ H, IsV K H (Γ.gl g) v
def FreeAll (l : List Str) : Prop := ∀ x, x ∈ l → mg x = none
end
section
variable {cl : Nat → Addr} {P : Program} {w : World} {K : PySem.W.Frag} {mg : Str → Option Value} {base : Heap} {Γ : En} {k : Nat}
theorem own_nil : OwnAll cl P w K mg base Γ k [] := fun _ _ _ h => by cases h
theorem own_cons {x : Str} {f n j : Nat} {sp : Sp} {l : List (Str × (Nat × Nat))} (h : Knw cl P w K mg base x n sp j) (e : Γ.fn f = sp) (hj : j ≤ k) (r : OwnAll cl P w K mg base Γ k l) : OwnAll cl P w K mg base Γ k ((x, (f, n)) :: l) := fun y g m q => by
  rw [List.lookup_cons] at q
  cases z : (y == x) with
  | true =>
    rw [z] at q
    cases q
    rw [beq_iff_eq.mp z, e]
    exact ⟨j, hj, h⟩
  | false =>
    rw [z] at q
    exact r y g m q
theorem glb_nil : GlbAll K mg Γ [] := fun _ _ h => by cases h
theorem glb_cons {x : Str} {g : Nat} {l : List (Str × Nat)} {u : Value} {v : V} (h : mg x = some u) (rv : RelV v u) (hv : ∀ H, IsV K H (Γ.gl g) v) (r : GlbAll K mg Γ l) : GlbAll K mg Γ ((x, g) :: l) := fun y g' q => by
  rw [List.lookup_cons] at q
  cases z : (y == x) with
  | true =>
    rw [z] at q
    cases q
    rw [beq_iff_eq.mp z]
    exact ⟨u, v, h, rv, hv⟩
  | false =>
    rw [z] at q
    exact r y g' q
theorem free_nil : FreeAll mg [] := fun _ h => by cases h
theorem free_cons {x : Str} {l : List Str} (h : mg x = none) (r : FreeAll mg l) : FreeAll mg (x :: l) := fun y q => by
  rcases List.mem_cons.mp q with e | e
  · rw [e, h]
  · exact r y e
theorem cls_nil : ClsAll cl P w K mg base Γ k [] := fun _ _ _ h => by cases h
theorem cls_cons {x : Str} {C n j : Nat} {sp : Sp} {l : List (Str × (Nat × Nat))} (h : KnwC cl P w K mg base x C n sp j) (e : Γ.ini C = sp) (hj : j + 1 ≤ k) (r : ClsAll cl P w K mg base Γ k l) : ClsAll cl P w K mg base Γ k ((x, (C, n)) :: l) := fun y D m q => by
  rw [List.lookup_cons] at q
  cases z : (y == x) with
  | true =>
    rw [z] at q
    cases q
    rw [beq_iff_eq.mp z, e]
    exact ⟨j, hj, h⟩
  | false =>
    rw [z] at q
    exact r y D m q
theorem mth_nil : MthAll cl P w K mg base Γ k [] := fun _ _ _ _ h => by cases h
theorem mth_cons {x m : Str} {C n j : Nat} {sp : Sp} {l : List ((Str × Str) × (Nat × Nat))} (h : KnwM cl P w K mg base C m n sp j) (e : Γ.mt C m.cps.toList = sp) (hj : j ≤ k) (r : MthAll cl P w K mg base Γ k l) : MthAll cl P w K mg base Γ k (((x, m), (C, n)) :: l) := fun y m' D n' q => by
  rw [List.lookup_cons] at q
  cases z : ((y, m') == (x, m)) with
  | true =>
    rw [z] at q
    cases q
    cases beq_iff_eq.mp z
    rw [e]
    exact ⟨j, hj, h⟩
  | false =>
    rw [z] at q
    exact r y m' D n' q
theorem fld_nil (h : ∀ C f, Γ.fk C f = false) : FldAll cl K Γ := fun C f e => by rw [h] at e; cases e
/-- the fields that are told of -/
def FldT (cl : Nat → Addr) (K : PySem.W.Frag) (tbl : List (Nat × Str)) : Prop := ∀ q ∈ tbl, L2.Cls K (cl q.1) ∧ L2.NoAttr K (cl q.1) q.2
theorem fldT_nil : FldT cl K [] := fun _ h => nomatch h
theorem fldT_cons {c : Nat} {f : Str} {tbl : List (Nat × Str)} (h1 : L2.Cls K (cl c)) (h2 : L2.NoAttr K (cl c) f) (r : FldT cl K tbl) : FldT cl K ((c, f) :: tbl) := fun q h => by
  rcases List.mem_cons.mp h with e | e
  · subst e
    exact ⟨h1, h2⟩
  · exact r q e
theorem fldT_all {tbl : List (Nat × Str)} (h : ∀ c f, Γ.fk c f = fkT tbl c f) (t : FldT cl K tbl) : FldAll cl K Γ := fun c f e => by
  rw [h] at e
  obtain ⟨q, h1, h2⟩ := List.any_eq_true.mp e
  rw [Bool.and_eq_true, beq_iff_eq, beq_iff_eq] at h2
  obtain ⟨h3, h4⟩ := h2
  subst h3 h4
  rw [SX.S_tl]
  exact t q h1
def ExnAll (cl : Nat → Addr) (K : PySem.W.Frag) (mg : Str → Option Value) (Γ : En) (l : List (Str × Nat)) : Prop := ∀ x k, l.lookup x = some k → Γ.xc k = true ∧ mg x = some (.ref (cl k)) ∧ PySem.W.keepIn K (.ref (cl k)) = true
def ExrAll (cl : Nat → Addr) (P : Program) (w : World) (K : PySem.W.Frag) (mg : Str → Option Value) (base : Heap) (k : Nat) (l : List (Str × Nat)) : Prop := ∀ x j, l.lookup x = some j → Rz cl P w K mg base k x j
theorem exn_nil : ExnAll cl K mg Γ [] := fun _ _ h => by cases h
theorem exn_cons {x : Str} {j : Nat} {l : List (Str × Nat)} (h1 : Γ.xc j = true) (h2 : mg x = some (.ref (cl j))) (h3 : PySem.W.keepIn K (.ref (cl j)) = true) (r : ExnAll cl K mg Γ l) : ExnAll cl K mg Γ ((x, j) :: l) := fun y g q => by
  rw [List.lookup_cons] at q
  cases z : (y == x) with
  | true =>
    rw [z] at q
    cases q
    rw [beq_iff_eq.mp z]
    exact ⟨h1, h2, h3⟩
  | false =>
    rw [z] at q
    exact r y g q
theorem exr_nil : ExrAll cl P w K mg base k [] := fun _ _ h => by cases h
theorem exr_cons {x : Str} {j : Nat} {l : List (Str × Nat)} (h : Rz cl P w K mg base k x j) (r : ExrAll cl P w K mg base k l) : ExrAll cl P w K mg base k ((x, j) :: l) := fun y g q => by
  rw [List.lookup_cons] at q
  cases z : (y == x) with
  | true =>
    rw [z] at q
    cases q
    rw [beq_iff_eq.mp z]
    exact h
  | false =>
    rw [z] at q
    exact r y g q
/-- what the head tells of a class that may be raised -/
def rzB (K : PySem.W.Frag) (j : Nat) : Bool := PySem.W.keepIn K (.ref (clA K j)) && (decide (PySem.W.subIn K (.ref (clA K j)) (.type "BaseException") = some true) && (decide (PySem.W.typeIn K (.ref (clA K j)) = some (.type "type")) && (match excF j with
  | [] => PySem.W.excIn K (clA K j) He.veBase "ValueError.__new__"
  | _ => oexB K (clA K j) && (decide (PySem.W.findIn K (.ref (clA K j)) "__init__" = some (some (.ref (He.ma K (clA K j) "__init__")))) && decide (PySem.W.typeIn K (.ref (He.ma K (clA K j) "__init__")) = some (.type "function"))))))
def baseIB (K : PySem.W.Frag) (B : Addr) : Bool := PySem.W.readsIn K B (.type "type") && (decide (PySem.W.specialIn K (.ref B) "__getattribute__" = some (some (.builtin "type.__getattribute__"))) && (match PySem.W.findCls K (.ref B) (.type "type") "__init__" with
  | some (.val (.builtin n)) => decide (n = "ValueError.__init__")
  | _ => false))
theorem baseIB_ok {B : Addr} (h : baseIB K B = true) : BaseI K B := by
  obtain ⟨h1, h⟩ := He.ba h
  obtain ⟨h2, h3⟩ := He.ba h
  refine ⟨h1, of_decide_eq_true h2, ?_⟩
  split at h3
  · rename_i n e
    rw [e, of_decide_eq_true h3]
  · cases h3
theorem rzB_kp {j : Nat} (h : rzB K j = true) : PySem.W.keepIn K (.ref (clA K j)) = true := (He.ba h).1
theorem rz_bare {x : Str} {j : Nat} (hm : mg x = some (.ref (clA K j))) (h : rzB K j = true) (e : excF j = []) : Rz (clA K) P w K mg base k x j := by
  obtain ⟨h1, h⟩ := He.ba h
  obtain ⟨h2, h⟩ := He.ba h
  obtain ⟨h3, h⟩ := He.ba h
  rw [e] at h
  exact ⟨hm, h1, of_decide_eq_true h2, of_decide_eq_true h3, fun _ => h, (fun f z => by rw [e] at z; cases z)⟩
theorem rz_ini {x : Str} {j : Nat} {f : List Nat} {fd : FuncData} {ps : List Str} (hm : mg x = some (.ref (clA K j))) (h : rzB K j = true) (e : excF j = [f]) (hk : 2 ≤ k) (no : PySem.W.findIn K (.ref (clA K j)) (SX.S f) = some none)
    (F : FnOk P w K mg base (L2.CX P w) 1 (He.ma K (clA K j) "__init__") fd ps (spIni K (SX.S f))) (hb : L2.Binds K fd ps []) : Rz (clA K) P w K mg base k x j := by
  obtain ⟨h1, h⟩ := He.ba h
  obtain ⟨h2, h⟩ := He.ba h
  obtain ⟨h3, h⟩ := He.ba h
  rw [e] at h
  obtain ⟨h4, h⟩ := He.ba h
  obtain ⟨h5, h6⟩ := He.ba h
  refine ⟨hm, h1, of_decide_eq_true h2, of_decide_eq_true h3, (fun z => by rw [e] at z; cases z), fun g z => ?_⟩
  rw [e] at z
  cases z
  exact ⟨hk, oexB_ok h4, no, _, fd, ps, F, of_decide_eq_true h5, of_decide_eq_true h6, hb⟩
def K2All (K : PySem.W.Frag) (mg : Str → Option Value) (l : List Str) : Prop := ∀ x, x ∈ l → Key2 K mg x
theorem k2_nil {K : PySem.W.Frag} {mg : Str → Option Value} : K2All K mg [] := fun _ h => nomatch h
theorem k2_cons {K : PySem.W.Frag} {mg : Str → Option Value} {x : Str} {l : List Str} (h : Key2 K mg x) (t : K2All K mg l) : K2All K mg (x :: l) := fun y hy => by
  rcases List.mem_cons.mp hy with rfl | z
  · exact h
  · exact t y z
theorem env0 {c : Ctx} (o : OwnAll cl P w K mg base Γ k c.own) (g : GlbAll K mg Γ c.glb) (f : FreeAll mg c.free) (a : ClsAll cl P w K mg base Γ k c.cls) (t : MthAll cl P w K mg base Γ k c.mth) (d : FldAll cl K Γ) (cool : c.hot = false) (xa : ExAll cl K Γ.xc) (xn : ExnAll cl K mg Γ c.exc) (xr : ExrAll cl P w K mg base k c.exr) (z2 : K2All K mg c.k2) : Env0 cl P w K mg base c Γ k where
  own := fun x f n h => by
    obtain ⟨j, hj, a, ⟨fd, ps, q1, q2⟩, q3, q4⟩ := o x f n h
    exact ⟨j, a, fd, ps, hj, q1, q3, q4, q2⟩
  glb := g
  free := f
  cls := fun x C n h => by
    obtain ⟨j, hj, f, q1, q2, fd, ps, q3, q4⟩ := a x C n h
    exact ⟨j, f, fd, ps, hj, q1, q2, q3, q4⟩
  mth := fun r m C n h => by
    obtain ⟨j, hj, f, q1, q2, fd, ps, q3, q4⟩ := t r m C n h
    exact ⟨j, f, fd, ps, hj, q1, q2, q3, q4⟩
  fld := d
  cool := cool
  exa := xa
  exn := xn
  exr := xr
  k2 := z2
theorem knwF {x : Str} {qual : Str} {params : Arguments} {body : List Stmt} {scope : Scope} {f : Addr} {fd : FuncData} {c : Ctx} {n ar : Nat} {ps : List Str} {b : Sms} {sp : Sp}
    (F : FunD K x qual params body scope [] [] f fd) (S : FnScope c.N ps scope) (har : ps.length = ar) (hc : cSs c n scope body = some (er b))
    (hb : ∀ (kV doc pm : Value) (an : Option Addr) (cdv ct : Value) (us : List Value), us.length = ps.length → bindArgs (PySem.W.fnOf x qual params body scope .none kV doc pm an cdv ct) ⟨us, []⟩ = pure (ps.zip us))
    (hk : Keeps Γ c.N.length b sp) (E0 : Env0 cl P w K mg base c Γ k) : KnwF cl P w K mg base f ar sp (k + 1) := ⟨fd, ps, fn_ok F S har hc E0 hk, F.bindsN hb⟩
theorem fnok_of {x : Str} {qual : Str} {params : Arguments} {body : List Stmt} {scope : Scope} {f : Addr} {fd : FuncData} {c : Ctx} {n ar : Nat} {ps : List Str} {b : Sms} {sp : Sp}
    (F : FunD K x qual params body scope [] [] f fd) (S : FnScope c.N ps scope) (har : ps.length = ar) (hc : cSs c n scope body = some (er b)) (hk : Keeps Γ c.N.length b sp) (E0 : Env0 cl P w K mg base c Γ k) : L2.Fi.FnD P w K mg base (L2.CX P w) (k + 1) f fd ps (Lsp cl K ar sp) := fn_ok F S har hc E0 hk
theorem knwF0 {x : Str} {qual : Str} {params : Arguments} {body : List Stmt} {scope : Scope} {f : Addr} {fd : FuncData} {ar : Nat} {ps : List Str} {sp : Sp}
    (F : FunD K x qual params body scope [] [] f fd) (hb : ∀ (kV doc pm : Value) (an : Option Addr) (cdv ct : Value) (us : List Value), us.length = ps.length → bindArgs (PySem.W.fnOf x qual params body scope .none kV doc pm an cdv ct) ⟨us, []⟩ = pure (ps.zip us)) (h : ∀ ds m k X, ¬ sp ds m k X) : KnwF cl P w K mg base f ar sp k := ⟨fd, ps, fn_bot h, F.bindsN hb⟩
theorem knw {x : Str} {f : Addr} {ar : Nat} {sp : Sp} (h : KnwF cl P w K mg base f ar sp k) (hm : mg x = some (.ref f)) (hk : PySem.W.keepIn K (.ref f) = true) : Knw cl P w K mg base x ar sp k := ⟨f, h, hm, hk⟩
theorem knwM {C : Nat} {m : Str} {f : Addr} {n : Nat} {sp : Sp} (h : KnwF cl P w K mg base f (n + 1) sp k) (hc : L2.Cls K (cl C)) (hm : L2.Meth K (cl C) m f) : KnwM cl P w K mg base C m n sp k := ⟨f, hc, hm, h⟩
theorem knwC {C : Nat} {x : Str} {f : Addr} {n : Nat} {sp : Sp} (h : KnwF cl P w K mg base f (n + 1) sp k) (hc : L2.Mk K (cl C) f) (hm : mg x = some (.ref (cl C))) : KnwC cl P w K mg base x C n sp k := ⟨f, hc, hm, h⟩
end
mutual
/-- u is the constant d, in what stands for good -/
def kV (K : PySem.W.Frag) : Nat → D → Value → Bool
  | _, .non, .none => true
  | _, .bl b, .bool c => b == c
  | _, .int i, .int j _ => decide (i = j)
  | _, .str s, .str y _ => decide (y = SX.S s)
  | n + 1, .ktup ds, .ref a => (match K.lookup a with
    | some ⟨.type c, _, .seq its _, _⟩ => decide (c = "tuple") && (decide (its.size ≤ sizeLine) && kVs K n ds its.toList)
    | _ => false)
  | _, _, _ => false
def kVs (K : PySem.W.Frag) : Nat → List D → List Value → Bool
  | _, [], [] => true
  | n, d :: ds, u :: us => kV K n d u && kVs K n ds us
  | _, _, _ => false
end
theorem and2 {a b : Bool} (h : (a && b) = true) : a = true ∧ b = true := by simpa using h
theorem kVs_of {K : PySem.W.Frag} {n : Nat} (ih : ∀ d u, kV K n d u = true → ∃ v, RelV v u ∧ ∀ H, IsV K H d v) : ∀ {ds : List D} {us : List Value}, kVs K n ds us = true → ∃ vs, Vals vs us ∧ ∀ H, IsL K H ds vs
  | [], [], _ => ⟨[], .nil, fun _ => rfl⟩
  | [], _ :: _, h => by simp [kVs] at h
  | _ :: _, [], h => by simp [kVs] at h
  | d :: ds, u :: us, h => by
    rw [kVs] at h
    obtain ⟨h1, h2⟩ := and2 h
    obtain ⟨v, r, i⟩ := ih d u h1
    obtain ⟨vs, rs, is⟩ := kVs_of ih h2
    exact ⟨v :: vs, .cons r rs, fun H => ⟨v, vs, rfl, i H, is H⟩⟩
theorem kV_ok {K : PySem.W.Frag} : ∀ (n : Nat) (d : D) (u : Value), kV K n d u = true → ∃ v, RelV v u ∧ ∀ H, IsV K H d v := by
  have flat : ∀ (n : Nat) (d : D) (u : Value), (∀ ds, d ≠ .ktup ds) → kV K n d u = true → ∃ v, RelV v u ∧ ∀ H, IsV K H d v := by
    intro n d u hd h
    cases d with
    | non => cases u <;> first | exact ⟨.non, rfl, fun _ => rfl⟩ | (simp [kV] at h)
    | bl b =>
      cases u <;> first | (simp [kV] at h; done) | skip
      rename_i c
      have e : b = c := by simpa [kV] using h
      exact ⟨.bl b, by rw [e]; rfl, fun _ => rfl⟩
    | int i =>
      cases u <;> first | (simp [kV] at h; done) | skip
      rename_i j t
      have e : i = j := by simpa [kV] using h
      exact ⟨.int i, ⟨t, by rw [e]⟩, fun _ => rfl⟩
    | str x =>
      cases u <;> first | (simp [kV] at h; done) | skip
      rename_i y t
      have e : y = SX.S x := by simpa [kV] using h
      exact ⟨.str (SX.S x), ⟨t, by rw [e]⟩, fun _ => rfl⟩
    | tup ds => simp [kV] at h
    | ref a => simp [kV] at h
    | rol ds => simp [kV] at h
    | rod t ks vs => simp [kV] at h
    | exc c fn vs => simp [kV] at h
    | scr ns => simp [kV] at h
    | ktup ds => exact absurd rfl (hd ds)
  intro n
  induction n with
  | zero =>
    intro d u h
    cases d with
    | ktup ds => simp [kV] at h
    | _ => exact flat 0 _ u (fun _ z => by cases z) h
  | succ n ih =>
    intro d u h
    cases d with
    | ktup ds =>
      cases u <;> first | (simp [kV] at h; done) | skip
      rename_i a
      rw [kV] at h
      cases q : K.lookup a with
      | none =>
        rw [q] at h
        cases h
      | some o =>
        obtain ⟨oc, od, dt, osl⟩ := o
        rw [q] at h
        cases oc with
        | type c =>
          cases dt with
          | seq its k =>
            obtain ⟨h1, h2⟩ := and2 (show (decide (c = "tuple") && (decide (its.size ≤ sizeLine) && kVs K n ds its.toList)) = true from h)
            obtain ⟨h3, h4⟩ := and2 h2
            obtain ⟨vs, rs, is⟩ := kVs_of ih h4
            exact ⟨.ref a, rfl, fun H => ⟨a, vs, rfl, .inr ⟨_, its, k, q, congrArg Value.type (of_decide_eq_true h1), rfl, of_decide_eq_true h3, rs⟩, is H⟩⟩
          | _ => cases h
        | _ => cases dt <;> cases h
    | _ => exact flat _ _ u (fun _ z => by cases z) h
def gV (K : PySem.W.Frag) (q : Str × D) : Bool := match PySem.W.nsIn K mainGlobals q.1 with
  | some (some u) => kV K 8 q.2 u
  | _ => false
theorem gV_ok {K : PySem.W.Frag} {h : Heap} {mg : Str → Option Value} (X : K.In h) (G : h.Ns mainGlobals mg) {x : Str} {d : D} (c : gV K (x, d) = true) : ∃ u v, mg x = some u ∧ RelV v u ∧ ∀ H, IsV K H d v := by
  unfold gV at c
  split at c
  · rename_i u e
    obtain ⟨v, r, i⟩ := kV_ok 8 d u c
    exact ⟨u, v, PySem.W.mg_of X G e, r, i⟩
  · cases c
abbrev AlE : Type := Bool × He.AlD
/-- the constants, the classes of exceptions -/
def exB (gs : List (Str × D)) (xs : List Nat) (K : PySem.W.Frag) : Bool := (gs.all fun q => gV K q) && match xs with
  | [] => true
  | xs => exAllB (clA K) K xs && ((xs.all fun j => rzB K j) && baseIB K (clA K 0))
def asE (g : Addr → Option Obj) (n : Nat) : List Nat → List Addr
  | [] => He.asD g n
  | _ => He.asD g n ++ [cStatics]
def obsE (n : Nat) (fa : List He.Fa) (fn : List He.DefD) (gs : List (Str × D)) (xs : List Nat) (g : Addr → Option Obj) : AlE := (exB gs xs (He.frG g (asE g n xs)), He.obsD fa fn (He.frG g (asE g n xs)))
/-- what is told of the classes of exceptions -/
structure ExTold (K : PySem.W.Frag) (xs : List Nat) : Prop where
  all : ExAll (clA K) K fun c => xs.contains c
  rz : ∀ j ∈ xs, rzB K j = true
  ba : xs ≠ [] → BaseI K (clA K 0)
theorem exTold_nil (K : PySem.W.Frag) : ExTold K [] := ⟨⟨fun _ h => (nomatch h), fun _ h => (nomatch h), fun _ _ h => (nomatch h), fun _ _ h => (nomatch h), fun T k hT hk => by
  rcases hk with z | z
  · cases z
  · rw [z]; exact base_ve K _ T hT, fun _ h => (nomatch h), fun _ _ h => (nomatch h)⟩, fun _ h => (nomatch h), fun h => absurd rfl h⟩
theorem exB_ok {K : PySem.W.Frag} {gs : List (Str × D)} {xs : List Nat} (h : exB gs xs K = true) : (∀ q ∈ gs, gV K q = true) ∧ ExTold K xs := by
  obtain ⟨h1, h2⟩ := He.ba h
  refine ⟨fun q hq => List.all_eq_true.mp h1 q hq, ?_⟩
  cases xs with
  | nil => exact exTold_nil K
  | cons x r =>
    obtain ⟨h3, h4⟩ := He.ba (show (exAllB (clA K) K (x :: r) && (((x :: r).all fun j => rzB K j) && baseIB K (clA K 0))) = true from h2)
    obtain ⟨h5, h6⟩ := He.ba h4
    exact ⟨exAllB_ok h3, fun j hj => List.all_eq_true.mp h5 j hj, fun _ => baseIB_ok h6⟩
def hookE (n : Nat) (fa : List He.Fa) (fn : List He.DefD) (gs : List (Str × D)) (xs : List Nat) : PySem.W.Hook where
  α := AlE
  obs := fun s => obsE n fa fn gs xs s.heap.get?
  val := fun _ => (true, He.valD fn)
  says := fun _ h => ∃ K : PySem.W.Frag, K.In h ∧ (He.SaysD fa fn K ∧ (∀ q ∈ gs, gV K q = true) ∧ ExTold K xs)
  of := fun _ s e => ⟨_, He.frG_in, congrArg Prod.snd e, exB_ok (congrArg Prod.fst e)⟩
  keeps := fun _ _ _ ⟨K, hK, c⟩ k => ⟨K, PySem.W.Frag.In.keeps hK k, c⟩
theorem obsE_eq {n : Nat} {fa : List He.Fa} {fn : List He.DefD} {gs : List (Str × D)} {xs : List Nat} {g : Addr → Option Obj} {s : Shared} (h : ∀ a, g a = s.heap.get? a) : obsE n fa fn gs xs g = (hookE n fa fn gs xs).obs s := by
  have e : g = s.heap.get? := funext h
  subst e
  rfl
/-- the law, from its def's promise -/
theorem walkW {l : PySem.W.OpenLaw} {n k : Nat} {q : Program} {loose : List Str} {XP : (Str → Option Value) → Heap → Prop} {YP : World → Heap → Prop} {d : DefRec} {x : Str} {sp : Sp}
    (hn : l.most = some n) (hn2 : n ≤ sizeLine) (hdf : d.params.defaults = []) (hr : k ≤ 400)
    (F : ∀ (w : World) (mg : Str → Option Value) (fa : Addr) (h : Heap), YP w h → h.Ns mainGlobals mg → mg d.name = some (.ref fa) →
      ∃ (K : PySem.W.Frag) (fd : FuncData) (cl : Nat → Addr), K.In h ∧ (∀ (s : Shared) (u : Value), BindsTo s fd ⟨[u], []⟩ [(x, u)]) ∧
        ∀ base : Heap, K.In base → base.Ns mainGlobals mg → L2.Fi.FnD l.prog w K mg base (L2.CX l.prog w) k fa fd [x] (Lsp cl K 1 sp))
    (hsp : ∀ ns : List Int, ns.length ≤ n → (∀ z ∈ ns, Builtin.Int.intBits z ≤ 1048576) → sp [.scr ns] (fun _ => none) (fun d _ => d = .bl true) fun _ _ => False) :
    PySem.W.WalkO q loose XP YP l.row.toRowW d [] (fun f vs => PySem.call f vs) := by
  refine Att.attach_callB hn hdf fun w s₀ s₁ mg mb fa o pm cd doc a vs ns G Y ho hd hcd hmg hobj hints hlen hbits hg => ?_
  obtain ⟨K, fd, cl, KX, hb, hF⟩ := F w mg fa _ Y G.T.g hmg
  refine L2.law_call KX G.T.g G.T.b G.T.builtins G.T.nolimit hg hobj hints (Nat.le_trans hlen hn2) ⟨by decide, by decide, by decide⟩ (fun base h1 h2 => (hF base h1 h2).fnok hr) hb (fun H hO hS => ?_) fun H e s' z => ?_
  · refine ⟨[.scr ns], fun _ => none, _, _, rfl, ⟨_, [], rfl, ⟨a, rfl, script_v hS hO⟩, rfl⟩, (fun _ _ e => nomatch e), hsp ns hlen hbits, ?_, fun _ _ _ _ _ z => z.elim⟩
    intro d m' v H' hd hv _ _
    subst hd
    exact hv
  · obtain ⟨_, _, _, _, _, _, _, _, _, _, _, _, z⟩ := z
    exact z
end DL

namespace LW
open PySem PySem.Spec PyProof.Rows DL
open L2 (V Hp FunD FnScope FnOk)
/-- the text, its defs one by one; printed by gen2.py -/
def top (i : Nat) : Stmt := PySem.Challenge.pw_againbook_k07_refusals_and_their_fields.main.body.getD i (.Pass ⟨0, 0, 0, 0⟩)
def c_law_box : DL.Ctx := { N := ["_law_script", "_law_k", "_law_cell", "_law_seed"], own := [], glb := [], free := ["len", "int"] }
def b_law_box : Sms := (.c (.set 2 (.bin .add (.bin .mul (.int 7919) (.var 1)) (.int 11)))
  (.c (.ite (.cmp .lt (.var 1) (.blt .len (.c (.var 0) .n))) (.c (.set 2 (.ix (.var 0) (.var 1)))
  .n) (.c (.ite (.cmp .gt (.blt .len (.c (.var 0) .n)) (.int 0)) (.c (.set 2 (.bin .add (.var 2) (.bin .mul (.bin .mod (.ix (.var 0) (.bin .mod (.var 1) (.blt .len (.c (.var 0) .n)))) (.int 2147483629)) (.int 69621))))
  .n) .n)
  .n))
  (.c (.set 3 (.bin .add (.bin .mod (.bin .add (.bin .mul (.bin .mod (.var 2) (.int 2147483629)) (.int 48271)) (.bin .mul (.int 40692) (.var 1))) (.int 2147483646)) (.int 1)))
  (.c (.ret (.lst (.c (.bin .mul (.var 2) (.blt .int (.c (.cmp .ge (.var 2) (.bin .pow (.int 10) (.int 18))) .n))) (.c (.var 3) .n))))
  .n))))
theorem cc_law_box : cSs c_law_box 200 (L2.defScope (top 11)) (L2.defBody (top 11)) = some (er b_law_box) := by kernel_rfl
theorem sc_law_box : FnScope c_law_box.N ["_law_script", "_law_k"] (L2.defScope (top 11)) := ⟨rfl, rfl, rfl, by decide +kernel, rfl, by decide +kernel, by decide +kernel⟩
def d_law_box : He.DefD := ⟨("_law_box", none), "_law_box", "_law_box", L2.defArgs (top 11), L2.defBody (top 11), L2.defScope (top 11), [], []⟩
def c_law_take : DL.Ctx := { N := ["_law_box_here", "_law_wide", "_law_one", "_law_mixed", "_law_digit"], own := [], glb := [], free := [] }
def b_law_take : Sms := (.c (.ite (.cmp .gt (.ix (.var 0) (.int 0)) (.int 0)) (.c (.set 4 (.bin .mod (.ix (.var 0) (.int 0)) (.var 1)))
  (.c (.setIx (.var 0) (.int 0) (.bin .fdiv (.ix (.var 0) (.int 0)) (.var 1)))
  (.c (.ret (.var 4))
  .n))) .n)
  (.c (.set 2 (.bin .mod (.bin .mul (.ix (.var 0) (.int 1)) (.int 69621)) (.int 2147483647)))
  (.c (.setIx (.var 0) (.int 1) (.bin .add (.bin .mod (.bin .add (.bin .mul (.var 2) (.int 48271)) (.int 30103)) (.int 2147483646)) (.int 1)))
  (.c (.set 3 (.bin .fdiv (.bin .add (.bin .mul (.var 2) (.int 2147483647)) (.ix (.var 0) (.int 1))) (.int 8191)))
  (.c (.ite (.cmp .gt (.var 1) (.bin .pow (.int 10) (.int 9))) (.c (.set 3 (.bin .mul (.var 3) (.var 3)))
  .n) .n)
  (.c (.ret (.bin .mod (.var 3) (.var 1)))
  .n))))))
theorem cc_law_take : cSs c_law_take 200 (L2.defScope (top 12)) (L2.defBody (top 12)) = some (er b_law_take) := by kernel_rfl
theorem sc_law_take : FnScope c_law_take.N ["_law_box_here", "_law_wide"] (L2.defScope (top 12)) := ⟨rfl, rfl, rfl, by decide +kernel, rfl, by decide +kernel, by decide +kernel⟩
def d_law_take : He.DefD := ⟨("_law_take", none), "_law_take", "_law_take", L2.defArgs (top 12), L2.defBody (top 12), L2.defScope (top 12), [], []⟩
def c_law_names : DL.Ctx := { N := ["_law_box_here", "_law_total", "_law_letters", "_law_wide", "_law_spot", "_law_signs", "_law_first", "_law_form", "_law_found", "_law_k", "_law_one", "_law_word", "_law_some", "_law_odd", "_law_j"], own := [("_law_take", (2, 2))], glb := [], free := ["range"] }
def b_law_names : Sms := (.c (.set 2 (.str [97, 98, 99, 100, 101, 102, 103, 104, 105, 106, 107, 108, 109, 110, 111, 112, 113, 114, 115, 116, 117, 118, 119, 120, 121, 122]))
  (.c (.set 3 (.bin .add (.int 1) (.call 2 (.c (.var 0) (.c (.int 6) .n)))))
  (.c (.set 4 (.call 2 (.c (.var 0) (.c (.var 3) .n))))
  (.c (.set 5 (.lc [9] (.name 9) (.rng1 (.var 3)) (.bl true) (.ix (.var 2) (.call 2 (.c (.var 0) (.c (.int 26) .n))))))
  (.c (.set 6 (.call 2 (.c (.var 0) (.c (.int 26) .n))))
  (.c (.set 7 (.call 2 (.c (.var 0) (.c (.int 3) .n))))
  (.c (.set 8 (.lst .n))
  (.c (.for_ (.name 9) (.rng1 (.var 1)) (.c (.set 10 (.ix (.var 2) (.bin .mod (.bin .add (.var 6) (.bin .mul (.int 5) (.var 9))) (.int 26))))
  (.c (.set 11 (.bin .add (.bin .add (.bm .join (.str []) (.c (.sl (.var 5) .part0 (.var 4)) .n)) (.var 10)) (.bm .join (.str []) (.c (.sl (.var 5) (.bin .add (.var 4) (.int 1)) .part0) .n))))
  (.c (.ite (.and (.cmp .eq (.var 7) (.int 1)) (.cmp .eq (.bin .mod (.var 9) (.int 2)) (.int 1))) (.c (.set 11 (.bin .add (.var 11) (.str [122])))
  .n) .n)
  (.c (.ite (.cmp .eq (.var 7) (.int 2)) (.c (.set 11 (.bin .add (.bm .join (.str []) (.c (.lc [14] (.name 14) (.rng1 (.call 2 (.c (.var 0) (.c (.int 8) .n)))) (.bl true) (.ix (.var 2) (.call 2 (.c (.var 0) (.c (.int 26) .n))))) .n)) (.var 10)))
  .n) .n)
  (.c (.ite (.cmp .isin (.var 11) (.tup (.c (.str [100, 101, 102]) (.c (.str [115, 101, 116]) (.c (.str [114, 101, 97, 100]) (.c (.str [119, 114, 105, 116, 101]) (.c (.str [99, 97, 108, 108]) (.c (.str [105, 102]) (.c (.str [101, 108, 115, 101]) (.c (.str [119, 104, 105, 108, 101]) (.c (.str [103, 105, 118, 101]) (.c (.str [101, 110, 100]) .n)))))))))))) (.c (.set 11 (.bin .add (.str [113, 113, 113, 113, 113, 113, 113]) (.var 10)))
  .n) .n)
  (.c (.expr (.bm .append (.var 8) (.c (.var 11) .n)))
  .n)))))))
  (.c (.ite (.cmp .eq (.call 2 (.c (.var 0) (.c (.int 6) .n))) (.int 0)) (.c (.set 12 (.lst (.c (.str [110, 117, 109]) (.c (.str [118, 97, 114]) (.c (.str [111, 112]) (.c (.str [103, 111]) (.c (.str [97, 115, 107]) (.c (.str [98, 97, 99, 107]) (.c (.str [99, 104, 97, 105, 110]) (.c (.str [115, 101, 116, 115]) (.c (.str [105, 102, 102]) (.c (.str [101, 110, 100, 115]) (.c (.str [99, 97, 108, 108, 115]) (.c (.str [114, 101, 97, 100, 115]) (.c (.str [103, 105, 118, 101, 115]) .n)))))))))))))))
  (.c (.set 13 (.ix (.var 12) (.call 2 (.c (.var 0) (.c (.int 13) .n)))))
  (.c (.ite (.cmp .notin (.var 13) (.var 8)) (.c (.setIx (.var 8) (.call 2 (.c (.var 0) (.c (.var 1) .n))) (.var 13))
  .n) .n)
  .n))) .n)
  (.c (.ret (.var 8))
  .n))))))))))
theorem cc_law_names : cSs c_law_names 200 (L2.defScope (top 14)) (L2.defBody (top 14)) = some (er b_law_names) := by kernel_rfl
theorem sc_law_names : FnScope c_law_names.N ["_law_box_here", "_law_total"] (L2.defScope (top 14)) := ⟨rfl, rfl, rfl, by decide +kernel, rfl, by decide +kernel, by decide +kernel⟩
def d_law_names : He.DefD := ⟨("_law_names", none), "_law_names", "_law_names", L2.defArgs (top 14), L2.defBody (top 14), L2.defScope (top 14), [], []⟩
def c_law_kinds : DL.Ctx := { N := ["_law_one", "_law_found"], own := [], glb := [], free := ["isinstance"], exc := [("NoText", 1), ("Twice", 2), ("NoName", 3), ("NoCount", 4), ("TooLong", 5), ("TooDeep", 6), ("NoStep", 7), ("NoRow", 8)] }
def b_law_kinds : Sms := (.c (.set 1 (.lst (.c (.isx [1] (.var 0)) (.c (.isx [2] (.var 0)) (.c (.isx [3] (.var 0)) (.c (.isx [4] (.var 0)) .n))))))
  (.c (.set 1 (.bin .add (.var 1) (.lst (.c (.isx [5] (.var 0)) (.c (.isx [6] (.var 0)) .n)))))
  (.c (.ret (.bin .add (.var 1) (.lst (.c (.isx [7] (.var 0)) (.c (.isx [8] (.var 0)) .n)))))
  .n)))
theorem cc_law_kinds : cSs c_law_kinds 200 (L2.defScope (top 15)) (L2.defBody (top 15)) = some (er b_law_kinds) := by kernel_rfl
theorem sc_law_kinds : FnScope c_law_kinds.N ["_law_one"] (L2.defScope (top 15)) := ⟨rfl, rfl, rfl, by decide +kernel, rfl, by decide +kernel, by decide +kernel⟩
def d_law_kinds : He.DefD := ⟨("_law_kinds", none), "_law_kinds", "_law_kinds", L2.defArgs (top 15), L2.defBody (top 15), L2.defScope (top 15), [], []⟩
def c_law_good : DL.Ctx := { N := ["_law_some", "_law_line", "_law_names_here", "_law_k", "_law_one", "_law_j"], own := [("_law_kinds", (136, 1))], glb := [], free := ["enumerate", "isinstance", "ValueError", "range"], exc := [("BookError", 0)], xv := ["_law_some", "_law_one"] }
def b_law_good : Sms := (.c (.for_ (.tup (.c (.name 3) (.c (.name 4) .n))) (.enum (.var 0)) (.c (.ite (.or (.not (.isx [0] (.var 4))) (.not (.isx [9] (.var 4)))) (.c (.ret (.bl false))
  .n) .n)
  (.c (.ite (.cmp .ne (.call 136 (.c (.var 4) .n)) (.lc [5] (.name 5) (.rng1 (.int 8)) (.bl true) (.cmp .eq (.var 5) (.var 3)))) (.c (.ret (.bl false))
  .n) .n)
  .n)))
  (.c (.ret (.and (.cmp .eq (.xfld (.ix (.var 0) (.int 0)) [108, 105, 110, 101]) (.var 1)) (.cmp .eq (.lc [4] (.name 4) (.of (.sl (.var 0) (.int 1) (.int 4))) (.bl true) (.xfld (.var 4) [110, 97, 109, 101])) (.var 2))))
  .n))
theorem cc_law_good : cSs c_law_good 200 (L2.defScope (top 16)) (L2.defBody (top 16)) = some (er b_law_good) := by kernel_rfl
theorem sc_law_good : FnScope c_law_good.N ["_law_some", "_law_line", "_law_names_here"] (L2.defScope (top 16)) := ⟨rfl, rfl, rfl, by decide +kernel, rfl, by decide +kernel, by decide +kernel⟩
def d_law_good : He.DefD := ⟨("_law_good", none), "_law_good", "_law_good", L2.defArgs (top 16), L2.defBody (top 16), L2.defScope (top 16), [], []⟩
def c_law_made : DL.Ctx := { N := ["_law_line", "_law_names_here", "_law_found"], own := [], glb := [], free := [], exr := [("NoText", 1), ("Twice", 2), ("NoName", 3), ("NoCount", 4), ("TooLong", 5), ("TooDeep", 6), ("NoStep", 7), ("NoRow", 8)] }
def b_law_made : Sms := (.c (.set 2 (.lst (.c (.mkx 1 (.c (.var 0) .n)) (.c (.mkx 2 (.c (.ix (.var 1) (.int 0)) .n)) (.c (.mkx 3 (.c (.ix (.var 1) (.int 1)) .n)) (.c (.mkx 4 (.c (.ix (.var 1) (.int 2)) .n)) .n))))))
  (.c (.ret (.bin .add (.var 2) (.lst (.c (.mkx 5 .n) (.c (.mkx 6 .n) (.c (.mkx 7 .n) (.c (.mkx 8 .n) .n)))))))
  .n))
theorem cc_law_made : cSs c_law_made 200 (L2.defScope (top 17)) (L2.defBody (top 17)) = some (er b_law_made) := by kernel_rfl
theorem sc_law_made : FnScope c_law_made.N ["_law_line", "_law_names_here"] (L2.defScope (top 17)) := ⟨rfl, rfl, rfl, by decide +kernel, rfl, by decide +kernel, by decide +kernel⟩
def d_law_made : He.DefD := ⟨("_law_made", none), "_law_made", "_law_made", L2.defArgs (top 17), L2.defBody (top 17), L2.defScope (top 17), [], []⟩
def c_law : DL.Ctx := { N := ["_law_script", "_law_box_here", "_law_line", "_law_names_here", "_law_one", "_law_other", "_law_fault"], own := [("_law_box", (6, 2)), ("_law_names", (7, 2)), ("_law_made", (137, 2)), ("_law_take", (2, 2)), ("_law_good", (138, 3))], glb := [], free := [], xv := ["_law_other", "_law_fault"] }
def b_law : Sms := (.c (.set 1 (.call 6 (.c (.var 0) (.c (.int 0) .n))))
  (.c (.set 2 (.bin .add (.int 1) (.call 2 (.c (.var 1) (.c (.int 400) .n)))))
  (.c (.set 3 (.call 7 (.c (.var 1) (.c (.int 6) .n))))
  (.c (.set 4 (.call 137 (.c (.var 2) (.c (.sl (.var 3) .part0 (.int 3)) .n))))
  (.c (.set 5 (.call 137 (.c (.bin .add (.bin .add (.var 2) (.int 1)) (.call 2 (.c (.var 1) (.c (.int 9) .n)))) (.c (.sl (.var 3) (.int 3) .part0) .n))))
  (.c (.ite (.or (.not (.call 138 (.c (.var 4) (.c (.var 2) (.c (.sl (.var 3) .part0 (.int 3)) .n))))) (.cmp .le (.xfld (.ix (.var 5) (.int 0)) [108, 105, 110, 101]) (.var 2))) (.c (.ret (.bl false))
  .n) .n)
  (.c (.ret (.and (.call 138 (.c (.var 4) (.c (.var 2) (.c (.sl (.var 3) .part0 (.int 3)) .n)))) (.cmp .eq (.lc [6] (.name 6) (.of (.sl (.var 5) (.int 1) (.int 4))) (.bl true) (.xfld (.var 6) [110, 97, 109, 101])) (.sl (.var 3) (.int 3) .part0))))
  .n)))))))
theorem cc_law : cSs c_law 200 (L2.defScope (top 18)) (L2.defBody (top 18)) = some (er b_law) := by kernel_rfl
theorem sc_law : FnScope c_law.N ["_law_script"] (L2.defScope (top 18)) := ⟨rfl, rfl, rfl, by decide +kernel, rfl, by decide +kernel, by decide +kernel⟩
def d_law : He.DefD := ⟨("law", none), "law", "law", L2.defArgs (top 18), L2.defBody (top 18), L2.defScope (top 18), [], []⟩
end LW

namespace LW
def xsL : List Nat := [0, 1, 2, 3, 4, 5, 6, 7, 8]
end LW
namespace LW
open PySem PySem.Spec PyProof.Rows DL
open L2 (V Hp FunD FnScope FnOk)
def d_NoText_init : He.DefD := ⟨("NoText", some "__init__"), "__init__", "NoText.__init__", L2.defArgs (L2.inClass (top 2) 0), L2.defBody (L2.inClass (top 2) 0), L2.defScope (L2.inClass (top 2) 0), [], []⟩
theorem sc_NoText_init : FnScope ["self", "line"] ["self", "line"] (L2.defScope (L2.inClass (top 2) 0)) := ⟨rfl, rfl, rfl, by decide +kernel, rfl, by decide +kernel, by decide +kernel⟩
theorem ci_NoText_init : cIni (L2.defBody (L2.inClass (top 2) 0)) = (some ("BookError", "self", "line", "line") : Option (Str × Str × Str × Str)) := by kernel_rfl
def d_Twice_init : He.DefD := ⟨("Twice", some "__init__"), "__init__", "Twice.__init__", L2.defArgs (L2.inClass (top 3) 0), L2.defBody (L2.inClass (top 3) 0), L2.defScope (L2.inClass (top 3) 0), [], []⟩
theorem sc_Twice_init : FnScope ["self", "name"] ["self", "name"] (L2.defScope (L2.inClass (top 3) 0)) := ⟨rfl, rfl, rfl, by decide +kernel, rfl, by decide +kernel, by decide +kernel⟩
theorem ci_Twice_init : cIni (L2.defBody (L2.inClass (top 3) 0)) = (some ("BookError", "self", "name", "name") : Option (Str × Str × Str × Str)) := by kernel_rfl
def d_NoName_init : He.DefD := ⟨("NoName", some "__init__"), "__init__", "NoName.__init__", L2.defArgs (L2.inClass (top 4) 0), L2.defBody (L2.inClass (top 4) 0), L2.defScope (L2.inClass (top 4) 0), [], []⟩
theorem sc_NoName_init : FnScope ["self", "name"] ["self", "name"] (L2.defScope (L2.inClass (top 4) 0)) := ⟨rfl, rfl, rfl, by decide +kernel, rfl, by decide +kernel, by decide +kernel⟩
theorem ci_NoName_init : cIni (L2.defBody (L2.inClass (top 4) 0)) = (some ("BookError", "self", "name", "name") : Option (Str × Str × Str × Str)) := by kernel_rfl
def d_NoCount_init : He.DefD := ⟨("NoCount", some "__init__"), "__init__", "NoCount.__init__", L2.defArgs (L2.inClass (top 5) 0), L2.defBody (L2.inClass (top 5) 0), L2.defScope (L2.inClass (top 5) 0), [], []⟩
theorem sc_NoCount_init : FnScope ["self", "name"] ["self", "name"] (L2.defScope (L2.inClass (top 5) 0)) := ⟨rfl, rfl, rfl, by decide +kernel, rfl, by decide +kernel, by decide +kernel⟩
theorem ci_NoCount_init : cIni (L2.defBody (L2.inClass (top 5) 0)) = (some ("BookError", "self", "name", "name") : Option (Str × Str × Str × Str)) := by kernel_rfl
def fn : List He.DefD := [d_law_box, d_law_take, d_law_names, d_law_kinds, d_law_good, d_law_made, d_law, d_NoText_init, d_Twice_init, d_NoName_init, d_NoCount_init]
def fa : List He.Fa := [.glo "_law_box", .glo "_law_take", .glo "_law_names", .glo "_law_kinds", .glo "_law_good", .glo "_law_made", .glo "law", .free "len", .free "int", .free "range", .free "isinstance", .free "enumerate", .free "ValueError", .glo "BookError", .glo "NoText", .glo "Twice", .glo "NoName", .glo "NoCount", .glo "TooLong", .glo "TooDeep", .glo "NoStep", .glo "NoRow"]
def loose0 : List Str := ["BookError", "NoText", "Twice", "NoName", "NoCount", "TooLong", "TooDeep", "NoStep", "NoRow", "_law_box", "_law_take", "_law_number", "_law_names", "_law_kinds", "_law_good", "_law_made"]
def loose : List Str := loose0
abbrev Ro : PySem.W.OpenRow := PySem.W.OpenLaw.row PySem.Challenge.rw_againbook_k07_refusals_and_their_fields
def gs : List (Str × D) := []
abbrev hook : PySem.W.Hook := hookE 4 fa fn gs xsL
def seen (s : PySem.W.SharedT) : AlE := obsE 4 fa fn gs xsL (HandSHeadRun.getT s)
theorem seen_eq (s : PySem.W.SharedT) : seen s = hook.obs s.abs := by
  exact obsE_eq (HandSHeadRun.getT_eq s)
theorem ran (w : World) : HandSHeadRun.RunEq Ro (PySem.W.view Ro.prog [18]) hook seen 60000 loose w := by
  intro o
  kernel_rfl
end LW

namespace DL
theorem upd_none {m : Mem} {a p : Nat} {o : MO} (h : upd m a o p = none) : p ≠ a ∧ m p = none := by
  unfold upd at h
  split at h
  · cases h
  · rename_i e
    exact ⟨e, h⟩
theorem upd_comm {m : Mem} {a b : Nat} {o u : MO} (h : a ≠ b) : upd (upd m a o) b u = upd (upd m b u) a o := by
  funext x
  unfold upd
  by_cases e : x = a
  · rw [if_pos e]
    by_cases f : x = b
    · exact absurd (e.symm.trans f) h
    · rw [if_neg f, if_pos e]
  · rw [if_neg e, if_neg e]
theorem Sub.upd {m m' : Mem} {p : Nat} {o : MO} (h : Sub m m') : Sub (DL.upd m p o) (DL.upd m' p o) := fun a u e => by
  unfold DL.upd at e ⊢
  split at e
  · rename_i z
    rw [if_pos z]
    exact e
  · rename_i z
    rw [if_neg z]
    exact h a u e
theorem Sub.at {m m' : Mem} {p : Nat} {o : MO} (h : Sub m m') (e : m p = some o) : m' p = some o := h p o e
section
variable {g : Mem → Prop} {tg : D → St → Mem → (St → Mem → Prop) → Prop} {tc : St → Mem → (Bool → Mem → Prop) → Prop} {te : St → Mem → Kt → Prop} {σ : St} {k : List D → Mem → Prop}
theorem rLc_by : ∀ {items acc : List D} {m : Mem} (P : Nat → List D → Mem → Prop) (j : Nat), P j acc m →
    (∀ i d acc m (R : List D → Mem → Prop), items[i]? = some d → P (j + i) acc m → (∀ acc' m', P (j + i + 1) acc' m' → R acc' m') →
      g m ∧ tg d σ m fun σ1 m1 => tc σ1 m1 fun b m2 => (b = true → te σ1 m2 fun v m3 => ∃ m4, Sub m4 m3 ∧ R (acc ++ [v]) m4) ∧ (b = false → ∃ m4, Sub m4 m2 ∧ R acc m4)) →
    (∀ acc m, P (j + items.length) acc m → g m ∧ k acc m) → rLc g tg tc te σ items acc m k
  | [], acc, m, P, j, h0, hs, he => he acc m h0
  | d :: ds, acc, m, P, j, h0, hs, he => by
    have s := hs 0 d acc m (fun acc m => rLc g tg tc te σ ds acc m k) rfl h0 fun acc' m' h => rLc_by P (j + 1) h
      (fun i d acc m R e h r => hs (i + 1) d acc m R (by simpa using e) (by rw [show j + (i + 1) = j + 1 + i by omega]; exact h) (by rw [show j + (i + 1) + 1 = j + 1 + i + 1 by omega]; exact r))
      (fun acc m h => he acc m (by rw [show j + (d :: ds).length = j + 1 + ds.length by rw [List.length_cons]; omega]; exact h))
    exact s
/-- each item gives its value, the memory as it was -/
theorem rLc_map (f : D → D) {items : List D} {m : Mem} (hg : g m) (hs : ∀ d, d ∈ items → ∀ R : D → Mem → Prop, (∀ m3, Sub m m3 → R (f d) m3) → tg d σ m fun σ1 m1 => te σ1 m1 R) (he : k (items.map f) m) : rLc g tg (fun _ m k => k true m) te σ items [] m k := by
  refine rLc_by (fun i acc m' => m' = m ∧ acc = (items.take i).map f) 0 ⟨rfl, by simp⟩ (fun i d acc m' R e h r => ?_) fun acc m' h => ?_
  · obtain ⟨rfl, rfl⟩ := h
    refine ⟨hg, ?_⟩
    simp only [rT, forall_const, reduceCtorEq, false_implies, and_true, true_implies]
    refine hs d (List.mem_of_getElem? e) _ fun m3 sb => ⟨m', sb, r _ _ ⟨rfl, ?_⟩⟩
    rw [Nat.zero_add, List.take_add_one, e]
    simp
  · obtain ⟨rfl, rfl⟩ := h
    rw [Nat.zero_add, List.take_length]
    exact ⟨hg, he⟩
/-- .. those that pass -/
theorem rLc_fil (c : D → Bool) (f : D → D) {items : List D} {m : Mem} (hg : g m)
    (hs : ∀ d, d ∈ items → ∀ (R : D → Mem → Prop) (S : Mem → Prop), (c d = true → ∀ m3, Sub m m3 → R (f d) m3) → (c d = false → ∀ m3, Sub m m3 → S m3) → tg d σ m fun σ1 m1 => tc σ1 m1 fun b m2 => (b = true → te σ1 m2 R) ∧ (b = false → S m2)) (he : k ((items.filter c).map f) m) : rLc g tg tc te σ items [] m k := by
  refine rLc_by (fun i acc m' => m' = m ∧ acc = ((items.take i).filter c).map f) 0 ⟨rfl, by simp⟩ (fun i d acc m' R e h r => ?_) fun acc m' h => ?_
  · obtain ⟨rfl, rfl⟩ := h
    refine ⟨hg, hs d (List.mem_of_getElem? e) _ _ (fun ec m3 sb => ⟨m', sb, r _ _ ⟨rfl, ?_⟩⟩) fun ec m3 sb => ⟨m', sb, r _ _ ⟨rfl, ?_⟩⟩⟩
    · rw [Nat.zero_add, List.take_add_one, e]
      simp [ec]
    · rw [Nat.zero_add, List.take_add_one, e]
      simp [ec]
  · obtain ⟨rfl, rfl⟩ := h
    rw [Nat.zero_add, List.take_length]
    exact ⟨hg, he⟩
end
theorem exF0 : excF 0 = [] := rfl
theorem exF1 : excF 1 = [[108, 105, 110, 101]] := rfl
theorem exF2 : excF 2 = [[110, 97, 109, 101]] := rfl
theorem exF3 : excF 3 = [[110, 97, 109, 101]] := rfl
theorem exF4 : excF 4 = [[110, 97, 109, 101]] := rfl
theorem exF5 : excF 5 = [] := rfl
theorem exF6 : excF 6 = [] := rfl
theorem exF7 : excF 7 = [] := rfl
theorem exF8 : excF 8 = [] := rfl
theorem zipN {α β : Type} {l : List α} : l.zip ([] : List β) = [] := by cases l <;> rfl
theorem isX_exc {xc : Nat → Bool} {ks : List Nat} {c : Nat} {fn : List (List Nat)} {vs : List D} {m : Mem} {k : Bool → Prop} : rIsX xc ks (.exc c fn vs) m k = (xc c = true ∧ k (ks.any fun j => excSub c j)) := rfl
theorem isX_non {xc : Nat → Bool} {ks : List Nat} {m : Mem} {k : Bool → Prop} : rIsX xc ks .non m k = k false := rfl
theorem isX_tup {xc : Nat → Bool} {ks : List Nat} {ds : List D} {m : Mem} {k : Bool → Prop} : rIsX xc ks (.tup ds) m k = k false := rfl
theorem isX_rol {xc : Nat → Bool} {ks : List Nat} {ds : List D} {m : Mem} {k : Bool → Prop} : rIsX xc ks (.rol ds) m k = k false := rfl
theorem isX_str {xc : Nat → Bool} {ks : List Nat} {s : List Nat} {m : Mem} {k : Bool → Prop} : rIsX xc ks (.str s) m k = k false := rfl
theorem isX_int {xc : Nat → Bool} {ks : List Nat} {i : Int} {m : Mem} {k : Bool → Prop} : rIsX xc ks (.int i) m k = k false := rfl
theorem isX_bl {xc : Nat → Bool} {ks : List Nat} {b : Bool} {m : Mem} {k : Bool → Prop} : rIsX xc ks (.bl b) m k = k false := rfl
theorem rFor_by {g : Mem → Prop} {tg : D → St → Mem → (St → Mem → Prop) → Prop} {body : Ends → St → Mem → Prop} {Z : Ends} : ∀ {items : List D} {σ : St} {m : Mem} (P : Nat → St → Mem → Prop) (j : Nat), P j σ m →
    (∀ i d σ m (R : St → Mem → Prop), items[i]? = some d → P (j + i) σ m → (∀ σ' m', P (j + i + 1) σ' m' → R σ' m') →
      g m ∧ tg d σ m (body { nx := fun σ1 m1 => ∃ m2, Sub m2 m1 ∧ R σ1 m2, rt := Z.rt, bk := Z.nx, ct := fun σ1 m1 => ∃ m2, Sub m2 m1 ∧ R σ1 m2, ex := Z.ex })) →
    (∀ σ m, P (j + items.length) σ m → g m ∧ Z.nx σ m) → rFor g tg body Z items σ m
  | [], σ, m, P, j, h0, hs, he => he σ m h0
  | d :: ds, σ, m, P, j, h0, hs, he => by
    have s := hs 0 d σ m (fun σ m => rFor g tg body Z ds σ m) rfl h0 fun σ' m' h => rFor_by P (j + 1) h
      (fun i d σ m R e h r => hs (i + 1) d σ m R (by simpa using e) (by rw [show j + (i + 1) = j + 1 + i by omega]; exact h) (by rw [show j + (i + 1) + 1 = j + 1 + i + 1 by omega]; exact r))
      (fun σ m h => he σ m (by rw [show j + (d :: ds).length = j + 1 + ds.length by rw [List.length_cons]; omega]; exact h))
    exact s
theorem rWhl_by {c : XK → St → Mem → (Bool → Mem → Prop) → Prop} {body : Ends → St → Mem → Prop} {Z : Ends} (P : Nat → St → Mem → Prop)
    (hs : ∀ n σ m (R : St → Mem → Prop), P n σ m → (∀ j σ' m', j < n → P j σ' m' → R σ' m') →
      c Z.ex σ m fun p m1 => (p = true → body { nx := fun σ1 m2 => ∃ m3, Sub m3 m2 ∧ R σ1 m3, rt := Z.rt, bk := Z.nx, ct := fun σ1 m2 => ∃ m3, Sub m3 m2 ∧ R σ1 m3, ex := Z.ex } σ m1) ∧ (p = false → Z.nx σ m1)) :
    ∀ {n : Nat} {σ : St} {m : Mem}, P n σ m → ∀ N, n < N → rWhl c body Z N σ m := by
  intro n σ m h N hN
  induction N generalizing n σ m with
  | zero => omega
  | succ N ih => exact hs n σ m (fun σ m => rWhl c body Z N σ m) h fun j σ' m' hj h' => ih h' (by omega)
theorem rWhl_ex {c : XK → St → Mem → (Bool → Mem → Prop) → Prop} {body : Ends → St → Mem → Prop} {Z : Ends} (P : Nat → St → Mem → Prop) {n : Nat} {σ : St} {m : Mem} (h0 : P n σ m)
    (hs : ∀ n σ m (R : St → Mem → Prop), P n σ m → (∀ j σ' m', j < n → P j σ' m' → R σ' m') →
      c Z.ex σ m fun p m1 => (p = true → body { nx := fun σ1 m2 => ∃ m3, Sub m3 m2 ∧ R σ1 m3, rt := Z.rt, bk := Z.nx, ct := fun σ1 m2 => ∃ m3, Sub m3 m2 ∧ R σ1 m3, ex := Z.ex } σ m1) ∧ (p = false → Z.nx σ m1)) :
    ∃ N, rWhl c body Z N σ m := ⟨n + 1, rWhl_by P hs h0 _ (Nat.lt_succ_self n)⟩
theorem sget0 {o : Option D} {r : St} : sget (o :: r) 0 = o := rfl
theorem sgetS {o : Option D} {r : St} {n : Nat} : sget (o :: r) (n + 1) = sget r n := rfl
theorem rangeD_map {lo : Int} : ∀ n : Nat, rangeD lo 1 n = (List.range n).map fun i : Nat => D.int (lo + (i : Int)) := by
  intro n
  induction n generalizing lo with
  | zero => rfl
  | succ n ih =>
    rw [List.range_succ_eq_map, List.map_cons, List.map_map]
    show D.int lo :: rangeD (lo + 1) 1 n = _
    rw [ih]
    congr 1
    · simp
    · apply List.map_congr_left
      intro i _
      show D.int _ = D.int _
      congr 1
      show lo + 1 + (i : Int) = lo + ((i + 1 : Nat) : Int)
      omega
theorem rangeD_mem {lo : Int} {n : Nat} {d : D} (h : d ∈ rangeD lo 1 n) : ∃ i : Int, d = .int i ∧ lo ≤ i ∧ i < lo + n := by
  rw [rangeD_map] at h
  obtain ⟨i, hi, e⟩ := List.mem_map.mp h
  exact ⟨_, e.symm, by omega, by have := List.mem_range.mp hi; omega⟩
theorem sset0 {o : Option D} {r : St} {d : D} : sset (o :: r) 0 d = some d :: r := rfl
theorem ssetS {o : Option D} {r : St} {n : Nat} {d : D} : sset (o :: r) (n + 1) d = o :: sset r n d := rfl
theorem sw0 {o : Option D} {r : St} : swipe1 (o :: r) 0 = none :: r := rfl
theorem swS {o : Option D} {r : St} {n : Nat} : swipe1 (o :: r) (n + 1) = o :: swipe1 r n := rfl
theorem swN {σ : St} : swipe σ [] = σ := rfl
theorem swC {σ : St} {v : Nat} {vs : List Nat} : swipe σ (v :: vs) = swipe1 (swipe σ vs) v := rfl
section
variable {v : Bool} {m : Mem} {k : Kt} {kb : Bool → Prop} {i j : Int} {a b : Nat} {x y d : D} {ds es : List D} {s t : List Nat} {p q : Bool} {Γ : En}
theorem nv_t : NewLv true m ds k = k (.rol ds) m := rfl
theorem nv_f : NewLv false m ds k = New m (.lst ds) k := rfl
theorem nd_t {kvs : List (D × D)} : NewDv true m kvs k = k (rodOf false kvs) m := rfl
theorem nd_f {kvs : List (D × D)} : NewDv false m kvs k = New m (.dK kvs) k := rfl
theorem lo_r : lstOf m (.rol ds) = some ds := rfl
theorem lo_a (h : m a = some (.lst ds)) : lstOf m (.ref a) = some ds := by
  show (match m a with
    | some (.lst ds) => some ds
    | _ => none) = some ds
  rw [h]
theorem so_r : seqOf m (.rol ds) = some ds := rfl
theorem so_t : seqOf m (.tup ds) = some ds := rfl
theorem so_k : seqOf m (.ktup ds) = some ds := rfl
theorem so_s {ns : List Int} : seqOf m (.scr ns) = some (ns.map .int) := rfl
theorem so_a (h : m a = some (.lst ds)) : seqOf m (.ref a) = some ds := lo_a h
theorem un_t : unp m (.tup ds) = some ds := rfl
theorem un_k : unp m (.ktup ds) = some ds := rfl
theorem un_r : unp m (.rol ds) = some ds := rfl
theorem un_a (h : m a = some (.lst ds)) : unp m (.ref a) = some ds := lo_a h
theorem do_a {kvs : List (D × D)} (h : m a = some (.dK kvs)) : dicOf m (.ref a) = some (false, kvs) := by
  show (match m a with
    | some (.dK kvs) => some (false, kvs)
    | some (.dT kvs) => some (true, kvs)
    | _ => none) = _
  rw [h]
theorem do_r {kvs : List (D × D)} : dicOf m (rodOf p kvs) = some (p, kvs) := by
  show some (p, (kvs.map (·.1)).zip (kvs.map (·.2))) = _
  have : (kvs.map (·.1)).zip (kvs.map (·.2)) = kvs := by
    induction kvs with
    | nil => rfl
    | cons q r ih =>
      show (q.1, q.2) :: (r.map (·.1)).zip (r.map (·.2)) = _
      rw [ih]
  rw [this]
theorem b_add : rBin v .add (.int i) (.int j) m k = k (.int (i + j)) m := rfl
theorem b_sub : rBin v .sub (.int i) (.int j) m k = k (.int (i - j)) m := rfl
theorem b_mul : rBin v .mul (.int i) (.int j) m k = (((-(2 ^ 64) < i ∧ i < 2 ^ 64) ∨ (-(2 ^ 64) < j ∧ j < 2 ^ 64)) ∧ k (.int (i * j)) m) := rfl
theorem b_fdiv : rBin v .fdiv (.int i) (.int j) m k = ((0 < j ∧ j < 2 ^ 200) ∧ k (.int (i / j)) m) := rfl
theorem b_mod : rBin v .mod (.int i) (.int j) m k = (0 < j ∧ k (.int (i % j)) m) := rfl
theorem b_pow : rBin v .pow (.int i) (.int j) m k = (((0 ≤ j ∧ j ≤ 1000000) ∧ i.natAbs < 2 ^ 64) ∧ k (.int (i ^ j.toNat)) m) := rfl
theorem b_adds : rBin v .add (.str s) (.str t) m k = (s.length + t.length ≤ big ∧ k (.str (s ++ t)) m) := rfl
theorem b_addt : rBin v .add (.tup ds) (.tup es) m k = (ds.length + es.length ≤ big ∧ k (.tup (ds ++ es)) m) := rfl
theorem ral_iff {xs ys : List D} (h : lstOf m x = some xs) (h' : lstOf m y = some ys) : rAddL v x y m k ↔ xs.length + ys.length ≤ big ∧ NewLv v m (xs ++ ys) k := by
  constructor
  · rintro ⟨us, vs, h1, h2, h3⟩
    rw [h] at h1
    cases h1
    rw [h'] at h2
    cases h2
    exact h3
  · exact fun h3 => ⟨xs, ys, h, h', h3⟩
theorem b_addrr : rBin v .add (.rol ds) (.rol es) m k ↔ (ds.length + es.length ≤ big ∧ NewLv v m (ds ++ es) k) := ral_iff rfl rfl
theorem b_addra (h : m a = some (.lst ds)) : rBin v .add (.ref a) (.rol es) m k ↔ (ds.length + es.length ≤ big ∧ NewLv v m (ds ++ es) k) := ral_iff (lo_a h) rfl
theorem b_addar (h : m a = some (.lst es)) : rBin v .add (.rol ds) (.ref a) m k ↔ (ds.length + es.length ≤ big ∧ NewLv v m (ds ++ es) k) := ral_iff rfl (lo_a h)
theorem b_addaa (h : m a = some (.lst ds)) (h' : m b = some (.lst es)) : rBin v .add (.ref a) (.ref b) m k ↔ (ds.length + es.length ≤ big ∧ NewLv v m (ds ++ es) k) := ral_iff (lo_a h) (lo_a h')
theorem b_muls : rBin v .mul (.str s) (.int j) m k = ∃ c, s = [c] ∧ 0 ≤ j ∧ j ≤ 1000000 ∧ k (.str (List.replicate j.toNat c)) m := rfl
theorem sl_lst {lo hi : Option Int} (h : m a = some (.lst ds)) : rSl v (.ref a) lo hi m k = NewLv v m (cut ds lo hi) k := by
  show (match m a with
    | some (.lst ds) => NewLv v m (cut ds lo hi) k
    | _ => False) = _
  rw [h]
theorem sl_tup {lo hi : Option Int} : rSl v (.tup ds) lo hi m k = k (.tup (cut ds lo hi)) m := rfl
theorem sl_rol {lo hi : Option Int} : rSl v (.rol ds) lo hi m k = NewLv v m (cut ds lo hi) k := rfl
theorem sl_scr {lo hi : Option Int} {ns : List Int} : rSl v (.scr ns) lo hi m k = NewLv v m (cut (ns.map D.int) lo hi) k := rfl
theorem sl_str {lo hi : Option Int} : rSl v (.str s) lo hi m k = (s.length ≤ big ∧ k (.str (cut s lo hi)) m) := rfl
theorem c_lt : rCmp .lt (.int i) (.int j) m kb = kb (decide (i < j)) := rfl
theorem c_le : rCmp .le (.int i) (.int j) m kb = kb (decide (i ≤ j)) := rfl
theorem c_gt : rCmp .gt (.int i) (.int j) m kb = kb (decide (j < i)) := rfl
theorem c_ge : rCmp .ge (.int i) (.int j) m kb = kb (decide (j ≤ i)) := rfl
theorem c_eq0 : rCmp .eq x y m kb = rEq x y m kb := rfl
theorem c_ne0 : rCmp .ne x y m kb = rNe x y m fun b => kb (!b) := rfl
theorem c_in0 : rCmp .isin x y m kb = rIn x y m kb := rfl
theorem c_ni0 : rCmp .notin x y m kb = rIn x y m fun b => kb (!b) := rfl
theorem c_is0 : rCmp .is x y m kb = rIs x y kb := rfl
theorem c_isn0 : rCmp .isnot x y m kb = rIs x y fun b => kb (!b) := rfl
theorem F_int {m : Mem} {n : Nat} {f : F} {i : Int} (h : Opn m n (.int i) f) : f = .int i := by
  cases f <;> cases n <;> simp_all [Opn]
theorem F_bl {m : Mem} {n : Nat} {f : F} {i : Bool} (h : Opn m n (.bl i) f) : f = .bl i := by
  cases f <;> cases n <;> simp_all [Opn]
theorem F_str {m : Mem} {n : Nat} {f : F} {s : List Nat} (h : Opn m n (.str s) f) : f = .str s := by
  cases f <;> cases n <;> simp_all [Opn]
theorem F_non {m : Mem} {n : Nat} {f : F} (h : Opn m n .non f) : f = .non := by
  cases f <;> cases n <;> simp_all [Opn]
/-- neither list, tuple nor dict -/
def atm : D → Bool
  | .int _ => true | .str _ => true | .bl _ => true | .non => true | _ => false
theorem al_atm {n : Nat} (hx : atm x = true) (h : alike m n x y) : x = y := by
  cases n with
  | zero => exact h.elim
  | succ n =>
    rcases h with h | ⟨xs, ys, h, _⟩ | ⟨xs, ys, h, _⟩ | ⟨xs, ys, h, _⟩
    · exact h.1
    · cases x <;> first | cases h; done | cases hx
    · cases x <;> first | cases h; done | cases hx
    · cases x <;> first | cases h; done | cases hx
theorem alF_atm (hx : atm x = true) (h : alikeF m x y) : False := by
  obtain ⟨xs, ys, h, _⟩ := h
  cases x <;> first | cases h; done | cases hx
theorem alT_atm (hx : atm x = true) (h : alikeT m x y) : False := by
  obtain ⟨xs, ys, h, _⟩ := h
  cases x <;> first | cases h; done | cases hx
theorem e_int : rEq (.int i) (.int j) m kb ↔ kb (decide (i = j)) := by
  constructor
  · rintro (⟨_, _, h⟩ | ⟨f, g, hf, hg, h⟩ | ⟨h, hk⟩)
    · exact h
    · rw [F_int hf, F_int hg] at h
      exact h
    · cases al_atm rfl h
      simpa using hk
  · exact fun h => .inl ⟨rfl, rfl, h⟩
theorem n_int : rNe (.int i) (.int j) m kb ↔ kb (decide (i = j)) := by
  constructor
  · rintro (⟨_, _, h⟩ | ⟨f, g, hf, hg, h⟩ | ⟨h, hk⟩ | ⟨h, hk⟩)
    · exact h
    · rw [F_int hf, F_int hg] at h
      exact h
    · exact (alF_atm rfl h).elim
    · exact (alT_atm rfl h).elim
  · exact fun h => .inl ⟨rfl, rfl, h⟩
theorem eqv_bl : D.eqv (.bl p) (.bl q) = decide (p = q) := by cases p <;> cases q <;> rfl
theorem feqv_bl : F.eqv (.bl p) (.bl q) = decide (p = q) := by cases p <;> cases q <;> rfl
theorem e_bl : rEq (.bl p) (.bl q) m kb ↔ kb (decide (p = q)) := by
  constructor
  · rintro (⟨_, _, h⟩ | ⟨f, g, hf, hg, h⟩ | ⟨h, hk⟩)
    · rw [eqv_bl] at h
      exact h
    · rw [F_bl hf, F_bl hg, feqv_bl] at h
      exact h
    · cases al_atm rfl h
      simpa using hk
  · exact fun h => .inl ⟨rfl, rfl, by rw [eqv_bl]; exact h⟩
theorem n_bl : rNe (.bl p) (.bl q) m kb ↔ kb (decide (p = q)) := by
  constructor
  · rintro (⟨_, _, h⟩ | ⟨f, g, hf, hg, h⟩ | ⟨h, hk⟩ | ⟨h, hk⟩)
    · rw [eqv_bl] at h
      exact h
    · rw [F_bl hf, F_bl hg, feqv_bl] at h
      exact h
    · exact (alF_atm rfl h).elim
    · exact (alT_atm rfl h).elim
  · exact fun h => .inl ⟨rfl, rfl, by rw [eqv_bl]; exact h⟩
/-- real signs -/
abbrev okS (s : List Nat) : Prop := s.all (· < 1114112) = true
theorem eqv_str : D.eqv (.str s) (.str t) = decide (s = t) := by
  show (s == t) = _
  by_cases e : s = t <;> simp [e]
theorem feqv_str : F.eqv (.str s) (.str t) = decide (s = t) := by
  show (s == t) = _
  by_cases e : s = t <;> simp [e]
theorem e_str (hs : okS s) (ht : okS t) : rEq (.str s) (.str t) m kb ↔ kb (decide (s = t)) := by
  constructor
  · rintro (⟨_, _, h⟩ | ⟨f, g, hf, hg, h⟩ | ⟨h, hk⟩)
    · rw [eqv_str] at h
      exact h
    · rw [F_str hf, F_str hg, feqv_str] at h
      exact h
    · cases al_atm rfl h
      simpa using hk
  · exact fun h => .inl ⟨hs, ht, by rw [eqv_str]; exact h⟩
theorem n_str (hs : okS s) (ht : okS t) : rNe (.str s) (.str t) m kb ↔ kb (decide (s = t)) := by
  constructor
  · rintro (⟨_, _, h⟩ | ⟨f, g, hf, hg, h⟩ | ⟨h, hk⟩ | ⟨h, hk⟩)
    · rw [eqv_str] at h
      exact h
    · rw [F_str hf, F_str hg, feqv_str] at h
      exact h
    · exact (alF_atm rfl h).elim
    · exact (alT_atm rfl h).elim
  · exact fun h => .inl ⟨hs, ht, by rw [eqv_str]; exact h⟩
mutual
theorem plain_mono : ∀ {d : D} {n n' : Nat}, n ≤ n' → D.plain n d = true → D.plain n' d = true
  | .non, n, n', _, _ => by cases n' <;> rfl
  | .bl _, n, n', _, _ => by cases n' <;> rfl
  | .int _, n, n', _, _ => by cases n' <;> rfl
  | .str s, n, n', _, h => by cases n <;> cases n' <;> exact h
  | .tup ds, 0, n', _, h => by cases h
  | .tup ds, n + 1, 0, h, _ => by omega
  | .tup ds, n + 1, n' + 1, h, p => plains_mono (ds := ds) (n := n) (n' := n') (by omega) p
  | .rol ds, 0, n', _, h => by cases h
  | .rol ds, n + 1, 0, h, _ => by omega
  | .rol ds, n + 1, n' + 1, h, p => plains_mono (ds := ds) (n := n) (n' := n') (by omega) p
  | .ktup ds, 0, n', _, h => by cases h
  | .ktup ds, n + 1, 0, h, _ => by omega
  | .ktup ds, n + 1, n' + 1, h, p => plains_mono (ds := ds) (n := n) (n' := n') (by omega) p
  | .ref _, n, n', _, h => by cases n <;> cases h
  | .rod _ _ _, n, n', _, h => by cases n <;> cases h
  | .exc _ _ _, n, n', _, h => by cases n <;> cases h
  | .scr _, n, n', _, h => by cases n <;> cases h
theorem plains_mono : ∀ {ds : List D} {n n' : Nat}, n ≤ n' → D.plains n ds = true → D.plains n' ds = true
  | [], n, n', _, _ => by cases n' <;> rfl
  | d :: ds, n, n', h, p => by
    have p : (D.plain n d && D.plains n ds) = true := by cases n <;> exact p
    rw [Bool.and_eq_true] at p
    have : (D.plain n' d && D.plains n' ds) = true := by rw [plain_mono h p.1, plains_mono h p.2]; rfl
    cases n' <;> exact this
end
theorem e_plain (hx : D.plain 60 x = true) (hy : D.plain 60 y = true) (h : kb (D.eqv x y)) : rEq x y m kb := .inl ⟨plain_mono (by decide) hx, plain_mono (by decide) hy, h⟩
theorem e_plain2 (hx : D.plain 62 x = true) (hy : D.plain 62 y = true) (h : kb (D.eqv x y)) : rEq x y m kb := .inl ⟨plain_mono (by decide) hx, plain_mono (by decide) hy, h⟩
theorem e_deep (hx : D.plain 90 x = true) (hy : D.plain 90 y = true) (h : kb (D.eqv x y)) : rEq x y m kb := .inl ⟨hx, hy, h⟩
theorem n_plain (hx : D.plain 60 x = true) (hy : D.plain 60 y = true) (h : kb (D.eqv x y)) : rNe x y m kb := .inl ⟨plain_mono (by decide) hx, plain_mono (by decide) hy, h⟩
theorem n_deep (hx : D.plain 90 x = true) (hy : D.plain 90 y = true) (h : kb (D.eqv x y)) : rNe x y m kb := .inl ⟨hx, hy, h⟩
theorem t_bl : rTru (.bl p) m kb = kb p := rfl
theorem t_int : rTru (.int i) m kb = kb (i != 0) := rfl
theorem t_non : rTru .non m kb = kb false := rfl
theorem t_tup : rTru (.tup ds) m kb = kb (!ds.isEmpty) := rfl
theorem t_rol : rTru (.rol ds) m kb = kb (!ds.isEmpty) := rfl
theorem t_ktup : rTru (.ktup ds) m kb = kb (!ds.isEmpty) := rfl
theorem t_str : rTru (.str s) m kb = (s.length ≤ big ∧ kb (!s.isEmpty)) := rfl
theorem t_lst (h : m a = some (.lst ds)) : rTru (.ref a) m kb = kb (!ds.isEmpty) := by
  show (match m a with
        | some (.lst ds) => kb (!ds.isEmpty)
        | some (.dK kvs) => kb (!kvs.isEmpty)
        | _ => False) = _
  rw [h]
theorem i_tup : rIx (.tup ds) (.int i) m k = ∃ d, atI ds i = some d ∧ k d m := rfl
theorem i_rol : rIx (.rol ds) (.int i) m k = ∃ d, atI ds i = some d ∧ k d m := rfl
theorem i_ktup : rIx (.ktup ds) (.int i) m k = ∃ d, atI ds i = some d ∧ k d m := rfl
theorem i_scr {ns : List Int} : rIx (.scr ns) (.int i) m k = ∃ d, atI (ns.map D.int) i = some d ∧ k d m := rfl
theorem i_str : rIx (.str s) (.int i) m k = (s.length ≤ big ∧ ∃ c, atI s i = some c ∧ k (.str [c]) m) := rfl
theorem i_lst (h : m a = some (.lst ds)) : rIx (.ref a) (.int i) m k = ∃ d, atI ds i = some d ∧ k d m := by
  show (match m a, D.int i with
      | some (.lst ds), .int i => ∃ d, atI ds i = some d ∧ k d m
      | some (.dK kvs), i => keyK i = true ∧ ∃ d, getKey kvs i = some d ∧ k d m
      | some (.dT kvs), i => keyT i = true ∧ ∃ d, getKey kvs i = some d ∧ k d m
      | _, _ => False) = _
  rw [h]
theorem i_dK {kvs : List (D × D)} (h : m a = some (.dK kvs)) : rIx (.ref a) x m k = (keyK x = true ∧ ∃ d, getKey kvs x = some d ∧ k d m) := by
  show (match m a, x with
      | some (.lst ds), .int i => ∃ d, atI ds i = some d ∧ k d m
      | some (.dK kvs), i => keyK i = true ∧ ∃ d, getKey kvs i = some d ∧ k d m
      | some (.dT kvs), i => keyT i = true ∧ ∃ d, getKey kvs i = some d ∧ k d m
      | _, _ => False) = _
  rw [h]
theorem i_dT {kvs : List (D × D)} (h : m a = some (.dT kvs)) : rIx (.ref a) x m k = (keyT x = true ∧ ∃ d, getKey kvs x = some d ∧ k d m) := by
  show (match m a, x with
      | some (.lst ds), .int i => ∃ d, atI ds i = some d ∧ k d m
      | some (.dK kvs), i => keyK i = true ∧ ∃ d, getKey kvs i = some d ∧ k d m
      | some (.dT kvs), i => keyT i = true ∧ ∃ d, getKey kvs i = some d ∧ k d m
      | _, _ => False) = _
  rw [h]
theorem s_lst {w : D} {km : Mem → Prop} (h : m a = some (.lst ds)) : rSet (.ref a) (.int i) w m km = ∃ j, dIx ds.length i = some j ∧ km (upd m a (.lst (ds.set j w))) := by
  show (match m a, D.int i with
      | some (.lst ds), .int i => ∃ j, dIx ds.length i = some j ∧ km (upd m a (.lst (ds.set j w)))
      | some (.dK kvs), i => keyK i = true ∧ kvs.length < big ∧ km (upd m a (.dK (putKey kvs i w)))
      | some (.dT kvs), i => keyT i = true ∧ kvs.length < big ∧ km (upd m a (.dT (putKey kvs i w)))
      | _, _ => False) = _
  rw [h]
theorem s_dK {w : D} {km : Mem → Prop} {kvs : List (D × D)} (h : m a = some (.dK kvs)) : rSet (.ref a) x w m km = (keyK x = true ∧ kvs.length < big ∧ km (upd m a (.dK (putKey kvs x w)))) := by
  show (match m a, x with
      | some (.lst ds), .int i => ∃ j, dIx ds.length i = some j ∧ km (upd m a (.lst (ds.set j w)))
      | some (.dK kvs), i => keyK i = true ∧ kvs.length < big ∧ km (upd m a (.dK (putKey kvs i w)))
      | some (.dT kvs), i => keyT i = true ∧ kvs.length < big ∧ km (upd m a (.dT (putKey kvs i w)))
      | _, _ => False) = _
  rw [h]
theorem l_tup : rBlt v .len [.tup ds] m k = k (.int ds.length) m := rfl
theorem l_ktup : rBlt v .len [.ktup ds] m k = k (.int ds.length) m := rfl
theorem l_rol : rBlt v .len [.rol ds] m k = k (.int ds.length) m := rfl
theorem l_scr {ns : List Int} : rBlt v .len [.scr ns] m k = k (.int (ns.map D.int).length) m := rfl
theorem l_str : rBlt v .len [.str s] m k = (s.length ≤ big ∧ k (.int s.length) m) := rfl
theorem l_lst (h : m a = some (.lst ds)) : rBlt v .len [.ref a] m k = k (.int ds.length) m := by
  show (match m a with
        | some (.lst ds) => k (.int ds.length) m
        | some (.dK kvs) => k (.int kvs.length) m
        | some (.dT kvs) => k (.int kvs.length) m
        | _ => False) = _
  rw [h]
theorem l_int0 : rBlt v .int [.bl p] m k = k (.int (if p then 1 else 0)) m := rfl
theorem l_int1 : rBlt v .int [.int i] m k = k (.int i) m := rfl
theorem l_str1 : rBlt v .str [.int i] m k = ((0 ≤ i ∧ i < 2 ^ 1900) ∧ k (.str (digN i.toNat)) m) := rfl
theorem l_str2 : rBlt v .str [.str s] m k = k (.str s) m := rfl
theorem l_max : rBlt v .max2 [.int i, .int j] m k = k (.int (if j > i then j else i)) m := rfl
theorem l_min : rBlt v .min2 [.int i, .int j] m k = k (.int (if j < i then j else i)) m := rfl
theorem l_list (h : seqOf m x = some ds) (hk : NewLv v m ds k) : rBlt v .list [x] m k := .inl ⟨ds, h, hk⟩
theorem l_tuple (h : lstOf m x = some ds) (hk : k (.tup ds) m) : rBlt v .tuple [x] m k := ⟨ds, .inl h, hk⟩
theorem l_dict {kvs : List (D × D)} (h : dicOf m x = some (false, kvs)) : rBlt v .dict [x] m k ↔ NewDv v m kvs k := by
  constructor
  · rintro ⟨l, e, h2⟩
    rw [h] at e
    cases e
    exact h2
  · exact fun hk => ⟨kvs, h, hk⟩
theorem l_all (h : lstOf m x = some ds) {bs : List Bool} (hb : allBl ds = some bs) (hk : k (.bl (bs.all id)) m) : rBlt v .all [x] m k := ⟨ds, bs, h, hb, hk⟩
theorem l_any (h : lstOf m x = some ds) {bs : List Bool} (hb : allBl ds = some bs) (hk : k (.bl (bs.any id)) m) : rBlt v .any [x] m k := ⟨ds, bs, h, hb, hk⟩
theorem l_sum (h : lstOf m x = some ds) {bs : List Int} (hb : allInt ds = some bs) (hk : k (.int bs.sum) m) : rBlt v .sum [x] m k := ⟨ds, bs, h, hb, hk⟩
theorem l_isI : rBlt v .isInt [x] m k = rIsT .isInt x m fun b => k (.bl b) m := rfl
theorem l_isB : rBlt v .isBool [x] m k = rIsT .isBool x m fun b => k (.bl b) m := rfl
theorem l_isS : rBlt v .isStr [x] m k = rIsT .isStr x m fun b => k (.bl b) m := rfl
theorem l_isL : rBlt v .isList [x] m k = rIsT .isList x m fun b => k (.bl b) m := rfl
theorem l_isT : rBlt v .isTuple [x] m k = rIsT .isTuple x m fun b => k (.bl b) m := rfl
theorem l_isD : rBlt v .isDict [x] m k = rIsT .isDict x m fun b => k (.bl b) m := rfl
theorem y_int {c : Blt} : rIsT c (.int i) m kb = isTy c .isInt kb := rfl
theorem y_bl {c : Blt} : rIsT c (.bl p) m kb = isTy c .isBool kb := rfl
theorem y_str {c : Blt} : rIsT c (.str s) m kb = isTy c .isStr kb := rfl
theorem y_tup {c : Blt} : rIsT c (.tup ds) m kb = isTy c .isTuple kb := rfl
theorem y_ktup {c : Blt} : rIsT c (.ktup ds) m kb = isTy c .isTuple kb := rfl
theorem y_rol {c : Blt} : rIsT c (.rol ds) m kb = isTy c .isList kb := rfl
theorem y_rod {c : Blt} {kvs : List (D × D)} : rIsT c (rodOf false kvs) m kb = isTy c .isDict kb := rfl
theorem y_non {c : Blt} : rIsT c .non m kb = isTy c .len kb := rfl
theorem y_lst {c : Blt} (h : m a = some (.lst ds)) : rIsT c (.ref a) m kb = isTy c .isList kb := by
  show (match m a with
    | some (.lst _) => isTy c .isList kb
    | some (.dK _) => isTy c .isDict kb
    | some (.dT _) => isTy c .isDict kb
    | _ => False) = _
  rw [h]
theorem m_app {w : D} (h : m a = some (.lst ds)) : rBm .append (.ref a) [w] m k = (ds.length < big ∧ k .non (upd m a (.lst (ds ++ [w])))) := by
  show (match m a with
    | some (.lst ds) => ds.length < big ∧ k .non (upd m a (.lst (ds ++ [w])))
    | _ => False) = _
  rw [h]
theorem m_ext (h : m a = some (.lst ds)) (h' : extOf m y = some es) : rBm .extend (.ref a) [y] m k ↔ (ds.length + es.length ≤ big ∧ k .non (upd m a (.lst (ds ++ es)))) := by
  constructor
  · rintro ⟨us, vs, h1, h2, h3⟩
    rw [h] at h1
    cases h1
    rw [h'] at h2
    cases h2
    exact h3
  · exact fun h3 => ⟨ds, es, h, h', h3⟩
theorem eo_r : extOf m (.rol ds) = some ds := rfl
theorem eo_t : extOf m (.tup ds) = some ds := rfl
theorem m_pop (h : m a = some (.lst ds)) : rBm .pop (.ref a) [] m k = ∃ d, ds[ds.length - 1]? = some d ∧ k d (upd m a (.lst ds.dropLast)) := by
  show (match m a with
    | some (.lst ds) => ∃ d, ds[ds.length - 1]? = some d ∧ k d (upd m a (.lst ds.dropLast))
    | _ => False) = _
  rw [h]
theorem m_clear {kvs : List (D × D)} (h : m a = some (.dK kvs)) : rBm .clear (.ref a) [] m k = k .non (upd m a (.dK [])) := by
  show (match m a with
    | some (.dK _) => k .non (upd m a (.dK []))
    | _ => False) = _
  rw [h]
theorem m_get2 {kvs : List (D × D)} {w : D} (h : dicOf m y = some (false, kvs)) : rBm .get2 y [x, w] m k = (keyK x = true ∧ k ((getKey kvs x).getD w) m) := by
  show (match dicOf m y with
    | some (false, kvs) => keyK x = true ∧ k ((getKey kvs x).getD w) m
    | some (true, kvs) => keyT x = true ∧ k ((getKey kvs x).getD w) m
    | none => False) = _
  rw [h]
theorem m_join {ss : List (List Nat)} (h : seqOf m x = some (ss.map D.str)) (hl : (ss.map List.length).sum + ss.length * s.length ≤ big) (hk : k (.str (joinS s ss)) m) : rBm .join (.str s) [x] m k := by
  refine ⟨_, ss, h, ?_, hl, hk⟩
  clear h hl hk
  induction ss with
  | nil => rfl
  | cons x r ih =>
    show (allStr (r.map D.str)).map (x :: ·) = _
    rw [ih]
    rfl
/-- methods that a list, a dict, a text has -/
theorem m_okL {c : Bm} (hc : c = .append ∨ c = .extend ∨ c = .pop) (h : m a = some (.lst ds)) : bmOk c (.ref a) m := by
  have : okLst (.ref a) m := by
    show (match m a with
      | some (.lst _) => True
      | _ => False)
    rw [h]
    trivial
  rcases hc with rfl | rfl | rfl <;> exact this
theorem m_okD {c : Bm} (hc : c = .get2 ∨ c = .clear) {kvs : List (D × D)} (h : m a = some (.dK kvs)) : bmOk c (.ref a) m := by
  have : okDic (.ref a) m := by
    show (match m a with
      | some (.dK _) => True
      | some (.dT _) => True
      | _ => False)
    rw [h]
    trivial
  rcases hc with rfl | rfl <;> exact this
theorem m_okR {kvs : List (D × D)} : bmOk .get2 (rodOf p kvs) m = True := rfl
theorem m_okJ : bmOk .join (.str s) m = True := rfl
theorem m_okX : bmOk .index (.str s) m = True := rfl
theorem m_okT : bmOk .split (.str s) m = True := rfl
theorem it_rol {kk : (Mem → Prop) → List D → Prop} : iter (.rol ds) m kk = kk gTrue ds := rfl
theorem it_tup {kk : (Mem → Prop) → List D → Prop} : iter (.tup ds) m kk = kk gTrue ds := rfl
theorem it_ktup {kk : (Mem → Prop) → List D → Prop} : iter (.ktup ds) m kk = kk gTrue ds := rfl
theorem it_scr {ns : List Int} {kk : (Mem → Prop) → List D → Prop} : iter (.scr ns) m kk = kk gTrue (ns.map .int) := rfl
theorem it_str {kk : (Mem → Prop) → List D → Prop} : iter (.str s) m kk = kk gTrue (s.map fun c => .str [c]) := rfl
theorem it_lst {kk : (Mem → Prop) → List D → Prop} (h : m a = some (.lst ds)) : iter (.ref a) m kk = kk (gLst a ds) ds := by
  show (match m a with
      | some (.lst ds) => kk (gLst a ds) ds
      | _ => False) = _
  rw [h]
theorem in_str {km : Bool → Prop} {c : Nat} : rIn (.str [c]) (.str t) m km ↔ km (decide (c ∈ t)) := ⟨fun ⟨_, e, h⟩ => by cases e; exact h, fun h => ⟨c, rfl, h⟩⟩
theorem in_seq (hy : ∀ t, y ≠ .str t) (h : seqOf m y = some ds) : rIn x y m kb ↔ (((D.flat x = true ∧ ds.all D.flat = true) ∨ (tupS y = none ∧ D.plain 50 x = true ∧ D.plains 50 ds = true)) ∧ kb (ds.any fun y => D.eqv y x)) := by
  unfold rIn
  split
  · rename_i t
    exact absurd rfl (hy t)
  · rename_i e
    rw [h]
theorem in_tup : rIn x (.tup ds) m kb = (((D.flat x = true ∧ ds.all D.flat = true) ∨ (tupS (.tup ds) = none ∧ D.plain 50 x = true ∧ D.plains 50 ds = true)) ∧ kb (ds.any fun y => D.eqv y x)) := rfl
theorem in_ktup : rIn x (.ktup ds) m kb = (((D.flat x = true ∧ ds.all D.flat = true) ∨ (tupS (.ktup ds) = none ∧ D.plain 50 x = true ∧ D.plains 50 ds = true)) ∧ kb (ds.any fun y => D.eqv y x)) := rfl
theorem in_rol : rIn x (.rol ds) m kb = (((D.flat x = true ∧ ds.all D.flat = true) ∨ (tupS (.rol ds) = none ∧ D.plain 50 x = true ∧ D.plains 50 ds = true)) ∧ kb (ds.any fun y => D.eqv y x)) := rfl
theorem w_v {l : List Nat} : (Γ.w l).v = true := rfl
theorem w_fn {l : List Nat} : (Γ.w l).fn = Γ.fn := rfl
theorem w_gl {l : List Nat} : (Γ.w l).gl = Γ.gl := rfl
theorem w_mt {l : List Nat} : (Γ.w l).mt = Γ.mt := rfl
theorem w_ini {l : List Nat} : (Γ.w l).ini = Γ.ini := rfl
theorem w_fk {l : List Nat} : (Γ.w l).fk = Γ.fk := rfl
theorem w_xc {l : List Nat} : (Γ.w l).xc = Γ.xc := rfl
theorem w_rz {l : List Nat} : (Γ.w l).rz = true := rfl
theorem w_ax {l : List Nat} : (Γ.w l).ax = Γ.w l := rfl
theorem w_atF {l : List Nat} {f : List Nat} : (Γ.w l).atF f = Γ.w l := by
  unfold En.atF
  exact if_neg (by intro h; cases h)
theorem w_at {l : List Nat} {i : Nat} : (Γ.w l).at i = if i ∈ l then (Γ.w l).tr else Γ.w l := rfl
theorem tr_v : (Γ.tr).v = false := rfl
theorem tr_fn : (Γ.tr).fn = Γ.fn := rfl
theorem tr_gl : (Γ.tr).gl = Γ.gl := rfl
theorem tr_mt : (Γ.tr).mt = Γ.mt := rfl
theorem tr_ini : (Γ.tr).ini = Γ.ini := rfl
theorem tr_xc : (Γ.tr).xc = Γ.xc := rfl
theorem tr_fk : (Γ.tr).fk = Γ.fk := rfl
/-- all tracked: new lists, what is given back stays so -/
def En.al (Γ : En) : En := { Γ with v := false, own := [], ownF := [], sx := false, rz := false }
theorem et_v : (Γ.al).v = false := rfl
theorem et_fn : (Γ.al).fn = Γ.fn := rfl
theorem et_gl : (Γ.al).gl = Γ.gl := rfl
theorem et_rz : (Γ.al).rz = false := rfl
theorem et_mt : (Γ.al).mt = Γ.mt := rfl
theorem et_ini : (Γ.al).ini = Γ.ini := rfl
theorem et_xc : (Γ.al).xc = Γ.xc := rfl
theorem et_fk : (Γ.al).fk = Γ.fk := rfl
theorem et_ax : (Γ.al).ax = Γ.al := rfl
theorem et_at {i : Nat} : (Γ.al).at i = Γ.al := if_neg (by intro h; cases h)
theorem et_atF {f : List Nat} : (Γ.al).atF f = Γ.al := if_neg (by intro h; cases h)
theorem fz_int : frz (.int i) m k = k (.int i) m := rfl
theorem fz_bl : frz (.bl p) m k = k (.bl p) m := rfl
theorem fz_str : frz (.str s) m k = k (.str s) m := rfl
theorem fz_non : frz .non m k = k .non m := rfl
theorem fz_tup : frz (.tup ds) m k = k (.tup ds) m := rfl
theorem fz_rol : frz (.rol ds) m k = k (.rol ds) m := rfl
theorem fz_lst (h : m a = some (.lst ds)) : frz (.ref a) m k = k (.rol ds) (del m a) := by
  show (match m a with
    | some (.lst ds) => k (.rol ds) (del m a)
    | some (.dK kvs) => k (rodOf false kvs) (del m a)
    | some (.dT kvs) => k (rodOf true kvs) (del m a)
    | _ => k (.ref a) m) = _
  rw [h]
theorem fz_dK {kvs : List (D × D)} (h : m a = some (.dK kvs)) : frz (.ref a) m k = k (rodOf false kvs) (del m a) := by
  show (match m a with
    | some (.lst ds) => k (.rol ds) (del m a)
    | some (.dK kvs) => k (rodOf false kvs) (del m a)
    | some (.dT kvs) => k (rodOf true kvs) (del m a)
    | _ => k (.ref a) m) = _
  rw [h]
end
theorem Sub.del {m m' : Mem} {a : Nat} (h : Sub m m') (ha : m a = none) : Sub m (del m' a) := fun x o e => by
  unfold DL.del
  rw [if_neg (ne_of_none e ha)]
  exact h x o e
theorem allBl_map {α : Type} (f : α → Bool) (l : List α) : allBl (l.map fun x => D.bl (f x)) = some (l.map f) := by
  induction l with
  | nil => rfl
  | cons x l ih =>
    show (allBl (l.map fun x => D.bl (f x))).map (f x :: ·) = _
    rw [ih]
    rfl
theorem tg_num_var : (([110, 117, 109] : List Nat) = [118, 97, 114]) = False := by decide
theorem tg_num_op : (([110, 117, 109] : List Nat) = [111, 112]) = False := by decide
theorem tg_var_num : (([118, 97, 114] : List Nat) = [110, 117, 109]) = False := by decide
theorem tg_var_op : (([118, 97, 114] : List Nat) = [111, 112]) = False := by decide
theorem tg_op_num : (([111, 112] : List Nat) = [110, 117, 109]) = False := by decide
theorem tg_op_var : (([111, 112] : List Nat) = [118, 97, 114]) = False := by decide
theorem tg_set_read : (([115, 101, 116] : List Nat) = [114, 101, 97, 100]) = False := by decide
theorem tg_set_write : (([115, 101, 116] : List Nat) = [119, 114, 105, 116, 101]) = False := by decide
theorem tg_set_call : (([115, 101, 116] : List Nat) = [99, 97, 108, 108]) = False := by decide
theorem tg_set_if : (([115, 101, 116] : List Nat) = [105, 102]) = False := by decide
theorem tg_set_while : (([115, 101, 116] : List Nat) = [119, 104, 105, 108, 101]) = False := by decide
theorem tg_set_give : (([115, 101, 116] : List Nat) = [103, 105, 118, 101]) = False := by decide
theorem tg_set_end : (([115, 101, 116] : List Nat) = [101, 110, 100]) = False := by decide
theorem tg_set_else : (([115, 101, 116] : List Nat) = [101, 108, 115, 101]) = False := by decide
theorem tg_set_def : (([115, 101, 116] : List Nat) = [100, 101, 102]) = False := by decide
theorem tg_read_set : (([114, 101, 97, 100] : List Nat) = [115, 101, 116]) = False := by decide
theorem tg_read_write : (([114, 101, 97, 100] : List Nat) = [119, 114, 105, 116, 101]) = False := by decide
theorem tg_read_call : (([114, 101, 97, 100] : List Nat) = [99, 97, 108, 108]) = False := by decide
theorem tg_read_if : (([114, 101, 97, 100] : List Nat) = [105, 102]) = False := by decide
theorem tg_read_while : (([114, 101, 97, 100] : List Nat) = [119, 104, 105, 108, 101]) = False := by decide
theorem tg_read_give : (([114, 101, 97, 100] : List Nat) = [103, 105, 118, 101]) = False := by decide
theorem tg_read_end : (([114, 101, 97, 100] : List Nat) = [101, 110, 100]) = False := by decide
theorem tg_read_else : (([114, 101, 97, 100] : List Nat) = [101, 108, 115, 101]) = False := by decide
theorem tg_read_def : (([114, 101, 97, 100] : List Nat) = [100, 101, 102]) = False := by decide
theorem tg_write_set : (([119, 114, 105, 116, 101] : List Nat) = [115, 101, 116]) = False := by decide
theorem tg_write_read : (([119, 114, 105, 116, 101] : List Nat) = [114, 101, 97, 100]) = False := by decide
theorem tg_write_call : (([119, 114, 105, 116, 101] : List Nat) = [99, 97, 108, 108]) = False := by decide
theorem tg_write_if : (([119, 114, 105, 116, 101] : List Nat) = [105, 102]) = False := by decide
theorem tg_write_while : (([119, 114, 105, 116, 101] : List Nat) = [119, 104, 105, 108, 101]) = False := by decide
theorem tg_write_give : (([119, 114, 105, 116, 101] : List Nat) = [103, 105, 118, 101]) = False := by decide
theorem tg_write_end : (([119, 114, 105, 116, 101] : List Nat) = [101, 110, 100]) = False := by decide
theorem tg_write_else : (([119, 114, 105, 116, 101] : List Nat) = [101, 108, 115, 101]) = False := by decide
theorem tg_write_def : (([119, 114, 105, 116, 101] : List Nat) = [100, 101, 102]) = False := by decide
theorem tg_call_set : (([99, 97, 108, 108] : List Nat) = [115, 101, 116]) = False := by decide
theorem tg_call_read : (([99, 97, 108, 108] : List Nat) = [114, 101, 97, 100]) = False := by decide
theorem tg_call_write : (([99, 97, 108, 108] : List Nat) = [119, 114, 105, 116, 101]) = False := by decide
theorem tg_call_if : (([99, 97, 108, 108] : List Nat) = [105, 102]) = False := by decide
theorem tg_call_while : (([99, 97, 108, 108] : List Nat) = [119, 104, 105, 108, 101]) = False := by decide
theorem tg_call_give : (([99, 97, 108, 108] : List Nat) = [103, 105, 118, 101]) = False := by decide
theorem tg_call_end : (([99, 97, 108, 108] : List Nat) = [101, 110, 100]) = False := by decide
theorem tg_call_else : (([99, 97, 108, 108] : List Nat) = [101, 108, 115, 101]) = False := by decide
theorem tg_call_def : (([99, 97, 108, 108] : List Nat) = [100, 101, 102]) = False := by decide
theorem tg_if_set : (([105, 102] : List Nat) = [115, 101, 116]) = False := by decide
theorem tg_if_read : (([105, 102] : List Nat) = [114, 101, 97, 100]) = False := by decide
theorem tg_if_write : (([105, 102] : List Nat) = [119, 114, 105, 116, 101]) = False := by decide
theorem tg_if_call : (([105, 102] : List Nat) = [99, 97, 108, 108]) = False := by decide
theorem tg_if_while : (([105, 102] : List Nat) = [119, 104, 105, 108, 101]) = False := by decide
theorem tg_if_give : (([105, 102] : List Nat) = [103, 105, 118, 101]) = False := by decide
theorem tg_if_end : (([105, 102] : List Nat) = [101, 110, 100]) = False := by decide
theorem tg_if_else : (([105, 102] : List Nat) = [101, 108, 115, 101]) = False := by decide
theorem tg_if_def : (([105, 102] : List Nat) = [100, 101, 102]) = False := by decide
theorem tg_while_set : (([119, 104, 105, 108, 101] : List Nat) = [115, 101, 116]) = False := by decide
theorem tg_while_read : (([119, 104, 105, 108, 101] : List Nat) = [114, 101, 97, 100]) = False := by decide
theorem tg_while_write : (([119, 104, 105, 108, 101] : List Nat) = [119, 114, 105, 116, 101]) = False := by decide
theorem tg_while_call : (([119, 104, 105, 108, 101] : List Nat) = [99, 97, 108, 108]) = False := by decide
theorem tg_while_if : (([119, 104, 105, 108, 101] : List Nat) = [105, 102]) = False := by decide
theorem tg_while_give : (([119, 104, 105, 108, 101] : List Nat) = [103, 105, 118, 101]) = False := by decide
theorem tg_while_end : (([119, 104, 105, 108, 101] : List Nat) = [101, 110, 100]) = False := by decide
theorem tg_while_else : (([119, 104, 105, 108, 101] : List Nat) = [101, 108, 115, 101]) = False := by decide
theorem tg_while_def : (([119, 104, 105, 108, 101] : List Nat) = [100, 101, 102]) = False := by decide
theorem tg_give_set : (([103, 105, 118, 101] : List Nat) = [115, 101, 116]) = False := by decide
theorem tg_give_read : (([103, 105, 118, 101] : List Nat) = [114, 101, 97, 100]) = False := by decide
theorem tg_give_write : (([103, 105, 118, 101] : List Nat) = [119, 114, 105, 116, 101]) = False := by decide
theorem tg_give_call : (([103, 105, 118, 101] : List Nat) = [99, 97, 108, 108]) = False := by decide
theorem tg_give_if : (([103, 105, 118, 101] : List Nat) = [105, 102]) = False := by decide
theorem tg_give_while : (([103, 105, 118, 101] : List Nat) = [119, 104, 105, 108, 101]) = False := by decide
theorem tg_give_end : (([103, 105, 118, 101] : List Nat) = [101, 110, 100]) = False := by decide
theorem tg_give_else : (([103, 105, 118, 101] : List Nat) = [101, 108, 115, 101]) = False := by decide
theorem tg_give_def : (([103, 105, 118, 101] : List Nat) = [100, 101, 102]) = False := by decide
theorem tg_end_set : (([101, 110, 100] : List Nat) = [115, 101, 116]) = False := by decide
theorem tg_end_read : (([101, 110, 100] : List Nat) = [114, 101, 97, 100]) = False := by decide
theorem tg_end_write : (([101, 110, 100] : List Nat) = [119, 114, 105, 116, 101]) = False := by decide
theorem tg_end_call : (([101, 110, 100] : List Nat) = [99, 97, 108, 108]) = False := by decide
theorem tg_end_if : (([101, 110, 100] : List Nat) = [105, 102]) = False := by decide
theorem tg_end_while : (([101, 110, 100] : List Nat) = [119, 104, 105, 108, 101]) = False := by decide
theorem tg_end_give : (([101, 110, 100] : List Nat) = [103, 105, 118, 101]) = False := by decide
theorem tg_end_else : (([101, 110, 100] : List Nat) = [101, 108, 115, 101]) = False := by decide
theorem tg_end_def : (([101, 110, 100] : List Nat) = [100, 101, 102]) = False := by decide
theorem tg_else_set : (([101, 108, 115, 101] : List Nat) = [115, 101, 116]) = False := by decide
theorem tg_else_read : (([101, 108, 115, 101] : List Nat) = [114, 101, 97, 100]) = False := by decide
theorem tg_else_write : (([101, 108, 115, 101] : List Nat) = [119, 114, 105, 116, 101]) = False := by decide
theorem tg_else_call : (([101, 108, 115, 101] : List Nat) = [99, 97, 108, 108]) = False := by decide
theorem tg_else_if : (([101, 108, 115, 101] : List Nat) = [105, 102]) = False := by decide
theorem tg_else_while : (([101, 108, 115, 101] : List Nat) = [119, 104, 105, 108, 101]) = False := by decide
theorem tg_else_give : (([101, 108, 115, 101] : List Nat) = [103, 105, 118, 101]) = False := by decide
theorem tg_else_end : (([101, 108, 115, 101] : List Nat) = [101, 110, 100]) = False := by decide
theorem tg_else_def : (([101, 108, 115, 101] : List Nat) = [100, 101, 102]) = False := by decide
theorem tg_def_set : (([100, 101, 102] : List Nat) = [115, 101, 116]) = False := by decide
theorem tg_def_read : (([100, 101, 102] : List Nat) = [114, 101, 97, 100]) = False := by decide
theorem tg_def_write : (([100, 101, 102] : List Nat) = [119, 114, 105, 116, 101]) = False := by decide
theorem tg_def_call : (([100, 101, 102] : List Nat) = [99, 97, 108, 108]) = False := by decide
theorem tg_def_if : (([100, 101, 102] : List Nat) = [105, 102]) = False := by decide
theorem tg_def_while : (([100, 101, 102] : List Nat) = [119, 104, 105, 108, 101]) = False := by decide
theorem tg_def_give : (([100, 101, 102] : List Nat) = [103, 105, 118, 101]) = False := by decide
theorem tg_def_end : (([100, 101, 102] : List Nat) = [101, 110, 100]) = False := by decide
theorem tg_def_else : (([100, 101, 102] : List Nat) = [101, 108, 115, 101]) = False := by decide
theorem na10 : Int.natAbs 10 = 10 := rfl
theorem na2 : Int.natAbs 2 = 2 := rfl
theorem atI_get {α : Type} {xs : List α} {i : Int} (h0 : 0 ≤ i) (h : i < xs.length) : atI xs i = xs[i.toNat]? := by
  unfold atI dIx
  rw [if_pos h0, if_pos h]
  rfl
theorem atI_nat {α : Type} {xs : List α} {i : Nat} (h : i < xs.length) : atI xs (i : Int) = some xs[i] := by
  rw [atI_get (by omega) (by omega), Int.toNat_natCast, List.getElem?_eq_getElem h]
theorem atI0 {α : Type} {x : α} {xs : List α} : atI (x :: xs) 0 = some x := by
  rw [atI_get (by decide) (by rw [List.length_cons]; omega)] <;> rfl
theorem atI1 {α : Type} {x y : α} {xs : List α} : atI (x :: y :: xs) 1 = some y := by
  rw [atI_get (by decide) (by simp; omega)] <;> rfl
theorem atI2 {α : Type} {x y z : α} {xs : List α} : atI (x :: y :: z :: xs) 2 = some z := by
  rw [atI_get (by decide) (by simp; omega)] <;> rfl
theorem atI3 {α : Type} {x y z w : α} {xs : List α} : atI (x :: y :: z :: w :: xs) 3 = some w := by
  rw [atI_get (by decide) (by simp; omega)] <;> rfl
theorem dSx0 {n d : Nat} : dSx n d none = d := rfl
theorem dSx1 {n d : Nat} {i : Int} (h : 0 ≤ i) : dSx n d (some i) = min i.toNat n := if_neg (by omega)
theorem cut_from {α : Type} {xs : List α} {i : Int} (h0 : 0 ≤ i) : cut xs (some i) none = xs.drop i.toNat := by
  unfold cut
  rw [dSx0, dSx1 h0]
  by_cases h : i.toNat ≤ xs.length
  · rw [Nat.min_eq_left h]
    exact List.take_of_length_le (by rw [List.length_drop]; exact Nat.le_refl _)
  · rw [Nat.min_eq_right (by omega), List.drop_of_length_le (Nat.le_refl _), List.drop_of_length_le (by omega)]
    simp
theorem cut_to {α : Type} {xs : List α} {i : Int} (h0 : 0 ≤ i) : cut xs none (some i) = xs.take i.toNat := by
  unfold cut
  rw [dSx0, dSx1 h0, List.drop_zero, Nat.sub_zero]
  by_cases h : i.toNat ≤ xs.length
  · rw [Nat.min_eq_left h]
  · rw [Nat.min_eq_right (by omega), List.take_of_length_le (Nat.le_refl _), List.take_of_length_le (by omega)]
end DL

namespace DL
def boxB : Sms := (.c (.set 2 (.bin .add (.bin .mul (.int 7919) (.var 1)) (.int 11)))
  (.c (.ite (.cmp .lt (.var 1) (.blt .len (.c (.var 0) .n))) (.c (.set 2 (.ix (.var 0) (.var 1)))
  .n) (.c (.ite (.cmp .gt (.blt .len (.c (.var 0) .n)) (.int 0)) (.c (.set 2 (.bin .add (.var 2) (.bin .mul (.bin .mod (.ix (.var 0) (.bin .mod (.var 1) (.blt .len (.c (.var 0) .n)))) (.int 2147483629)) (.int 69621))))
  .n) .n)
  .n))
  (.c (.set 3 (.bin .add (.bin .mod (.bin .add (.bin .mul (.bin .mod (.var 2) (.int 2147483629)) (.int 48271)) (.bin .mul (.int 40692) (.var 1))) (.int 2147483646)) (.int 1)))
  (.c (.ret (.lst (.c (.bin .mul (.var 2) (.blt .int (.c (.cmp .ge (.var 2) (.bin .pow (.int 10) (.int 18))) .n))) (.c (.var 3) .n))))
  .n))))
/-- a box: a number that is used up, a seed -/
def BoxO (b : MO) : Prop := ∃ a s : Int, b = .lst [.int a, .int s] ∧ 0 ≤ a ∧ 1 ≤ s ∧ s < 2 ^ 31
theorem atI_ints {ns : List Int} {i : Int} (h0 : 0 ≤ i) (h : i < ns.length) : ∃ z, atI (ns.map D.int) i = some (.int z) := by
  unfold atI dIx
  rw [if_pos h0, List.length_map, if_pos h]
  have : i.toNat < ns.length := by omega
  exact ⟨ns[i.toNat], by simp [this]⟩
theorem p18 : (10 : Int) ^ Int.toNat 18 = 1000000000000000000 := rfl
theorem p9 : (10 : Int) ^ Int.toNat 9 = 1000000000 := rfl
theorem box_cell {z : Int} : 0 ≤ z * (if 1000000000000000000 ≤ z then 1 else 0) := by
  split <;> omega
abbrev spBox : Sp := fun ds m k _ => ∃ (ns : List Int) (i : Int), ds = [.scr ns, .int i] ∧ 0 ≤ i ∧ i < 2 ^ 62 ∧ ∀ b, BoxO b → New m b k
theorem kp_box {Γ : En} : Keeps Γ.al 4 boxB spBox := by
  rintro ds m k X ⟨ns, i, rfl, h0, h1, hk'⟩
  have hk : ∀ p a s, m p = none → 0 ≤ a → 1 ≤ s → s < 2 ^ 31 → k (.ref p) (upd m p (.lst [.int a, .int s])) := fun p a s hp h2 h3 h4 => hk' _ ⟨a, s, rfl, h2, h3, h4⟩ p hp
  show rSs Γ.al boxB _ [some _, some _, none, none] m
  simp only [boxB, rSs, rS, rE, rEs, rT, rP, rSrc, rTg, rCh, sget0, sgetS, sset0, ssetS, sw0, swS, swN, swC, b_add, b_sub, b_mul, b_fdiv, b_mod, b_pow, b_adds, b_addt, b_muls, c_lt, c_le, c_gt, c_ge, c_eq0, c_ne0, c_in0, c_ni0, c_is0, c_isn0, e_int, e_bl, t_bl, t_int, t_non, t_tup, t_rol, t_ktup, t_str, i_tup, i_rol, i_ktup, i_str, l_tup, l_ktup, l_rol, l_str, l_int0, l_int1, l_str1, l_max, l_min, sl_tup, sl_rol, sl_str, y_int, y_bl, y_str, y_tup, y_ktup, y_non, it_rol, it_tup, it_ktup, it_str, decide_eq_true_eq, decide_eq_false_iff_not, reduceCtorEq, false_implies, true_implies, forall_const, and_true, true_and, List.length_map, l_isI, l_isB, l_isS, l_isL, l_isT, l_isD, isTy, decide_true, decide_false, Bool.or_false, Bool.false_or, Bool.true_or, Bool.or_true, Bool.not_true, Bool.not_false, Bool.false_eq_true, Bool.true_eq_false, Bool.not_eq_true', Bool.not_eq_false', ne_eq, not_true_eq_false, not_false_eq_true, D.int.injEq, D.str.injEq, Option.some.injEq, exists_eq_left', exists_eq_left, rTgs, tgsLen, nv_t, nv_f, nd_t, nd_f, lo_r, so_r, so_t, so_k, so_s, un_t, un_k, un_r, do_r, b_addrr, n_int, n_bl, sl_scr, i_scr, l_scr, l_str2, y_rol, y_rod, eo_r, eo_t, m_okR, m_okJ, m_okX, m_okT, it_scr, w_v, w_fn, w_gl, w_mt, w_ini, w_fk, w_rz, w_ax, w_atF, w_at, tr_v, tr_fn, tr_gl, tr_mt, tr_ini, tr_fk, et_v, et_fn, et_gl, et_rz, et_mt, et_ini, et_fk, et_ax, et_at, et_atF, fz_int, fz_bl, fz_str, fz_non, fz_tup, fz_rol, if_true, ite_true, ite_false, List.length_cons, List.length_nil, List.mem_cons, List.not_mem_nil, or_false, or_true, Nat.reduceEqDiff, Nat.reduceAdd, if_false, reduceIte, Nat.reduceLeDiff, Int.reduceToNat, Int.reduceNeg, Nat.succ_ne_self, Nat.reduceBEq, Int.reduceLE, Int.reduceLT, Int.reducePow, Int.reduceAdd, Int.reduceSub, Int.reduceMul, Int.reduceEq, Int.reduceDiv, Int.reduceMod, Nat.reducePow, Nat.reduceLT, Nat.reduceSub, Nat.reduceMul, and_self, true_or, na10, na2, tg_num_var, tg_num_op, tg_var_num, tg_var_op, tg_op_num, tg_op_var, tg_set_read, tg_set_write, tg_set_call, tg_set_if, tg_set_while, tg_set_give, tg_set_end, tg_set_else, tg_set_def, tg_read_set, tg_read_write, tg_read_call, tg_read_if, tg_read_while, tg_read_give, tg_read_end, tg_read_else, tg_read_def, tg_write_set, tg_write_read, tg_write_call, tg_write_if, tg_write_while, tg_write_give, tg_write_end, tg_write_else, tg_write_def, tg_call_set, tg_call_read, tg_call_write, tg_call_if, tg_call_while, tg_call_give, tg_call_end, tg_call_else, tg_call_def, tg_if_set, tg_if_read, tg_if_write, tg_if_call, tg_if_while, tg_if_give, tg_if_end, tg_if_else, tg_if_def, tg_while_set, tg_while_read, tg_while_write, tg_while_call, tg_while_if, tg_while_give, tg_while_end, tg_while_else, tg_while_def, tg_give_set, tg_give_read, tg_give_write, tg_give_call, tg_give_if, tg_give_while, tg_give_end, tg_give_else, tg_give_def, tg_end_set, tg_end_read, tg_end_write, tg_end_call, tg_end_if, tg_end_while, tg_end_give, tg_end_else, tg_end_def, tg_else_set, tg_else_read, tg_else_write, tg_else_call, tg_else_if, tg_else_while, tg_else_give, tg_else_end, tg_else_def, tg_def_set, tg_def_read, tg_def_write, tg_def_call, tg_def_if, tg_def_while, tg_def_give, tg_def_end, tg_def_else, rGh, rHd, w_xc, tr_xc, et_xc, exF0, exF1, exF2, exF3, exF4, exF5, exF6, exF7, exF8, zipN, List.zip_cons_cons, excD, excSub, List.map_cons, List.map_nil, isX_exc, isX_non, isX_tup, isX_rol, isX_str, isX_int, isX_bl, List.any_cons, List.any_nil]
  have one : ∀ z : Int, (-2 ^ 64 < z ∧ z < 2 ^ 64 ∨ -2 ^ 64 < (if (1000000000000000000 : Int) ≤ z then (1 : Int) else 0) ∧ (if (1000000000000000000 : Int) ≤ z then (1 : Int) else 0) < 2 ^ 64) := fun z => .inr (by split <;> decide)
  have fin : ∀ z s : Int, ∀ p, m p = none → ∃ m2, Sub m2 (upd m p (.lst [.int (z * if 1000000000000000000 ≤ z then 1 else 0), .int (s % 2147483646 + 1)])) ∧ k (.ref p) m2 := fun z s p hp =>
    ⟨_, Sub.refl _, hk p _ _ hp box_cell (by omega) (by omega)⟩
  refine ⟨fun h => ?_, fun h => ⟨fun h2 => ⟨h2, ?_⟩, fun h2 => ?_⟩⟩
  · obtain ⟨z, hz⟩ := atI_ints h0 h
    refine ⟨_, hz, ?_⟩
    simp only [rSs, rS, rE, rEs, rT, rP, rSrc, rTg, rCh, sget0, sgetS, sset0, ssetS, sw0, swS, swN, swC, b_add, b_sub, b_mul, b_fdiv, b_mod, b_pow, b_adds, b_addt, b_muls, c_lt, c_le, c_gt, c_ge, c_eq0, c_ne0, c_in0, c_ni0, c_is0, c_isn0, e_int, e_bl, t_bl, t_int, t_non, t_tup, t_rol, t_ktup, t_str, i_tup, i_rol, i_ktup, i_str, l_tup, l_ktup, l_rol, l_str, l_int0, l_int1, l_str1, l_max, l_min, sl_tup, sl_rol, sl_str, y_int, y_bl, y_str, y_tup, y_ktup, y_non, it_rol, it_tup, it_ktup, it_str, decide_eq_true_eq, decide_eq_false_iff_not, reduceCtorEq, false_implies, true_implies, forall_const, and_true, true_and, List.length_map, l_isI, l_isB, l_isS, l_isL, l_isT, l_isD, isTy, decide_true, decide_false, Bool.or_false, Bool.false_or, Bool.true_or, Bool.or_true, Bool.not_true, Bool.not_false, Bool.false_eq_true, Bool.true_eq_false, Bool.not_eq_true', Bool.not_eq_false', ne_eq, not_true_eq_false, not_false_eq_true, D.int.injEq, D.str.injEq, Option.some.injEq, exists_eq_left', exists_eq_left, rTgs, tgsLen, nv_t, nv_f, nd_t, nd_f, lo_r, so_r, so_t, so_k, so_s, un_t, un_k, un_r, do_r, b_addrr, n_int, n_bl, sl_scr, i_scr, l_scr, l_str2, y_rol, y_rod, eo_r, eo_t, m_okR, m_okJ, m_okX, m_okT, it_scr, w_v, w_fn, w_gl, w_mt, w_ini, w_fk, w_rz, w_ax, w_atF, w_at, tr_v, tr_fn, tr_gl, tr_mt, tr_ini, tr_fk, et_v, et_fn, et_gl, et_rz, et_mt, et_ini, et_fk, et_ax, et_at, et_atF, fz_int, fz_bl, fz_str, fz_non, fz_tup, fz_rol, if_true, ite_true, ite_false, List.length_cons, List.length_nil, List.mem_cons, List.not_mem_nil, or_false, or_true, Nat.reduceEqDiff, Nat.reduceAdd, if_false, reduceIte, Nat.reduceLeDiff, Int.reduceToNat, Int.reduceNeg, Nat.succ_ne_self, Nat.reduceBEq, Int.reduceLE, Int.reduceLT, Int.reducePow, Int.reduceAdd, Int.reduceSub, Int.reduceMul, Int.reduceEq, Int.reduceDiv, Int.reduceMod, Nat.reducePow, Nat.reduceLT, Nat.reduceSub, Nat.reduceMul, and_self, true_or, na10, na2, tg_num_var, tg_num_op, tg_var_num, tg_var_op, tg_op_num, tg_op_var, tg_set_read, tg_set_write, tg_set_call, tg_set_if, tg_set_while, tg_set_give, tg_set_end, tg_set_else, tg_set_def, tg_read_set, tg_read_write, tg_read_call, tg_read_if, tg_read_while, tg_read_give, tg_read_end, tg_read_else, tg_read_def, tg_write_set, tg_write_read, tg_write_call, tg_write_if, tg_write_while, tg_write_give, tg_write_end, tg_write_else, tg_write_def, tg_call_set, tg_call_read, tg_call_write, tg_call_if, tg_call_while, tg_call_give, tg_call_end, tg_call_else, tg_call_def, tg_if_set, tg_if_read, tg_if_write, tg_if_call, tg_if_while, tg_if_give, tg_if_end, tg_if_else, tg_if_def, tg_while_set, tg_while_read, tg_while_write, tg_while_call, tg_while_if, tg_while_give, tg_while_end, tg_while_else, tg_while_def, tg_give_set, tg_give_read, tg_give_write, tg_give_call, tg_give_if, tg_give_while, tg_give_end, tg_give_else, tg_give_def, tg_end_set, tg_end_read, tg_end_write, tg_end_call, tg_end_if, tg_end_while, tg_end_give, tg_end_else, tg_end_def, tg_else_set, tg_else_read, tg_else_write, tg_else_call, tg_else_if, tg_else_while, tg_else_give, tg_else_end, tg_else_def, tg_def_set, tg_def_read, tg_def_write, tg_def_call, tg_def_if, tg_def_while, tg_def_give, tg_def_end, tg_def_else, rGh, rHd, w_xc, tr_xc, et_xc, exF0, exF1, exF2, exF3, exF4, exF5, exF6, exF7, exF8, zipN, List.zip_cons_cons, excD, excSub, List.map_cons, List.map_nil, isX_exc, isX_non, isX_tup, isX_rol, isX_str, isX_int, isX_bl, List.any_cons, List.any_nil]
    exact ⟨one z, fin z _⟩
  · obtain ⟨z, hz⟩ := atI_ints (ns := ns) (Int.emod_nonneg i (show (ns.length : Int) ≠ 0 by omega)) (Int.emod_lt_of_pos i h2)
    refine ⟨_, hz, ?_⟩
    simp only [rSs, rS, rE, rEs, rT, rP, rSrc, rTg, rCh, sget0, sgetS, sset0, ssetS, sw0, swS, swN, swC, b_add, b_sub, b_mul, b_fdiv, b_mod, b_pow, b_adds, b_addt, b_muls, c_lt, c_le, c_gt, c_ge, c_eq0, c_ne0, c_in0, c_ni0, c_is0, c_isn0, e_int, e_bl, t_bl, t_int, t_non, t_tup, t_rol, t_ktup, t_str, i_tup, i_rol, i_ktup, i_str, l_tup, l_ktup, l_rol, l_str, l_int0, l_int1, l_str1, l_max, l_min, sl_tup, sl_rol, sl_str, y_int, y_bl, y_str, y_tup, y_ktup, y_non, it_rol, it_tup, it_ktup, it_str, decide_eq_true_eq, decide_eq_false_iff_not, reduceCtorEq, false_implies, true_implies, forall_const, and_true, true_and, List.length_map, l_isI, l_isB, l_isS, l_isL, l_isT, l_isD, isTy, decide_true, decide_false, Bool.or_false, Bool.false_or, Bool.true_or, Bool.or_true, Bool.not_true, Bool.not_false, Bool.false_eq_true, Bool.true_eq_false, Bool.not_eq_true', Bool.not_eq_false', ne_eq, not_true_eq_false, not_false_eq_true, D.int.injEq, D.str.injEq, Option.some.injEq, exists_eq_left', exists_eq_left, rTgs, tgsLen, nv_t, nv_f, nd_t, nd_f, lo_r, so_r, so_t, so_k, so_s, un_t, un_k, un_r, do_r, b_addrr, n_int, n_bl, sl_scr, i_scr, l_scr, l_str2, y_rol, y_rod, eo_r, eo_t, m_okR, m_okJ, m_okX, m_okT, it_scr, w_v, w_fn, w_gl, w_mt, w_ini, w_fk, w_rz, w_ax, w_atF, w_at, tr_v, tr_fn, tr_gl, tr_mt, tr_ini, tr_fk, et_v, et_fn, et_gl, et_rz, et_mt, et_ini, et_fk, et_ax, et_at, et_atF, fz_int, fz_bl, fz_str, fz_non, fz_tup, fz_rol, if_true, ite_true, ite_false, List.length_cons, List.length_nil, List.mem_cons, List.not_mem_nil, or_false, or_true, Nat.reduceEqDiff, Nat.reduceAdd, if_false, reduceIte, Nat.reduceLeDiff, Int.reduceToNat, Int.reduceNeg, Nat.succ_ne_self, Nat.reduceBEq, Int.reduceLE, Int.reduceLT, Int.reducePow, Int.reduceAdd, Int.reduceSub, Int.reduceMul, Int.reduceEq, Int.reduceDiv, Int.reduceMod, Nat.reducePow, Nat.reduceLT, Nat.reduceSub, Nat.reduceMul, and_self, true_or, na10, na2, tg_num_var, tg_num_op, tg_var_num, tg_var_op, tg_op_num, tg_op_var, tg_set_read, tg_set_write, tg_set_call, tg_set_if, tg_set_while, tg_set_give, tg_set_end, tg_set_else, tg_set_def, tg_read_set, tg_read_write, tg_read_call, tg_read_if, tg_read_while, tg_read_give, tg_read_end, tg_read_else, tg_read_def, tg_write_set, tg_write_read, tg_write_call, tg_write_if, tg_write_while, tg_write_give, tg_write_end, tg_write_else, tg_write_def, tg_call_set, tg_call_read, tg_call_write, tg_call_if, tg_call_while, tg_call_give, tg_call_end, tg_call_else, tg_call_def, tg_if_set, tg_if_read, tg_if_write, tg_if_call, tg_if_while, tg_if_give, tg_if_end, tg_if_else, tg_if_def, tg_while_set, tg_while_read, tg_while_write, tg_while_call, tg_while_if, tg_while_give, tg_while_end, tg_while_else, tg_while_def, tg_give_set, tg_give_read, tg_give_write, tg_give_call, tg_give_if, tg_give_while, tg_give_end, tg_give_else, tg_give_def, tg_end_set, tg_end_read, tg_end_write, tg_end_call, tg_end_if, tg_end_while, tg_end_give, tg_end_else, tg_end_def, tg_else_set, tg_else_read, tg_else_write, tg_else_call, tg_else_if, tg_else_while, tg_else_give, tg_else_end, tg_else_def, tg_def_set, tg_def_read, tg_def_write, tg_def_call, tg_def_if, tg_def_while, tg_def_give, tg_def_end, tg_def_else, rGh, rHd, w_xc, tr_xc, et_xc, exF0, exF1, exF2, exF3, exF4, exF5, exF6, exF7, exF8, zipN, List.zip_cons_cons, excD, excSub, List.map_cons, List.map_nil, isX_exc, isX_non, isX_tup, isX_rol, isX_str, isX_int, isX_bl, List.any_cons, List.any_nil]
    exact ⟨one _, fin _ _⟩
  · exact ⟨one _, fin _ _⟩
def takeB : Sms := (.c (.ite (.cmp .gt (.ix (.var 0) (.int 0)) (.int 0)) (.c (.set 4 (.bin .mod (.ix (.var 0) (.int 0)) (.var 1)))
  (.c (.setIx (.var 0) (.int 0) (.bin .fdiv (.ix (.var 0) (.int 0)) (.var 1)))
  (.c (.ret (.var 4))
  .n))) .n)
  (.c (.set 2 (.bin .mod (.bin .mul (.ix (.var 0) (.int 1)) (.int 69621)) (.int 2147483647)))
  (.c (.setIx (.var 0) (.int 1) (.bin .add (.bin .mod (.bin .add (.bin .mul (.var 2) (.int 48271)) (.int 30103)) (.int 2147483646)) (.int 1)))
  (.c (.set 3 (.bin .fdiv (.bin .add (.bin .mul (.var 2) (.int 2147483647)) (.ix (.var 0) (.int 1))) (.int 8191)))
  (.c (.ite (.cmp .gt (.var 1) (.bin .pow (.int 10) (.int 9))) (.c (.set 3 (.bin .mul (.var 3) (.var 3)))
  .n) .n)
  (.c (.ret (.bin .mod (.var 3) (.var 1)))
  .n))))))
abbrev spTake : Sp := fun ds m k _ => ∃ (p : Nat) (b : MO) (w : Int), ds = [.ref p, .int w] ∧ m p = some b ∧ BoxO b ∧ 0 < w ∧ w < 2 ^ 200 ∧ ∀ b' d, BoxO b' → 0 ≤ d → d < w → k (.int d) (upd m p b')
theorem kp_take {Γ : En} : Keeps (Γ.w []) 5 takeB spTake := by
  rintro ds m k X ⟨p, b, w, rfl, hm, ⟨a, s, rfl, h0, h1, h2⟩, h3, h4, hk'⟩
  have hk : ∀ a' s' d, 0 ≤ a' → 1 ≤ s' → s' < 2 ^ 31 → 0 ≤ d → d < w → k (.int d) (upd m p (.lst [.int a', .int s'])) := fun a' s' d h5 h6 h7 h8 h9 => hk' _ d ⟨a', s', rfl, h5, h6, h7⟩ h8 h9
  show rSs (Γ.w []) takeB _ [some _, some _, none, none, none] m
  simp only [takeB, rSs, rS, rE, rEs, rT, rP, rSrc, rTg, rCh, sget0, sgetS, sset0, ssetS, sw0, swS, swN, swC, b_add, b_sub, b_mul, b_fdiv, b_mod, b_pow, b_adds, b_addt, b_muls, c_lt, c_le, c_gt, c_ge, c_eq0, c_ne0, c_in0, c_ni0, c_is0, c_isn0, e_int, e_bl, t_bl, t_int, t_non, t_tup, t_rol, t_ktup, t_str, i_tup, i_rol, i_ktup, i_str, l_tup, l_ktup, l_rol, l_str, l_int0, l_int1, l_str1, l_max, l_min, sl_tup, sl_rol, sl_str, y_int, y_bl, y_str, y_tup, y_ktup, y_non, it_rol, it_tup, it_ktup, it_str, decide_eq_true_eq, decide_eq_false_iff_not, reduceCtorEq, false_implies, true_implies, forall_const, and_true, true_and, List.length_map, l_isI, l_isB, l_isS, l_isL, l_isT, l_isD, isTy, decide_true, decide_false, Bool.or_false, Bool.false_or, Bool.true_or, Bool.or_true, Bool.not_true, Bool.not_false, Bool.false_eq_true, Bool.true_eq_false, Bool.not_eq_true', Bool.not_eq_false', ne_eq, not_true_eq_false, not_false_eq_true, D.int.injEq, D.str.injEq, Option.some.injEq, exists_eq_left', exists_eq_left, rTgs, tgsLen, nv_t, nv_f, nd_t, nd_f, lo_r, so_r, so_t, so_k, so_s, un_t, un_k, un_r, do_r, b_addrr, n_int, n_bl, sl_scr, i_scr, l_scr, l_str2, y_rol, y_rod, eo_r, eo_t, m_okR, m_okJ, m_okX, m_okT, it_scr, w_v, w_fn, w_gl, w_mt, w_ini, w_fk, w_rz, w_ax, w_atF, w_at, tr_v, tr_fn, tr_gl, tr_mt, tr_ini, tr_fk, et_v, et_fn, et_gl, et_rz, et_mt, et_ini, et_fk, et_ax, et_at, et_atF, fz_int, fz_bl, fz_str, fz_non, fz_tup, fz_rol, if_true, ite_true, ite_false, List.length_cons, List.length_nil, List.mem_cons, List.not_mem_nil, or_false, or_true, Nat.reduceEqDiff, Nat.reduceAdd, if_false, reduceIte, Nat.reduceLeDiff, Int.reduceToNat, Int.reduceNeg, Nat.succ_ne_self, Nat.reduceBEq, Int.reduceLE, Int.reduceLT, Int.reducePow, Int.reduceAdd, Int.reduceSub, Int.reduceMul, Int.reduceEq, Int.reduceDiv, Int.reduceMod, Nat.reducePow, Nat.reduceLT, Nat.reduceSub, Nat.reduceMul, and_self, true_or, na10, na2, tg_num_var, tg_num_op, tg_var_num, tg_var_op, tg_op_num, tg_op_var, tg_set_read, tg_set_write, tg_set_call, tg_set_if, tg_set_while, tg_set_give, tg_set_end, tg_set_else, tg_set_def, tg_read_set, tg_read_write, tg_read_call, tg_read_if, tg_read_while, tg_read_give, tg_read_end, tg_read_else, tg_read_def, tg_write_set, tg_write_read, tg_write_call, tg_write_if, tg_write_while, tg_write_give, tg_write_end, tg_write_else, tg_write_def, tg_call_set, tg_call_read, tg_call_write, tg_call_if, tg_call_while, tg_call_give, tg_call_end, tg_call_else, tg_call_def, tg_if_set, tg_if_read, tg_if_write, tg_if_call, tg_if_while, tg_if_give, tg_if_end, tg_if_else, tg_if_def, tg_while_set, tg_while_read, tg_while_write, tg_while_call, tg_while_if, tg_while_give, tg_while_end, tg_while_else, tg_while_def, tg_give_set, tg_give_read, tg_give_write, tg_give_call, tg_give_if, tg_give_while, tg_give_end, tg_give_else, tg_give_def, tg_end_set, tg_end_read, tg_end_write, tg_end_call, tg_end_if, tg_end_while, tg_end_give, tg_end_else, tg_end_def, tg_else_set, tg_else_read, tg_else_write, tg_else_call, tg_else_if, tg_else_while, tg_else_give, tg_else_end, tg_else_def, tg_def_set, tg_def_read, tg_def_write, tg_def_call, tg_def_if, tg_def_while, tg_def_give, tg_def_end, tg_def_else, rGh, rHd, w_xc, tr_xc, et_xc, exF0, exF1, exF2, exF3, exF4, exF5, exF6, exF7, exF8, zipN, List.zip_cons_cons, excD, excSub, List.map_cons, List.map_nil, isX_exc, isX_non, isX_tup, isX_rol, isX_str, isX_int, isX_bl, List.any_cons, List.any_nil, i_lst hm, s_lst hm, atI0, atI1, Option.some.injEq, exists_eq_left', p9]
  refine ⟨fun ha => ⟨h3, ⟨h3, h4⟩, 0, rfl, _, Sub.refl _, ?_⟩, fun ha => ⟨1, rfl, ?_⟩⟩
  · exact hk (a / w) s (a % w) (Int.ediv_nonneg h0 (by omega)) h1 h2 (Int.emod_nonneg _ (by omega)) (Int.emod_lt_of_pos _ h3)
  · have g0 : 0 ≤ s * 69621 % 2147483647 := by omega
    have g1 : s * 69621 % 2147483647 < 2147483647 := by omega
    generalize s * 69621 % 2147483647 = u at g0 g1 ⊢
    have g2 : 1 ≤ (u * 48271 + 30103) % 2147483646 + 1 := by omega
    have g3 : (u * 48271 + 30103) % 2147483646 + 1 < 2 ^ 31 := by omega
    generalize (u * 48271 + 30103) % 2147483646 + 1 = w' at g2 g3 ⊢
    rw [i_lst (upd_same (m := m) (a := p))]
    simp only [List.set, rSs, rS, rE, rEs, rT, rP, rSrc, rTg, rCh, sget0, sgetS, sset0, ssetS, sw0, swS, swN, swC, b_add, b_sub, b_mul, b_fdiv, b_mod, b_pow, b_adds, b_addt, b_muls, c_lt, c_le, c_gt, c_ge, c_eq0, c_ne0, c_in0, c_ni0, c_is0, c_isn0, e_int, e_bl, t_bl, t_int, t_non, t_tup, t_rol, t_ktup, t_str, i_tup, i_rol, i_ktup, i_str, l_tup, l_ktup, l_rol, l_str, l_int0, l_int1, l_str1, l_max, l_min, sl_tup, sl_rol, sl_str, y_int, y_bl, y_str, y_tup, y_ktup, y_non, it_rol, it_tup, it_ktup, it_str, decide_eq_true_eq, decide_eq_false_iff_not, reduceCtorEq, false_implies, true_implies, forall_const, and_true, true_and, List.length_map, l_isI, l_isB, l_isS, l_isL, l_isT, l_isD, isTy, decide_true, decide_false, Bool.or_false, Bool.false_or, Bool.true_or, Bool.or_true, Bool.not_true, Bool.not_false, Bool.false_eq_true, Bool.true_eq_false, Bool.not_eq_true', Bool.not_eq_false', ne_eq, not_true_eq_false, not_false_eq_true, D.int.injEq, D.str.injEq, Option.some.injEq, exists_eq_left', exists_eq_left, rTgs, tgsLen, nv_t, nv_f, nd_t, nd_f, lo_r, so_r, so_t, so_k, so_s, un_t, un_k, un_r, do_r, b_addrr, n_int, n_bl, sl_scr, i_scr, l_scr, l_str2, y_rol, y_rod, eo_r, eo_t, m_okR, m_okJ, m_okX, m_okT, it_scr, w_v, w_fn, w_gl, w_mt, w_ini, w_fk, w_rz, w_ax, w_atF, w_at, tr_v, tr_fn, tr_gl, tr_mt, tr_ini, tr_fk, et_v, et_fn, et_gl, et_rz, et_mt, et_ini, et_fk, et_ax, et_at, et_atF, fz_int, fz_bl, fz_str, fz_non, fz_tup, fz_rol, if_true, ite_true, ite_false, List.length_cons, List.length_nil, List.mem_cons, List.not_mem_nil, or_false, or_true, Nat.reduceEqDiff, Nat.reduceAdd, if_false, reduceIte, Nat.reduceLeDiff, Int.reduceToNat, Int.reduceNeg, Nat.succ_ne_self, Nat.reduceBEq, Int.reduceLE, Int.reduceLT, Int.reducePow, Int.reduceAdd, Int.reduceSub, Int.reduceMul, Int.reduceEq, Int.reduceDiv, Int.reduceMod, Nat.reducePow, Nat.reduceLT, Nat.reduceSub, Nat.reduceMul, and_self, true_or, na10, na2, tg_num_var, tg_num_op, tg_var_num, tg_var_op, tg_op_num, tg_op_var, tg_set_read, tg_set_write, tg_set_call, tg_set_if, tg_set_while, tg_set_give, tg_set_end, tg_set_else, tg_set_def, tg_read_set, tg_read_write, tg_read_call, tg_read_if, tg_read_while, tg_read_give, tg_read_end, tg_read_else, tg_read_def, tg_write_set, tg_write_read, tg_write_call, tg_write_if, tg_write_while, tg_write_give, tg_write_end, tg_write_else, tg_write_def, tg_call_set, tg_call_read, tg_call_write, tg_call_if, tg_call_while, tg_call_give, tg_call_end, tg_call_else, tg_call_def, tg_if_set, tg_if_read, tg_if_write, tg_if_call, tg_if_while, tg_if_give, tg_if_end, tg_if_else, tg_if_def, tg_while_set, tg_while_read, tg_while_write, tg_while_call, tg_while_if, tg_while_give, tg_while_end, tg_while_else, tg_while_def, tg_give_set, tg_give_read, tg_give_write, tg_give_call, tg_give_if, tg_give_while, tg_give_end, tg_give_else, tg_give_def, tg_end_set, tg_end_read, tg_end_write, tg_end_call, tg_end_if, tg_end_while, tg_end_give, tg_end_else, tg_end_def, tg_else_set, tg_else_read, tg_else_write, tg_else_call, tg_else_if, tg_else_while, tg_else_give, tg_else_end, tg_else_def, tg_def_set, tg_def_read, tg_def_write, tg_def_call, tg_def_if, tg_def_while, tg_def_give, tg_def_end, tg_def_else, rGh, rHd, w_xc, tr_xc, et_xc, exF0, exF1, exF2, exF3, exF4, exF5, exF6, exF7, exF8, zipN, List.zip_cons_cons, excD, excSub, List.map_cons, List.map_nil, isX_exc, isX_non, isX_tup, isX_rol, isX_str, isX_int, isX_bl, List.any_cons, List.any_nil, atI1, Option.some.injEq, exists_eq_left']
    have fin : ∀ x : Int, ∃ m2, Sub m2 (upd m p (MO.lst [.int a, .int w'])) ∧ k (.int (x % w)) m2 := fun x => ⟨_, Sub.refl _, hk a w' (x % w) h0 g2 g3 (Int.emod_nonneg _ (by omega)) (Int.emod_lt_of_pos _ h3)⟩
    have b0 : 0 ≤ (u * 2147483647 + w') / 8191 := by omega
    have b1 : (u * 2147483647 + w') / 8191 < 2 ^ 64 := by omega
    exact ⟨fun _ => ⟨.inl ⟨by omega, b1⟩, h3, fin _⟩, fun _ => ⟨h3, fin _⟩⟩
/-- a step: something is taken from the box -/
theorem tk {Γ : En} {m : Mem} {p : Nat} {b : MO} {w : Int} {k : Kt} {X : Exc → Mem → Prop} (hT : Γ.fn 2 = spTake) (hb : BoxO b) (h0 : 0 < w) (h1 : w < 2 ^ 200) (h : ∀ b' d, BoxO b' → 0 ≤ d → d < w → k (.int d) (upd m p b')) : Γ.fn 2 [.ref p, .int w] (upd m p b) k X := by
  rw [hT]
  exact ⟨p, b, w, rfl, upd_same, hb, h0, h1, fun b' d q1 q2 q3 => by rw [upd_upd]; exact h b' d q1 q2 q3⟩
/-- .. a number -/
def numberB : Sms := (.c (.ite (.cmp .eq (.call 2 (.c (.var 0) (.c (.int 4) .n))) (.int 0)) (.c (.ret (.call 2 (.c (.var 0) (.c (.bin .pow (.int 10) (.int 18)) .n))))
  .n) .n)
  (.c (.ret (.call 2 (.c (.var 0) (.c (.int 9) .n))))
  .n))
abbrev spNumber : Sp := fun ds m k _ => ∃ (p : Nat) (b : MO), ds = [.ref p] ∧ m p = some b ∧ BoxO b ∧ ∀ b' d, BoxO b' → 0 ≤ d → d < 1000000000000000000 → k (.int d) (upd m p b')
theorem kp_number {Γ : En} (hT : Γ.fn 2 = spTake) : Keeps (Γ.w []) 1 numberB spNumber := by
  rintro ds m k X ⟨p, b, rfl, hm, hb, hk⟩
  show rSs (Γ.w []) numberB _ [some _] m
  rw [← upd_self hm]
  simp only [numberB, rSs, rS, rE, rEs, rT, rP, rSrc, rTg, rCh, sget0, sgetS, sset0, ssetS, sw0, swS, swN, swC, b_add, b_sub, b_mul, b_fdiv, b_mod, b_pow, b_adds, b_addt, b_muls, c_lt, c_le, c_gt, c_ge, c_eq0, c_ne0, c_in0, c_ni0, c_is0, c_isn0, e_int, e_bl, t_bl, t_int, t_non, t_tup, t_rol, t_ktup, t_str, i_tup, i_rol, i_ktup, i_str, l_tup, l_ktup, l_rol, l_str, l_int0, l_int1, l_str1, l_max, l_min, sl_tup, sl_rol, sl_str, y_int, y_bl, y_str, y_tup, y_ktup, y_non, it_rol, it_tup, it_ktup, it_str, decide_eq_true_eq, decide_eq_false_iff_not, reduceCtorEq, false_implies, true_implies, forall_const, and_true, true_and, List.length_map, l_isI, l_isB, l_isS, l_isL, l_isT, l_isD, isTy, decide_true, decide_false, Bool.or_false, Bool.false_or, Bool.true_or, Bool.or_true, Bool.not_true, Bool.not_false, Bool.false_eq_true, Bool.true_eq_false, Bool.not_eq_true', Bool.not_eq_false', ne_eq, not_true_eq_false, not_false_eq_true, D.int.injEq, D.str.injEq, Option.some.injEq, exists_eq_left', exists_eq_left, rTgs, tgsLen, nv_t, nv_f, nd_t, nd_f, lo_r, so_r, so_t, so_k, so_s, un_t, un_k, un_r, do_r, b_addrr, n_int, n_bl, sl_scr, i_scr, l_scr, l_str2, y_rol, y_rod, eo_r, eo_t, m_okR, m_okJ, m_okX, m_okT, it_scr, w_v, w_fn, w_gl, w_mt, w_ini, w_fk, w_rz, w_ax, w_atF, w_at, tr_v, tr_fn, tr_gl, tr_mt, tr_ini, tr_fk, et_v, et_fn, et_gl, et_rz, et_mt, et_ini, et_fk, et_ax, et_at, et_atF, fz_int, fz_bl, fz_str, fz_non, fz_tup, fz_rol, if_true, ite_true, ite_false, List.length_cons, List.length_nil, List.mem_cons, List.not_mem_nil, or_false, or_true, Nat.reduceEqDiff, Nat.reduceAdd, if_false, reduceIte, Nat.reduceLeDiff, Int.reduceToNat, Int.reduceNeg, Nat.succ_ne_self, Nat.reduceBEq, Int.reduceLE, Int.reduceLT, Int.reducePow, Int.reduceAdd, Int.reduceSub, Int.reduceMul, Int.reduceEq, Int.reduceDiv, Int.reduceMod, Nat.reducePow, Nat.reduceLT, Nat.reduceSub, Nat.reduceMul, and_self, true_or, na10, na2, tg_num_var, tg_num_op, tg_var_num, tg_var_op, tg_op_num, tg_op_var, tg_set_read, tg_set_write, tg_set_call, tg_set_if, tg_set_while, tg_set_give, tg_set_end, tg_set_else, tg_set_def, tg_read_set, tg_read_write, tg_read_call, tg_read_if, tg_read_while, tg_read_give, tg_read_end, tg_read_else, tg_read_def, tg_write_set, tg_write_read, tg_write_call, tg_write_if, tg_write_while, tg_write_give, tg_write_end, tg_write_else, tg_write_def, tg_call_set, tg_call_read, tg_call_write, tg_call_if, tg_call_while, tg_call_give, tg_call_end, tg_call_else, tg_call_def, tg_if_set, tg_if_read, tg_if_write, tg_if_call, tg_if_while, tg_if_give, tg_if_end, tg_if_else, tg_if_def, tg_while_set, tg_while_read, tg_while_write, tg_while_call, tg_while_if, tg_while_give, tg_while_end, tg_while_else, tg_while_def, tg_give_set, tg_give_read, tg_give_write, tg_give_call, tg_give_if, tg_give_while, tg_give_end, tg_give_else, tg_give_def, tg_end_set, tg_end_read, tg_end_write, tg_end_call, tg_end_if, tg_end_while, tg_end_give, tg_end_else, tg_end_def, tg_else_set, tg_else_read, tg_else_write, tg_else_call, tg_else_if, tg_else_while, tg_else_give, tg_else_end, tg_else_def, tg_def_set, tg_def_read, tg_def_write, tg_def_call, tg_def_if, tg_def_while, tg_def_give, tg_def_end, tg_def_else, rGh, rHd, w_xc, tr_xc, et_xc, exF0, exF1, exF2, exF3, exF4, exF5, exF6, exF7, exF8, zipN, List.zip_cons_cons, excD, excSub, List.map_cons, List.map_nil, isX_exc, isX_non, isX_tup, isX_rol, isX_str, isX_int, isX_bl, List.any_cons, List.any_nil, p18]
  refine tk hT hb (by decide) (by decide) fun b1 d1 hb1 h1 h2 => ?_
  simp only [rSs, rS, rE, rEs, rT, rP, rSrc, rTg, rCh, sget0, sgetS, sset0, ssetS, sw0, swS, swN, swC, b_add, b_sub, b_mul, b_fdiv, b_mod, b_pow, b_adds, b_addt, b_muls, c_lt, c_le, c_gt, c_ge, c_eq0, c_ne0, c_in0, c_ni0, c_is0, c_isn0, e_int, e_bl, t_bl, t_int, t_non, t_tup, t_rol, t_ktup, t_str, i_tup, i_rol, i_ktup, i_str, l_tup, l_ktup, l_rol, l_str, l_int0, l_int1, l_str1, l_max, l_min, sl_tup, sl_rol, sl_str, y_int, y_bl, y_str, y_tup, y_ktup, y_non, it_rol, it_tup, it_ktup, it_str, decide_eq_true_eq, decide_eq_false_iff_not, reduceCtorEq, false_implies, true_implies, forall_const, and_true, true_and, List.length_map, l_isI, l_isB, l_isS, l_isL, l_isT, l_isD, isTy, decide_true, decide_false, Bool.or_false, Bool.false_or, Bool.true_or, Bool.or_true, Bool.not_true, Bool.not_false, Bool.false_eq_true, Bool.true_eq_false, Bool.not_eq_true', Bool.not_eq_false', ne_eq, not_true_eq_false, not_false_eq_true, D.int.injEq, D.str.injEq, Option.some.injEq, exists_eq_left', exists_eq_left, rTgs, tgsLen, nv_t, nv_f, nd_t, nd_f, lo_r, so_r, so_t, so_k, so_s, un_t, un_k, un_r, do_r, b_addrr, n_int, n_bl, sl_scr, i_scr, l_scr, l_str2, y_rol, y_rod, eo_r, eo_t, m_okR, m_okJ, m_okX, m_okT, it_scr, w_v, w_fn, w_gl, w_mt, w_ini, w_fk, w_rz, w_ax, w_atF, w_at, tr_v, tr_fn, tr_gl, tr_mt, tr_ini, tr_fk, et_v, et_fn, et_gl, et_rz, et_mt, et_ini, et_fk, et_ax, et_at, et_atF, fz_int, fz_bl, fz_str, fz_non, fz_tup, fz_rol, if_true, ite_true, ite_false, List.length_cons, List.length_nil, List.mem_cons, List.not_mem_nil, or_false, or_true, Nat.reduceEqDiff, Nat.reduceAdd, if_false, reduceIte, Nat.reduceLeDiff, Int.reduceToNat, Int.reduceNeg, Nat.succ_ne_self, Nat.reduceBEq, Int.reduceLE, Int.reduceLT, Int.reducePow, Int.reduceAdd, Int.reduceSub, Int.reduceMul, Int.reduceEq, Int.reduceDiv, Int.reduceMod, Nat.reducePow, Nat.reduceLT, Nat.reduceSub, Nat.reduceMul, and_self, true_or, na10, na2, tg_num_var, tg_num_op, tg_var_num, tg_var_op, tg_op_num, tg_op_var, tg_set_read, tg_set_write, tg_set_call, tg_set_if, tg_set_while, tg_set_give, tg_set_end, tg_set_else, tg_set_def, tg_read_set, tg_read_write, tg_read_call, tg_read_if, tg_read_while, tg_read_give, tg_read_end, tg_read_else, tg_read_def, tg_write_set, tg_write_read, tg_write_call, tg_write_if, tg_write_while, tg_write_give, tg_write_end, tg_write_else, tg_write_def, tg_call_set, tg_call_read, tg_call_write, tg_call_if, tg_call_while, tg_call_give, tg_call_end, tg_call_else, tg_call_def, tg_if_set, tg_if_read, tg_if_write, tg_if_call, tg_if_while, tg_if_give, tg_if_end, tg_if_else, tg_if_def, tg_while_set, tg_while_read, tg_while_write, tg_while_call, tg_while_if, tg_while_give, tg_while_end, tg_while_else, tg_while_def, tg_give_set, tg_give_read, tg_give_write, tg_give_call, tg_give_if, tg_give_while, tg_give_end, tg_give_else, tg_give_def, tg_end_set, tg_end_read, tg_end_write, tg_end_call, tg_end_if, tg_end_while, tg_end_give, tg_end_else, tg_end_def, tg_else_set, tg_else_read, tg_else_write, tg_else_call, tg_else_if, tg_else_while, tg_else_give, tg_else_end, tg_else_def, tg_def_set, tg_def_read, tg_def_write, tg_def_call, tg_def_if, tg_def_while, tg_def_give, tg_def_end, tg_def_else, rGh, rHd, w_xc, tr_xc, et_xc, exF0, exF1, exF2, exF3, exF4, exF5, exF6, exF7, exF8, zipN, List.zip_cons_cons, excD, excSub, List.map_cons, List.map_nil, isX_exc, isX_non, isX_tup, isX_rol, isX_str, isX_int, isX_bl, List.any_cons, List.any_nil]
  refine ⟨fun e => ?_, fun e => ?_⟩
  · refine tk hT hb1 (by decide) (by decide) fun b2 d2 hb2 h3 h4 => ?_
    simp only [rSs, rS, rE, rEs, rT, rP, rSrc, rTg, rCh, sget0, sgetS, sset0, ssetS, sw0, swS, swN, swC, b_add, b_sub, b_mul, b_fdiv, b_mod, b_pow, b_adds, b_addt, b_muls, c_lt, c_le, c_gt, c_ge, c_eq0, c_ne0, c_in0, c_ni0, c_is0, c_isn0, e_int, e_bl, t_bl, t_int, t_non, t_tup, t_rol, t_ktup, t_str, i_tup, i_rol, i_ktup, i_str, l_tup, l_ktup, l_rol, l_str, l_int0, l_int1, l_str1, l_max, l_min, sl_tup, sl_rol, sl_str, y_int, y_bl, y_str, y_tup, y_ktup, y_non, it_rol, it_tup, it_ktup, it_str, decide_eq_true_eq, decide_eq_false_iff_not, reduceCtorEq, false_implies, true_implies, forall_const, and_true, true_and, List.length_map, l_isI, l_isB, l_isS, l_isL, l_isT, l_isD, isTy, decide_true, decide_false, Bool.or_false, Bool.false_or, Bool.true_or, Bool.or_true, Bool.not_true, Bool.not_false, Bool.false_eq_true, Bool.true_eq_false, Bool.not_eq_true', Bool.not_eq_false', ne_eq, not_true_eq_false, not_false_eq_true, D.int.injEq, D.str.injEq, Option.some.injEq, exists_eq_left', exists_eq_left, rTgs, tgsLen, nv_t, nv_f, nd_t, nd_f, lo_r, so_r, so_t, so_k, so_s, un_t, un_k, un_r, do_r, b_addrr, n_int, n_bl, sl_scr, i_scr, l_scr, l_str2, y_rol, y_rod, eo_r, eo_t, m_okR, m_okJ, m_okX, m_okT, it_scr, w_v, w_fn, w_gl, w_mt, w_ini, w_fk, w_rz, w_ax, w_atF, w_at, tr_v, tr_fn, tr_gl, tr_mt, tr_ini, tr_fk, et_v, et_fn, et_gl, et_rz, et_mt, et_ini, et_fk, et_ax, et_at, et_atF, fz_int, fz_bl, fz_str, fz_non, fz_tup, fz_rol, if_true, ite_true, ite_false, List.length_cons, List.length_nil, List.mem_cons, List.not_mem_nil, or_false, or_true, Nat.reduceEqDiff, Nat.reduceAdd, if_false, reduceIte, Nat.reduceLeDiff, Int.reduceToNat, Int.reduceNeg, Nat.succ_ne_self, Nat.reduceBEq, Int.reduceLE, Int.reduceLT, Int.reducePow, Int.reduceAdd, Int.reduceSub, Int.reduceMul, Int.reduceEq, Int.reduceDiv, Int.reduceMod, Nat.reducePow, Nat.reduceLT, Nat.reduceSub, Nat.reduceMul, and_self, true_or, na10, na2, tg_num_var, tg_num_op, tg_var_num, tg_var_op, tg_op_num, tg_op_var, tg_set_read, tg_set_write, tg_set_call, tg_set_if, tg_set_while, tg_set_give, tg_set_end, tg_set_else, tg_set_def, tg_read_set, tg_read_write, tg_read_call, tg_read_if, tg_read_while, tg_read_give, tg_read_end, tg_read_else, tg_read_def, tg_write_set, tg_write_read, tg_write_call, tg_write_if, tg_write_while, tg_write_give, tg_write_end, tg_write_else, tg_write_def, tg_call_set, tg_call_read, tg_call_write, tg_call_if, tg_call_while, tg_call_give, tg_call_end, tg_call_else, tg_call_def, tg_if_set, tg_if_read, tg_if_write, tg_if_call, tg_if_while, tg_if_give, tg_if_end, tg_if_else, tg_if_def, tg_while_set, tg_while_read, tg_while_write, tg_while_call, tg_while_if, tg_while_give, tg_while_end, tg_while_else, tg_while_def, tg_give_set, tg_give_read, tg_give_write, tg_give_call, tg_give_if, tg_give_while, tg_give_end, tg_give_else, tg_give_def, tg_end_set, tg_end_read, tg_end_write, tg_end_call, tg_end_if, tg_end_while, tg_end_give, tg_end_else, tg_end_def, tg_else_set, tg_else_read, tg_else_write, tg_else_call, tg_else_if, tg_else_while, tg_else_give, tg_else_end, tg_else_def, tg_def_set, tg_def_read, tg_def_write, tg_def_call, tg_def_if, tg_def_while, tg_def_give, tg_def_end, tg_def_else, rGh, rHd, w_xc, tr_xc, et_xc, exF0, exF1, exF2, exF3, exF4, exF5, exF6, exF7, exF8, zipN, List.zip_cons_cons, excD, excSub, List.map_cons, List.map_nil, isX_exc, isX_non, isX_tup, isX_rol, isX_str, isX_int, isX_bl, List.any_cons, List.any_nil]
    exact ⟨_, Sub.refl _, hk b2 d2 hb2 h3 h4⟩
  · refine tk hT hb1 (by decide) (by decide) fun b2 d2 hb2 h3 h4 => ?_
    simp only [rSs, rS, rE, rEs, rT, rP, rSrc, rTg, rCh, sget0, sgetS, sset0, ssetS, sw0, swS, swN, swC, b_add, b_sub, b_mul, b_fdiv, b_mod, b_pow, b_adds, b_addt, b_muls, c_lt, c_le, c_gt, c_ge, c_eq0, c_ne0, c_in0, c_ni0, c_is0, c_isn0, e_int, e_bl, t_bl, t_int, t_non, t_tup, t_rol, t_ktup, t_str, i_tup, i_rol, i_ktup, i_str, l_tup, l_ktup, l_rol, l_str, l_int0, l_int1, l_str1, l_max, l_min, sl_tup, sl_rol, sl_str, y_int, y_bl, y_str, y_tup, y_ktup, y_non, it_rol, it_tup, it_ktup, it_str, decide_eq_true_eq, decide_eq_false_iff_not, reduceCtorEq, false_implies, true_implies, forall_const, and_true, true_and, List.length_map, l_isI, l_isB, l_isS, l_isL, l_isT, l_isD, isTy, decide_true, decide_false, Bool.or_false, Bool.false_or, Bool.true_or, Bool.or_true, Bool.not_true, Bool.not_false, Bool.false_eq_true, Bool.true_eq_false, Bool.not_eq_true', Bool.not_eq_false', ne_eq, not_true_eq_false, not_false_eq_true, D.int.injEq, D.str.injEq, Option.some.injEq, exists_eq_left', exists_eq_left, rTgs, tgsLen, nv_t, nv_f, nd_t, nd_f, lo_r, so_r, so_t, so_k, so_s, un_t, un_k, un_r, do_r, b_addrr, n_int, n_bl, sl_scr, i_scr, l_scr, l_str2, y_rol, y_rod, eo_r, eo_t, m_okR, m_okJ, m_okX, m_okT, it_scr, w_v, w_fn, w_gl, w_mt, w_ini, w_fk, w_rz, w_ax, w_atF, w_at, tr_v, tr_fn, tr_gl, tr_mt, tr_ini, tr_fk, et_v, et_fn, et_gl, et_rz, et_mt, et_ini, et_fk, et_ax, et_at, et_atF, fz_int, fz_bl, fz_str, fz_non, fz_tup, fz_rol, if_true, ite_true, ite_false, List.length_cons, List.length_nil, List.mem_cons, List.not_mem_nil, or_false, or_true, Nat.reduceEqDiff, Nat.reduceAdd, if_false, reduceIte, Nat.reduceLeDiff, Int.reduceToNat, Int.reduceNeg, Nat.succ_ne_self, Nat.reduceBEq, Int.reduceLE, Int.reduceLT, Int.reducePow, Int.reduceAdd, Int.reduceSub, Int.reduceMul, Int.reduceEq, Int.reduceDiv, Int.reduceMod, Nat.reducePow, Nat.reduceLT, Nat.reduceSub, Nat.reduceMul, and_self, true_or, na10, na2, tg_num_var, tg_num_op, tg_var_num, tg_var_op, tg_op_num, tg_op_var, tg_set_read, tg_set_write, tg_set_call, tg_set_if, tg_set_while, tg_set_give, tg_set_end, tg_set_else, tg_set_def, tg_read_set, tg_read_write, tg_read_call, tg_read_if, tg_read_while, tg_read_give, tg_read_end, tg_read_else, tg_read_def, tg_write_set, tg_write_read, tg_write_call, tg_write_if, tg_write_while, tg_write_give, tg_write_end, tg_write_else, tg_write_def, tg_call_set, tg_call_read, tg_call_write, tg_call_if, tg_call_while, tg_call_give, tg_call_end, tg_call_else, tg_call_def, tg_if_set, tg_if_read, tg_if_write, tg_if_call, tg_if_while, tg_if_give, tg_if_end, tg_if_else, tg_if_def, tg_while_set, tg_while_read, tg_while_write, tg_while_call, tg_while_if, tg_while_give, tg_while_end, tg_while_else, tg_while_def, tg_give_set, tg_give_read, tg_give_write, tg_give_call, tg_give_if, tg_give_while, tg_give_end, tg_give_else, tg_give_def, tg_end_set, tg_end_read, tg_end_write, tg_end_call, tg_end_if, tg_end_while, tg_end_give, tg_end_else, tg_end_def, tg_else_set, tg_else_read, tg_else_write, tg_else_call, tg_else_if, tg_else_while, tg_else_give, tg_else_end, tg_else_def, tg_def_set, tg_def_read, tg_def_write, tg_def_call, tg_def_if, tg_def_while, tg_def_give, tg_def_end, tg_def_else, rGh, rHd, w_xc, tr_xc, et_xc, exF0, exF1, exF2, exF3, exF4, exF5, exF6, exF7, exF8, zipN, List.zip_cons_cons, excD, excSub, List.map_cons, List.map_nil, isX_exc, isX_non, isX_tup, isX_rol, isX_str, isX_int, isX_bl, List.any_cons, List.any_nil]
    exact ⟨_, Sub.refl _, hk b2 d2 hb2 h3 (by omega)⟩
theorem nk {Γ : En} {m : Mem} {p : Nat} {b : MO} {k : Kt} {X : Exc → Mem → Prop} (hN : Γ.fn 4 = spNumber) (hb : BoxO b) (h : ∀ b' d, BoxO b' → 0 ≤ d → d < 1000000000000000000 → k (.int d) (upd m p b')) : Γ.fn 4 [.ref p] (upd m p b) k X := by
  rw [hN]
  exact ⟨p, b, rfl, upd_same, hb, fun b' d q1 q2 q3 => by rw [upd_upd]; exact h b' d q1 q2 q3⟩
end DL

namespace DL
def updL (m : Mem) : List (Nat × MO) → Mem
  | [] => m
  | (a, o) :: r => upd (updL m r) a o
abbrev adr (l : List (Nat × MO)) : List Nat := l.map (·.1)
theorem hl_get {m : Mem} {a : Nat} {o : MO} : ∀ {l : List (Nat × MO)} (i : Nat), (adr l).Nodup → l[i]? = some (a, o) → updL m l a = some o
  | [], i, _, h => by simp at h
  | (b, u) :: r, 0, hn, h => by
    have e : (b, u) = (a, o) := by simpa using h
    cases e
    exact upd_same
  | (b, u) :: r, i + 1, hn, h => by
    have h' : r[i]? = some (a, o) := by simpa using h
    have hn' := List.nodup_cons.mp hn
    have hm : a ∈ adr r := List.mem_map.mpr ⟨(a, o), List.mem_of_getElem? h', rfl⟩
    show upd (updL m r) b u a = some o
    have ne : a ≠ b := fun e => hn'.1 (by subst e; exact hm)
    rw [upd_ne ne]
    exact hl_get i hn'.2 h'
theorem hl_set {m : Mem} {a : Nat} {o o' : MO} : ∀ {l : List (Nat × MO)} (i : Nat), (adr l).Nodup → l[i]? = some (a, o) → upd (updL m l) a o' = updL m (l.set i (a, o'))
  | [], i, _, h => by simp at h
  | (b, u) :: r, 0, hn, h => by
    have e : (b, u) = (a, o) := by simpa using h
    cases e
    exact upd_upd
  | (b, u) :: r, i + 1, hn, h => by
    have h' : r[i]? = some (a, o) := by simpa using h
    have hn' := List.nodup_cons.mp hn
    have hm : a ∈ adr r := List.mem_map.mpr ⟨(a, o), List.mem_of_getElem? h', rfl⟩
    show upd (upd (updL m r) b u) a o' = upd (updL m (r.set i (a, o'))) b u
    have ne : b ≠ a := fun e => hn'.1 (by subst e; exact hm)
    rw [upd_comm ne, hl_set i hn'.2 h']
theorem hl_none {m : Mem} {p : Nat} : ∀ {l : List (Nat × MO)}, updL m l p = none → p ∉ adr l ∧ m p = none
  | [], h => ⟨by simp, h⟩
  | (b, u) :: r, h => by
    obtain ⟨h1, h2⟩ := upd_none (show upd (updL m r) b u p = none from h)
    obtain ⟨h3, h4⟩ := hl_none h2
    refine ⟨fun z => ?_, h4⟩
    rcases List.mem_cons.mp z with e | e
    · exact h1 e
    · exact h3 e
theorem hl_new {m : Mem} {p : Nat} {l : List (Nat × MO)} {o : MO} (hn : (adr l).Nodup) (h : updL m l p = none) : (adr ((p, o) :: l)).Nodup ∧ Sub (updL m l) (updL m ((p, o) :: l)) := ⟨List.nodup_cons.mpr ⟨(hl_none h).1, hn⟩, Sub.new h⟩
theorem hl_base {m : Mem} : ∀ {l : List (Nat × MO)}, (∀ a ∈ adr l, m a = none) → Sub m (updL m l)
  | [], _ => Sub.refl m
  | (b, u) :: r, h => Sub.mut (hl_base fun a ha => h a (List.mem_cons_of_mem _ ha)) (h b List.mem_cons_self)
/-- the first object is left out -/
theorem hl_tail {m : Mem} {p : Nat} {o : MO} {l : List (Nat × MO)} (h : updL m l p = none) : Sub (updL m l) (updL m ((p, o) :: l)) := Sub.new h
/-- M has these objects -/
def Has (M : Mem) (l : List (Nat × MO)) : Prop := (adr l).Nodup ∧ ∀ q ∈ l, M q.1 = some q.2
theorem Has.at {M : Mem} {l : List (Nat × MO)} (h : Has M l) (i : Nat) {a : Nat} {o : MO} (e : l[i]? = some (a, o)) : M a = some o := h.2 _ (List.mem_of_getElem? e)
theorem Has.nil (M : Mem) : Has M [] := ⟨List.nodup_nil, fun _ h => nomatch h⟩
theorem Has.new {M : Mem} {l : List (Nat × MO)} (h : Has M l) {p : Nat} (hp : M p = none) (o : MO) : Has (upd M p o) ((p, o) :: l) := by
  refine ⟨List.nodup_cons.mpr ⟨fun z => ?_, h.1⟩, fun q hq => ?_⟩
  · obtain ⟨q, hq, e⟩ := List.mem_map.mp z
    have e : q.1 = p := e
    have := h.2 q hq
    rw [e, hp] at this
    cases this
  · rcases List.mem_cons.mp hq with e | e
    · subst e
      exact upd_same
    · exact Sub.new hp _ _ (h.2 q e)
theorem Has.sub {M M' : Mem} {l : List (Nat × MO)} (h : Has M l) (s : Sub M M') : Has M' l := ⟨h.1, fun q hq => s _ _ (h.2 q hq)⟩
theorem Has.set {M : Mem} {l : List (Nat × MO)} (h : Has M l) (i : Nat) {a : Nat} {o : MO} (e : l[i]? = some (a, o)) (o' : MO) : Has (upd M a o') (l.set i (a, o')) := by
  obtain ⟨hn, hv⟩ := h
  induction l generalizing i with
  | nil => simp at e
  | cons q r ih =>
    have hn' := List.nodup_cons.mp hn
    cases i with
    | zero =>
      have e' : q = (a, o) := by simpa using e
      subst e'
      refine ⟨hn, fun x hx => ?_⟩
      rcases List.mem_cons.mp hx with z | z
      · subst z
        exact upd_same
      · have ne : x.1 ≠ a := fun y => hn'.1 (List.mem_map.mpr ⟨x, z, y⟩)
        rw [upd_ne ne]
        exact hv x (List.mem_cons_of_mem _ z)
    | succ i =>
      have e' : r[i]? = some (a, o) := by simpa using e
      have hm : a ∈ adr r := List.mem_map.mpr ⟨(a, o), List.mem_of_getElem? e', rfl⟩
      have ad : ∀ {l : List (Nat × MO)} {i : Nat}, l[i]? = some (a, o) → adr (l.set i (a, o')) = adr l := by
        intro l
        induction l with
        | nil => intro i e; simp at e
        | cons y l il =>
          intro i e
          cases i with
          | zero =>
            have : y = (a, o) := by simpa using e
            subst this
            rfl
          | succ i => exact congrArg (y.1 :: ·) (il (by simpa using e))
      have ne : q.1 ≠ a := fun y => hn'.1 (show q.1 ∈ adr r by rw [y]; exact hm)
      obtain ⟨h1, h2⟩ := ih i e' hn'.2 fun x hx => hv x (List.mem_cons_of_mem _ hx)
      refine ⟨List.nodup_cons.mpr ⟨?_, h1⟩, fun x hx => ?_⟩
      · have := ad e'
        show q.1 ∉ adr (r.set i (a, o'))
        rw [this]
        exact hn'.1
      · rcases List.mem_cons.mp hx with z | z
        · subst z
          rw [upd_ne ne]
          exact hv _ List.mem_cons_self
        · exact h2 x z
theorem Has.tail {M : Mem} {q : Nat × MO} {l : List (Nat × MO)} (h : Has M (q :: l)) : Has M l := ⟨(List.nodup_cons.mp h.1).2, fun x hx => h.2 x (List.mem_cons_of_mem _ hx)⟩
/-- what is taken, the box among other objects -/
theorem tkH {Γ : En} {M : Mem} {l : List (Nat × MO)} {p : Nat} {b : MO} {w : Int} {k : Kt} {X : Exc → Mem → Prop} (hT : Γ.fn 2 = spTake) (H : Has M l) (i : Nat) (e : l[i]? = some (p, b)) (hb : BoxO b) (h0 : 0 < w) (h1 : w < 2 ^ 200)
    (h : ∀ b' d M', BoxO b' → 0 ≤ d → d < w → Has M' (l.set i (p, b')) → k (.int d) M') : Γ.fn 2 [.ref p, .int w] M k X := by
  rw [hT]
  exact ⟨p, b, w, rfl, H.at i e, hb, h0, h1, fun b' d q1 q2 q3 => h b' d _ q1 q2 q3 (H.set i e b')⟩
theorem nkH {Γ : En} {M : Mem} {l : List (Nat × MO)} {p : Nat} {b : MO} {k : Kt} {X : Exc → Mem → Prop} (hN : Γ.fn 4 = spNumber) (H : Has M l) (i : Nat) (e : l[i]? = some (p, b)) (hb : BoxO b)
    (h : ∀ b' d M', BoxO b' → 0 ≤ d → d < 1000000000000000000 → Has M' (l.set i (p, b')) → k (.int d) M') : Γ.fn 4 [.ref p] M k X := by
  rw [hN]
  exact ⟨p, b, rfl, H.at i e, hb, fun b' d q1 q2 q3 => h b' d _ q1 q2 q3 (H.set i e b')⟩
theorem allInt_map (l : List Int) : allInt (l.map D.int) = some l := by
  induction l with
  | nil => rfl
  | cons x l ih =>
    show (allInt (l.map D.int)).map (x :: ·) = _
    rw [ih]
    rfl
theorem opns_ints {m : Mem} (n : Nat) : ∀ ns : List Int, Opns m n (ns.map D.int) (ns.map F.int)
  | [] => trivial
  | i :: ns => ⟨by cases n <;> exact rfl, opns_ints n ns⟩
theorem feqv_ints : ∀ ns ms : List Int, F.eqvs (ns.map F.int) (ms.map F.int) = decide (ns = ms)
  | [], [] => rfl
  | [], _ :: _ => rfl
  | _ :: _, [] => rfl
  | a :: as, b :: bs => by
    show ((a == b) && F.eqvs (as.map F.int) (bs.map F.int)) = _
    rw [feqv_ints as bs]
    by_cases e : a = b <;> simp [e]
theorem opn_intL {m : Mem} {x : D} {ns : List Int} (h : lstOf m x = some (ns.map D.int)) (n : Nat) : Opn m (n + 1) x (.lst (ns.map F.int)) := by
  cases x with
  | ref a =>
    unfold lstOf at h
    cases e : m a with
    | none => simp [e] at h
    | some o =>
      simp only [e] at h
      cases o with
      | lst ds =>
        cases h
        exact ⟨_, e, opns_ints n ns⟩
      | _ => cases h
  | rol ds =>
    cases h
    exact opns_ints n ns
  | _ => cases h
/-- lists of ints, equal or not -/
theorem e_intL {m : Mem} {x y : D} {ns ms : List Int} {kb : Bool → Prop} (h : lstOf m x = some (ns.map D.int)) (h' : lstOf m y = some (ms.map D.int)) (hk : kb (decide (ns = ms))) : rEq x y m kb :=
  .inr (.inl ⟨_, _, opn_intL h 89, opn_intL h' 89, by
    rw [show F.eqv (.lst (ns.map F.int)) (.lst (ms.map F.int)) = decide (ns = ms) from feqv_ints ns ms]
    exact hk⟩)
theorem n_intL {m : Mem} {x y : D} {ns ms : List Int} {kb : Bool → Prop} (h : lstOf m x = some (ns.map D.int)) (h' : lstOf m y = some (ms.map D.int)) (hk : kb (decide (ns = ms))) : rNe x y m kb :=
  .inr (.inl ⟨_, _, opn_intL h 89, opn_intL h' 89, by
    rw [show F.eqv (.lst (ns.map F.int)) (.lst (ms.map F.int)) = decide (ns = ms) from feqv_ints ns ms]
    exact hk⟩)
abbrev encK (es : List (Int × Int)) : List (D × D) := es.map fun q => (D.int q.1, D.int q.2)
def putI (es : List (Int × Int)) (x v : Int) : List (Int × Int) := if es.any (fun q => q.1 == x) then es.map fun q => if q.1 = x then (q.1, v) else q else es ++ [(x, v)]
def getI (es : List (Int × Int)) (x : Int) : Option Int := (es.find? fun q => q.1 == x).map (·.2)
theorem eqv_int {i j : Int} : D.eqv (.int i) (.int j) = (i == j) := rfl
theorem getKey_enc (x : Int) : ∀ es : List (Int × Int), getKey (encK es) (.int x) = (getI es x).map D.int
  | [] => rfl
  | q :: r => by
    have ih := getKey_enc x r
    unfold getKey getI at ih ⊢
    have e : encK (q :: r) = (D.int q.1, D.int q.2) :: encK r := rfl
    rw [e, List.find?_cons, List.find?_cons]
    have e2 : D.eqv (D.int q.1) (D.int x) = (q.1 == x) := rfl
    simp only [e2]
    cases q.1 == x with
    | true => rfl
    | false => exact ih
theorem hasKey_enc (x : Int) (es : List (Int × Int)) : hasKey (encK es) (.int x) = es.any fun q => q.1 == x := by
  unfold hasKey encK
  rw [List.any_map]
  rfl
theorem putKey_enc (es : List (Int × Int)) (x v : Int) : putKey (encK es) (.int x) (.int v) = encK (putI es x v) := by
  unfold putKey putI
  rw [hasKey_enc]
  by_cases h : es.any (fun q => q.1 == x) = true
  · rw [if_pos h, if_pos h]
    unfold encK
    rw [List.map_map, List.map_map]
    apply List.map_congr_left
    intro q _
    show (if D.eqv (.int q.1) (.int x) = true then (D.int q.1, D.int v) else (D.int q.1, D.int q.2)) = (fun q : Int × Int => (D.int q.1, D.int q.2)) (if q.1 = x then (q.1, v) else q)
    rw [eqv_int]
    by_cases e : q.1 = x
    · rw [if_pos e, if_pos (by rw [e]; exact beq_self_eq_true x)]
    · rw [if_neg e, if_neg (by rw [beq_iff_eq]; exact e)]
  · rw [if_neg h, if_neg h]
    unfold encK
    rw [List.map_append]
    rfl
theorem putI_len (es : List (Int × Int)) (x v : Int) : (putI es x v).length ≤ es.length + 1 := by
  unfold putI
  split
  · rw [List.length_map]
    omega
  · rw [List.length_append]
    exact Nat.le_refl _
theorem putI_nd {es : List (Int × Int)} (h : (es.map (·.1)).Nodup) (x v : Int) : ((putI es x v).map (·.1)).Nodup := by
  unfold putI
  split
  · rw [List.map_map]
    have : ((fun q : Int × Int => q.1) ∘ fun q : Int × Int => if q.1 = x then (q.1, v) else q) = fun q => q.1 := by
      funext q
      show (if q.1 = x then (q.1, v) else q).1 = q.1
      split <;> rfl
    rw [this]
    exact h
  · rename_i hx
    rw [List.map_append, List.nodup_append]
    refine ⟨h, by simp, fun a ha b hb => ?_⟩
    have hb' : b = x := by simpa using hb
    subst hb'
    intro e
    subst e
    obtain ⟨q, hq, e⟩ := List.mem_map.mp ha
    exact hx (List.any_eq_true.mpr ⟨q, hq, by rw [← e]; exact beq_self_eq_true _⟩)
theorem getI_mem {es : List (Int × Int)} (h : (es.map (·.1)).Nodup) : ∀ {q : Int × Int}, q ∈ es → getI es q.1 = some q.2 := by
  induction es with
  | nil => intro q hq; cases hq
  | cons p r ih =>
    intro q hq
    rw [List.map_cons, List.nodup_cons] at h
    unfold getI
    rw [List.find?_cons]
    rcases List.mem_cons.mp hq with e | e
    · subst e
      rw [beq_self_eq_true]
      rfl
    · have hne : (p.1 == q.1) = false := by
        rw [beq_eq_false_iff_ne]
        intro z
        exact h.1 (List.mem_map.mpr ⟨q, e, z.symm⟩)
      rw [hne]
      exact ih h.2 e
/-- two dicts of the same ints -/
theorem e_dictI {m : Mem} {x y : D} {es : List (Int × Int)} {kb : Bool → Prop} (hn : (es.map (·.1)).Nodup) (h : dicOf m x = some (false, encK es)) (h' : dicOf m y = some (false, encK es)) (hk : kb true) : rEq x y m kb := by
  refine .inr (.inr ⟨.inr (.inr (.inr ⟨_, _, h, h', rfl, fun q hq => ?_⟩)), hk⟩)
  obtain ⟨p, hp, rfl⟩ := List.mem_map.mp hq
  refine ⟨rfl, .int p.2, ?_, .inl ⟨rfl, rfl⟩⟩
  show getKey (encK es) (.int p.1) = _
  rw [getKey_enc, getI_mem hn hp]
  rfl
def wholeB : Sms := (.c (.ret (.and (.blt .isInt (.c (.var 0) .n)) (.not (.blt .isBool (.c (.var 0) .n)))))
  .n)
abbrev spWhole : Sp := fun ds m k _ => ∃ n : Int, ds = [.int n] ∧ k (.bl true) m
theorem kp_whole {Γ : En} : Keeps (Γ.w []) 1 wholeB spWhole := by
  rintro ds m k X ⟨n, rfl, hk⟩
  show rSs (Γ.w []) wholeB _ [some _] m
  simp only [wholeB, rSs, rS, rE, rEs, rT, rP, rSrc, rTg, rCh, sget0, sgetS, sset0, ssetS, sw0, swS, swN, swC, b_add, b_sub, b_mul, b_fdiv, b_mod, b_pow, b_adds, b_addt, b_muls, c_lt, c_le, c_gt, c_ge, c_eq0, c_ne0, c_in0, c_ni0, c_is0, c_isn0, e_int, e_bl, t_bl, t_int, t_non, t_tup, t_rol, t_ktup, t_str, i_tup, i_rol, i_ktup, i_str, l_tup, l_ktup, l_rol, l_str, l_int0, l_int1, l_str1, l_max, l_min, sl_tup, sl_rol, sl_str, y_int, y_bl, y_str, y_tup, y_ktup, y_non, it_rol, it_tup, it_ktup, it_str, decide_eq_true_eq, decide_eq_false_iff_not, reduceCtorEq, false_implies, true_implies, forall_const, and_true, true_and, List.length_map, l_isI, l_isB, l_isS, l_isL, l_isT, l_isD, isTy, decide_true, decide_false, Bool.or_false, Bool.false_or, Bool.true_or, Bool.or_true, Bool.not_true, Bool.not_false, Bool.false_eq_true, Bool.true_eq_false, Bool.not_eq_true', Bool.not_eq_false', ne_eq, not_true_eq_false, not_false_eq_true, D.int.injEq, D.str.injEq, Option.some.injEq, exists_eq_left', exists_eq_left, rTgs, tgsLen, nv_t, nv_f, nd_t, nd_f, lo_r, so_r, so_t, so_k, so_s, un_t, un_k, un_r, do_r, b_addrr, n_int, n_bl, sl_scr, i_scr, l_scr, l_str2, y_rol, y_rod, eo_r, eo_t, m_okR, m_okJ, m_okX, m_okT, it_scr, w_v, w_fn, w_gl, w_mt, w_ini, w_fk, w_rz, w_ax, w_atF, w_at, tr_v, tr_fn, tr_gl, tr_mt, tr_ini, tr_fk, et_v, et_fn, et_gl, et_rz, et_mt, et_ini, et_fk, et_ax, et_at, et_atF, fz_int, fz_bl, fz_str, fz_non, fz_tup, fz_rol, if_true, ite_true, ite_false, List.length_cons, List.length_nil, List.mem_cons, List.not_mem_nil, or_false, or_true, Nat.reduceEqDiff, Nat.reduceAdd, if_false, reduceIte, Nat.reduceLeDiff, Int.reduceToNat, Int.reduceNeg, Nat.succ_ne_self, Nat.reduceBEq, Int.reduceLE, Int.reduceLT, Int.reducePow, Int.reduceAdd, Int.reduceSub, Int.reduceMul, Int.reduceEq, Int.reduceDiv, Int.reduceMod, Nat.reducePow, Nat.reduceLT, Nat.reduceSub, Nat.reduceMul, and_self, true_or, na10, na2, tg_num_var, tg_num_op, tg_var_num, tg_var_op, tg_op_num, tg_op_var, tg_set_read, tg_set_write, tg_set_call, tg_set_if, tg_set_while, tg_set_give, tg_set_end, tg_set_else, tg_set_def, tg_read_set, tg_read_write, tg_read_call, tg_read_if, tg_read_while, tg_read_give, tg_read_end, tg_read_else, tg_read_def, tg_write_set, tg_write_read, tg_write_call, tg_write_if, tg_write_while, tg_write_give, tg_write_end, tg_write_else, tg_write_def, tg_call_set, tg_call_read, tg_call_write, tg_call_if, tg_call_while, tg_call_give, tg_call_end, tg_call_else, tg_call_def, tg_if_set, tg_if_read, tg_if_write, tg_if_call, tg_if_while, tg_if_give, tg_if_end, tg_if_else, tg_if_def, tg_while_set, tg_while_read, tg_while_write, tg_while_call, tg_while_if, tg_while_give, tg_while_end, tg_while_else, tg_while_def, tg_give_set, tg_give_read, tg_give_write, tg_give_call, tg_give_if, tg_give_while, tg_give_end, tg_give_else, tg_give_def, tg_end_set, tg_end_read, tg_end_write, tg_end_call, tg_end_if, tg_end_while, tg_end_give, tg_end_else, tg_end_def, tg_else_set, tg_else_read, tg_else_write, tg_else_call, tg_else_if, tg_else_while, tg_else_give, tg_else_end, tg_else_def, tg_def_set, tg_def_read, tg_def_write, tg_def_call, tg_def_if, tg_def_while, tg_def_give, tg_def_end, tg_def_else, rGh, rHd, w_xc, tr_xc, et_xc, exF0, exF1, exF2, exF3, exF4, exF5, exF6, exF7, exF8, zipN, List.zip_cons_cons, excD, excSub, List.map_cons, List.map_nil, isX_exc, isX_non, isX_tup, isX_rol, isX_str, isX_int, isX_bl, List.any_cons, List.any_nil]
  exact ⟨_, Sub.refl _, hk⟩
def isRowB : Sms := (.c (.ite (.not (.blt .isList (.c (.var 0) .n))) (.c (.ret (.bl false))
  .n) .n)
  (.c (.ret (.blt .all (.c (.lc [1] (.name 1) (.of (.var 0)) (.bl true) (.call 16 (.c (.var 1) .n))) .n)))
  .n))
abbrev spIsRow : Sp := fun ds m k _ => ∃ (x : D) (ns : List Int), ds = [x] ∧ lstOf m x = some (ns.map D.int) ∧ ns.length ≤ big ∧ k (.bl true) m
theorem lst_cases {m : Mem} {x : D} {ds : List D} (h : lstOf m x = some ds) : x = .rol ds ∨ ∃ a, x = .ref a ∧ m a = some (.lst ds) := by
  unfold lstOf at h
  cases x with
  | ref a =>
    cases e : m a with
    | none => simp [e] at h
    | some o =>
      simp only [e] at h
      cases o with
      | lst ds =>
        cases h
        exact .inr ⟨a, rfl, e⟩
      | _ => cases h
  | rol ds =>
    cases h
    exact .inl rfl
  | _ => cases h
theorem allBl_true (l : List D) : allBl (l.map fun _ => D.bl true) = some (l.map fun _ => true) := by
  induction l with
  | nil => rfl
  | cons x l ih =>
    show (allBl (l.map fun _ => D.bl true)).map (true :: ·) = _
    rw [ih]
    rfl
theorem all_true {α : Type} (l : List α) : (l.map fun _ => true).all id = true := by
  induction l with
  | nil => rfl
  | cons x l ih =>
    rw [List.map_cons, List.all_cons, ih]
    rfl
theorem kp_isRow {Γ : En} (hw : Γ.fn 16 = spWhole) : Keeps (Γ.w []) 2 isRowB spIsRow := by
  rintro ds m k X ⟨x, ns, rfl, hm, hl, hk⟩
  show rSs (Γ.w []) isRowB _ [some _, none] m
  have fin : ∀ g : Mem → Prop, g m → rLc g (rTg (.name 1)) (fun _ m k => k true m) (rE (Γ.w []) (fun _ _ _ => False) (.call 16 (.c (.var 1) .n))) [some x, none] (ns.map D.int) [] m fun ds m2 => NewLv true m2 ds fun d m1 => rBlt true .all [d] m1 fun d m1 => frz d m1 fun d m1 => ∃ m2, Sub m2 m1 ∧ k d m2 := fun g hg => by
    refine rLc_map (fun _ => .bl true) hg (fun d hd R hR => ?_) ?_
    · obtain ⟨z, _, rfl⟩ := List.mem_map.mp hd
      simp only [rSs, rS, rE, rEs, rT, rP, rSrc, rTg, rCh, sget0, sgetS, sset0, ssetS, sw0, swS, swN, swC, b_add, b_sub, b_mul, b_fdiv, b_mod, b_pow, b_adds, b_addt, b_muls, c_lt, c_le, c_gt, c_ge, c_eq0, c_ne0, c_in0, c_ni0, c_is0, c_isn0, e_int, e_bl, t_bl, t_int, t_non, t_tup, t_rol, t_ktup, t_str, i_tup, i_rol, i_ktup, i_str, l_tup, l_ktup, l_rol, l_str, l_int0, l_int1, l_str1, l_max, l_min, sl_tup, sl_rol, sl_str, y_int, y_bl, y_str, y_tup, y_ktup, y_non, it_rol, it_tup, it_ktup, it_str, decide_eq_true_eq, decide_eq_false_iff_not, reduceCtorEq, false_implies, true_implies, forall_const, and_true, true_and, List.length_map, l_isI, l_isB, l_isS, l_isL, l_isT, l_isD, isTy, decide_true, decide_false, Bool.or_false, Bool.false_or, Bool.true_or, Bool.or_true, Bool.not_true, Bool.not_false, Bool.false_eq_true, Bool.true_eq_false, Bool.not_eq_true', Bool.not_eq_false', ne_eq, not_true_eq_false, not_false_eq_true, D.int.injEq, D.str.injEq, Option.some.injEq, exists_eq_left', exists_eq_left, rTgs, tgsLen, nv_t, nv_f, nd_t, nd_f, lo_r, so_r, so_t, so_k, so_s, un_t, un_k, un_r, do_r, b_addrr, n_int, n_bl, sl_scr, i_scr, l_scr, l_str2, y_rol, y_rod, eo_r, eo_t, m_okR, m_okJ, m_okX, m_okT, it_scr, w_v, w_fn, w_gl, w_mt, w_ini, w_fk, w_rz, w_ax, w_atF, w_at, tr_v, tr_fn, tr_gl, tr_mt, tr_ini, tr_fk, et_v, et_fn, et_gl, et_rz, et_mt, et_ini, et_fk, et_ax, et_at, et_atF, fz_int, fz_bl, fz_str, fz_non, fz_tup, fz_rol, if_true, ite_true, ite_false, List.length_cons, List.length_nil, List.mem_cons, List.not_mem_nil, or_false, or_true, Nat.reduceEqDiff, Nat.reduceAdd, if_false, reduceIte, Nat.reduceLeDiff, Int.reduceToNat, Int.reduceNeg, Nat.succ_ne_self, Nat.reduceBEq, Int.reduceLE, Int.reduceLT, Int.reducePow, Int.reduceAdd, Int.reduceSub, Int.reduceMul, Int.reduceEq, Int.reduceDiv, Int.reduceMod, Nat.reducePow, Nat.reduceLT, Nat.reduceSub, Nat.reduceMul, and_self, true_or, na10, na2, tg_num_var, tg_num_op, tg_var_num, tg_var_op, tg_op_num, tg_op_var, tg_set_read, tg_set_write, tg_set_call, tg_set_if, tg_set_while, tg_set_give, tg_set_end, tg_set_else, tg_set_def, tg_read_set, tg_read_write, tg_read_call, tg_read_if, tg_read_while, tg_read_give, tg_read_end, tg_read_else, tg_read_def, tg_write_set, tg_write_read, tg_write_call, tg_write_if, tg_write_while, tg_write_give, tg_write_end, tg_write_else, tg_write_def, tg_call_set, tg_call_read, tg_call_write, tg_call_if, tg_call_while, tg_call_give, tg_call_end, tg_call_else, tg_call_def, tg_if_set, tg_if_read, tg_if_write, tg_if_call, tg_if_while, tg_if_give, tg_if_end, tg_if_else, tg_if_def, tg_while_set, tg_while_read, tg_while_write, tg_while_call, tg_while_if, tg_while_give, tg_while_end, tg_while_else, tg_while_def, tg_give_set, tg_give_read, tg_give_write, tg_give_call, tg_give_if, tg_give_while, tg_give_end, tg_give_else, tg_give_def, tg_end_set, tg_end_read, tg_end_write, tg_end_call, tg_end_if, tg_end_while, tg_end_give, tg_end_else, tg_end_def, tg_else_set, tg_else_read, tg_else_write, tg_else_call, tg_else_if, tg_else_while, tg_else_give, tg_else_end, tg_else_def, tg_def_set, tg_def_read, tg_def_write, tg_def_call, tg_def_if, tg_def_while, tg_def_give, tg_def_end, tg_def_else, rGh, rHd, w_xc, tr_xc, et_xc, exF0, exF1, exF2, exF3, exF4, exF5, exF6, exF7, exF8, zipN, List.zip_cons_cons, excD, excSub, List.map_cons, List.map_nil, isX_exc, isX_non, isX_tup, isX_rol, isX_str, isX_int, isX_bl, List.any_cons, List.any_nil, hw]
      exact ⟨z, rfl, hR _ (Sub.refl _)⟩
    · exact l_all (k := fun d m1 => frz d m1 fun d m1 => ∃ m2, Sub m2 m1 ∧ k d m2) (v := true) (m := m) (x := .rol ((ns.map D.int).map fun _ => D.bl true)) rfl (allBl_true _) (by rw [all_true]; exact (⟨m, Sub.refl m, hk⟩ : ∃ m2, Sub m2 m ∧ k (.bl true) m2))
  rcases lst_cases hm with rfl | ⟨a, rfl, ha⟩
  · simp only [isRowB, rSs, rS, rE, rEs, rT, rP, rSrc, rTg, rCh, sget0, sgetS, sset0, ssetS, sw0, swS, swN, swC, b_add, b_sub, b_mul, b_fdiv, b_mod, b_pow, b_adds, b_addt, b_muls, c_lt, c_le, c_gt, c_ge, c_eq0, c_ne0, c_in0, c_ni0, c_is0, c_isn0, e_int, e_bl, t_bl, t_int, t_non, t_tup, t_rol, t_ktup, t_str, i_tup, i_rol, i_ktup, i_str, l_tup, l_ktup, l_rol, l_str, l_int0, l_int1, l_str1, l_max, l_min, sl_tup, sl_rol, sl_str, y_int, y_bl, y_str, y_tup, y_ktup, y_non, it_rol, it_tup, it_ktup, it_str, decide_eq_true_eq, decide_eq_false_iff_not, reduceCtorEq, false_implies, true_implies, forall_const, and_true, true_and, List.length_map, l_isI, l_isB, l_isS, l_isL, l_isT, l_isD, isTy, decide_true, decide_false, Bool.or_false, Bool.false_or, Bool.true_or, Bool.or_true, Bool.not_true, Bool.not_false, Bool.false_eq_true, Bool.true_eq_false, Bool.not_eq_true', Bool.not_eq_false', ne_eq, not_true_eq_false, not_false_eq_true, D.int.injEq, D.str.injEq, Option.some.injEq, exists_eq_left', exists_eq_left, rTgs, tgsLen, nv_t, nv_f, nd_t, nd_f, lo_r, so_r, so_t, so_k, so_s, un_t, un_k, un_r, do_r, b_addrr, n_int, n_bl, sl_scr, i_scr, l_scr, l_str2, y_rol, y_rod, eo_r, eo_t, m_okR, m_okJ, m_okX, m_okT, it_scr, w_v, w_fn, w_gl, w_mt, w_ini, w_fk, w_rz, w_ax, w_atF, w_at, tr_v, tr_fn, tr_gl, tr_mt, tr_ini, tr_fk, et_v, et_fn, et_gl, et_rz, et_mt, et_ini, et_fk, et_ax, et_at, et_atF, fz_int, fz_bl, fz_str, fz_non, fz_tup, fz_rol, if_true, ite_true, ite_false, List.length_cons, List.length_nil, List.mem_cons, List.not_mem_nil, or_false, or_true, Nat.reduceEqDiff, Nat.reduceAdd, if_false, reduceIte, Nat.reduceLeDiff, Int.reduceToNat, Int.reduceNeg, Nat.succ_ne_self, Nat.reduceBEq, Int.reduceLE, Int.reduceLT, Int.reducePow, Int.reduceAdd, Int.reduceSub, Int.reduceMul, Int.reduceEq, Int.reduceDiv, Int.reduceMod, Nat.reducePow, Nat.reduceLT, Nat.reduceSub, Nat.reduceMul, and_self, true_or, na10, na2, tg_num_var, tg_num_op, tg_var_num, tg_var_op, tg_op_num, tg_op_var, tg_set_read, tg_set_write, tg_set_call, tg_set_if, tg_set_while, tg_set_give, tg_set_end, tg_set_else, tg_set_def, tg_read_set, tg_read_write, tg_read_call, tg_read_if, tg_read_while, tg_read_give, tg_read_end, tg_read_else, tg_read_def, tg_write_set, tg_write_read, tg_write_call, tg_write_if, tg_write_while, tg_write_give, tg_write_end, tg_write_else, tg_write_def, tg_call_set, tg_call_read, tg_call_write, tg_call_if, tg_call_while, tg_call_give, tg_call_end, tg_call_else, tg_call_def, tg_if_set, tg_if_read, tg_if_write, tg_if_call, tg_if_while, tg_if_give, tg_if_end, tg_if_else, tg_if_def, tg_while_set, tg_while_read, tg_while_write, tg_while_call, tg_while_if, tg_while_give, tg_while_end, tg_while_else, tg_while_def, tg_give_set, tg_give_read, tg_give_write, tg_give_call, tg_give_if, tg_give_while, tg_give_end, tg_give_else, tg_give_def, tg_end_set, tg_end_read, tg_end_write, tg_end_call, tg_end_if, tg_end_while, tg_end_give, tg_end_else, tg_end_def, tg_else_set, tg_else_read, tg_else_write, tg_else_call, tg_else_if, tg_else_while, tg_else_give, tg_else_end, tg_else_def, tg_def_set, tg_def_read, tg_def_write, tg_def_call, tg_def_if, tg_def_while, tg_def_give, tg_def_end, tg_def_else, rGh, rHd, w_xc, tr_xc, et_xc, exF0, exF1, exF2, exF3, exF4, exF5, exF6, exF7, exF8, zipN, List.zip_cons_cons, excD, excSub, List.map_cons, List.map_nil, isX_exc, isX_non, isX_tup, isX_rol, isX_str, isX_int, isX_bl, List.any_cons, List.any_nil, hw]
    refine ⟨hl, ?_⟩
    have := fin gTrue trivial
    simp only [rSs, rS, rE, rEs, rT, rP, rSrc, rTg, rCh, sget0, sgetS, sset0, ssetS, sw0, swS, swN, swC, b_add, b_sub, b_mul, b_fdiv, b_mod, b_pow, b_adds, b_addt, b_muls, c_lt, c_le, c_gt, c_ge, c_eq0, c_ne0, c_in0, c_ni0, c_is0, c_isn0, e_int, e_bl, t_bl, t_int, t_non, t_tup, t_rol, t_ktup, t_str, i_tup, i_rol, i_ktup, i_str, l_tup, l_ktup, l_rol, l_str, l_int0, l_int1, l_str1, l_max, l_min, sl_tup, sl_rol, sl_str, y_int, y_bl, y_str, y_tup, y_ktup, y_non, it_rol, it_tup, it_ktup, it_str, decide_eq_true_eq, decide_eq_false_iff_not, reduceCtorEq, false_implies, true_implies, forall_const, and_true, true_and, List.length_map, l_isI, l_isB, l_isS, l_isL, l_isT, l_isD, isTy, decide_true, decide_false, Bool.or_false, Bool.false_or, Bool.true_or, Bool.or_true, Bool.not_true, Bool.not_false, Bool.false_eq_true, Bool.true_eq_false, Bool.not_eq_true', Bool.not_eq_false', ne_eq, not_true_eq_false, not_false_eq_true, D.int.injEq, D.str.injEq, Option.some.injEq, exists_eq_left', exists_eq_left, rTgs, tgsLen, nv_t, nv_f, nd_t, nd_f, lo_r, so_r, so_t, so_k, so_s, un_t, un_k, un_r, do_r, b_addrr, n_int, n_bl, sl_scr, i_scr, l_scr, l_str2, y_rol, y_rod, eo_r, eo_t, m_okR, m_okJ, m_okX, m_okT, it_scr, w_v, w_fn, w_gl, w_mt, w_ini, w_fk, w_rz, w_ax, w_atF, w_at, tr_v, tr_fn, tr_gl, tr_mt, tr_ini, tr_fk, et_v, et_fn, et_gl, et_rz, et_mt, et_ini, et_fk, et_ax, et_at, et_atF, fz_int, fz_bl, fz_str, fz_non, fz_tup, fz_rol, if_true, ite_true, ite_false, List.length_cons, List.length_nil, List.mem_cons, List.not_mem_nil, or_false, or_true, Nat.reduceEqDiff, Nat.reduceAdd, if_false, reduceIte, Nat.reduceLeDiff, Int.reduceToNat, Int.reduceNeg, Nat.succ_ne_self, Nat.reduceBEq, Int.reduceLE, Int.reduceLT, Int.reducePow, Int.reduceAdd, Int.reduceSub, Int.reduceMul, Int.reduceEq, Int.reduceDiv, Int.reduceMod, Nat.reducePow, Nat.reduceLT, Nat.reduceSub, Nat.reduceMul, and_self, true_or, na10, na2, tg_num_var, tg_num_op, tg_var_num, tg_var_op, tg_op_num, tg_op_var, tg_set_read, tg_set_write, tg_set_call, tg_set_if, tg_set_while, tg_set_give, tg_set_end, tg_set_else, tg_set_def, tg_read_set, tg_read_write, tg_read_call, tg_read_if, tg_read_while, tg_read_give, tg_read_end, tg_read_else, tg_read_def, tg_write_set, tg_write_read, tg_write_call, tg_write_if, tg_write_while, tg_write_give, tg_write_end, tg_write_else, tg_write_def, tg_call_set, tg_call_read, tg_call_write, tg_call_if, tg_call_while, tg_call_give, tg_call_end, tg_call_else, tg_call_def, tg_if_set, tg_if_read, tg_if_write, tg_if_call, tg_if_while, tg_if_give, tg_if_end, tg_if_else, tg_if_def, tg_while_set, tg_while_read, tg_while_write, tg_while_call, tg_while_if, tg_while_give, tg_while_end, tg_while_else, tg_while_def, tg_give_set, tg_give_read, tg_give_write, tg_give_call, tg_give_if, tg_give_while, tg_give_end, tg_give_else, tg_give_def, tg_end_set, tg_end_read, tg_end_write, tg_end_call, tg_end_if, tg_end_while, tg_end_give, tg_end_else, tg_end_def, tg_else_set, tg_else_read, tg_else_write, tg_else_call, tg_else_if, tg_else_while, tg_else_give, tg_else_end, tg_else_def, tg_def_set, tg_def_read, tg_def_write, tg_def_call, tg_def_if, tg_def_while, tg_def_give, tg_def_end, tg_def_else, rGh, rHd, w_xc, tr_xc, et_xc, exF0, exF1, exF2, exF3, exF4, exF5, exF6, exF7, exF8, zipN, List.zip_cons_cons, excD, excSub, List.map_cons, List.map_nil, isX_exc, isX_non, isX_tup, isX_rol, isX_str, isX_int, isX_bl, List.any_cons, List.any_nil, hw] at this
    exact this
  · simp only [isRowB, rSs, rS, rE, rEs, rT, rP, rSrc, rTg, rCh, sget0, sgetS, sset0, ssetS, sw0, swS, swN, swC, b_add, b_sub, b_mul, b_fdiv, b_mod, b_pow, b_adds, b_addt, b_muls, c_lt, c_le, c_gt, c_ge, c_eq0, c_ne0, c_in0, c_ni0, c_is0, c_isn0, e_int, e_bl, t_bl, t_int, t_non, t_tup, t_rol, t_ktup, t_str, i_tup, i_rol, i_ktup, i_str, l_tup, l_ktup, l_rol, l_str, l_int0, l_int1, l_str1, l_max, l_min, sl_tup, sl_rol, sl_str, y_int, y_bl, y_str, y_tup, y_ktup, y_non, it_rol, it_tup, it_ktup, it_str, decide_eq_true_eq, decide_eq_false_iff_not, reduceCtorEq, false_implies, true_implies, forall_const, and_true, true_and, List.length_map, l_isI, l_isB, l_isS, l_isL, l_isT, l_isD, isTy, decide_true, decide_false, Bool.or_false, Bool.false_or, Bool.true_or, Bool.or_true, Bool.not_true, Bool.not_false, Bool.false_eq_true, Bool.true_eq_false, Bool.not_eq_true', Bool.not_eq_false', ne_eq, not_true_eq_false, not_false_eq_true, D.int.injEq, D.str.injEq, Option.some.injEq, exists_eq_left', exists_eq_left, rTgs, tgsLen, nv_t, nv_f, nd_t, nd_f, lo_r, so_r, so_t, so_k, so_s, un_t, un_k, un_r, do_r, b_addrr, n_int, n_bl, sl_scr, i_scr, l_scr, l_str2, y_rol, y_rod, eo_r, eo_t, m_okR, m_okJ, m_okX, m_okT, it_scr, w_v, w_fn, w_gl, w_mt, w_ini, w_fk, w_rz, w_ax, w_atF, w_at, tr_v, tr_fn, tr_gl, tr_mt, tr_ini, tr_fk, et_v, et_fn, et_gl, et_rz, et_mt, et_ini, et_fk, et_ax, et_at, et_atF, fz_int, fz_bl, fz_str, fz_non, fz_tup, fz_rol, if_true, ite_true, ite_false, List.length_cons, List.length_nil, List.mem_cons, List.not_mem_nil, or_false, or_true, Nat.reduceEqDiff, Nat.reduceAdd, if_false, reduceIte, Nat.reduceLeDiff, Int.reduceToNat, Int.reduceNeg, Nat.succ_ne_self, Nat.reduceBEq, Int.reduceLE, Int.reduceLT, Int.reducePow, Int.reduceAdd, Int.reduceSub, Int.reduceMul, Int.reduceEq, Int.reduceDiv, Int.reduceMod, Nat.reducePow, Nat.reduceLT, Nat.reduceSub, Nat.reduceMul, and_self, true_or, na10, na2, tg_num_var, tg_num_op, tg_var_num, tg_var_op, tg_op_num, tg_op_var, tg_set_read, tg_set_write, tg_set_call, tg_set_if, tg_set_while, tg_set_give, tg_set_end, tg_set_else, tg_set_def, tg_read_set, tg_read_write, tg_read_call, tg_read_if, tg_read_while, tg_read_give, tg_read_end, tg_read_else, tg_read_def, tg_write_set, tg_write_read, tg_write_call, tg_write_if, tg_write_while, tg_write_give, tg_write_end, tg_write_else, tg_write_def, tg_call_set, tg_call_read, tg_call_write, tg_call_if, tg_call_while, tg_call_give, tg_call_end, tg_call_else, tg_call_def, tg_if_set, tg_if_read, tg_if_write, tg_if_call, tg_if_while, tg_if_give, tg_if_end, tg_if_else, tg_if_def, tg_while_set, tg_while_read, tg_while_write, tg_while_call, tg_while_if, tg_while_give, tg_while_end, tg_while_else, tg_while_def, tg_give_set, tg_give_read, tg_give_write, tg_give_call, tg_give_if, tg_give_while, tg_give_end, tg_give_else, tg_give_def, tg_end_set, tg_end_read, tg_end_write, tg_end_call, tg_end_if, tg_end_while, tg_end_give, tg_end_else, tg_end_def, tg_else_set, tg_else_read, tg_else_write, tg_else_call, tg_else_if, tg_else_while, tg_else_give, tg_else_end, tg_else_def, tg_def_set, tg_def_read, tg_def_write, tg_def_call, tg_def_if, tg_def_while, tg_def_give, tg_def_end, tg_def_else, rGh, rHd, w_xc, tr_xc, et_xc, exF0, exF1, exF2, exF3, exF4, exF5, exF6, exF7, exF8, zipN, List.zip_cons_cons, excD, excSub, List.map_cons, List.map_nil, isX_exc, isX_non, isX_tup, isX_rol, isX_str, isX_int, isX_bl, List.any_cons, List.any_nil, hw, y_lst ha, it_lst ha]
    refine ⟨hl, ?_⟩
    have := fin (gLst a _) ha
    simp only [rSs, rS, rE, rEs, rT, rP, rSrc, rTg, rCh, sget0, sgetS, sset0, ssetS, sw0, swS, swN, swC, b_add, b_sub, b_mul, b_fdiv, b_mod, b_pow, b_adds, b_addt, b_muls, c_lt, c_le, c_gt, c_ge, c_eq0, c_ne0, c_in0, c_ni0, c_is0, c_isn0, e_int, e_bl, t_bl, t_int, t_non, t_tup, t_rol, t_ktup, t_str, i_tup, i_rol, i_ktup, i_str, l_tup, l_ktup, l_rol, l_str, l_int0, l_int1, l_str1, l_max, l_min, sl_tup, sl_rol, sl_str, y_int, y_bl, y_str, y_tup, y_ktup, y_non, it_rol, it_tup, it_ktup, it_str, decide_eq_true_eq, decide_eq_false_iff_not, reduceCtorEq, false_implies, true_implies, forall_const, and_true, true_and, List.length_map, l_isI, l_isB, l_isS, l_isL, l_isT, l_isD, isTy, decide_true, decide_false, Bool.or_false, Bool.false_or, Bool.true_or, Bool.or_true, Bool.not_true, Bool.not_false, Bool.false_eq_true, Bool.true_eq_false, Bool.not_eq_true', Bool.not_eq_false', ne_eq, not_true_eq_false, not_false_eq_true, D.int.injEq, D.str.injEq, Option.some.injEq, exists_eq_left', exists_eq_left, rTgs, tgsLen, nv_t, nv_f, nd_t, nd_f, lo_r, so_r, so_t, so_k, so_s, un_t, un_k, un_r, do_r, b_addrr, n_int, n_bl, sl_scr, i_scr, l_scr, l_str2, y_rol, y_rod, eo_r, eo_t, m_okR, m_okJ, m_okX, m_okT, it_scr, w_v, w_fn, w_gl, w_mt, w_ini, w_fk, w_rz, w_ax, w_atF, w_at, tr_v, tr_fn, tr_gl, tr_mt, tr_ini, tr_fk, et_v, et_fn, et_gl, et_rz, et_mt, et_ini, et_fk, et_ax, et_at, et_atF, fz_int, fz_bl, fz_str, fz_non, fz_tup, fz_rol, if_true, ite_true, ite_false, List.length_cons, List.length_nil, List.mem_cons, List.not_mem_nil, or_false, or_true, Nat.reduceEqDiff, Nat.reduceAdd, if_false, reduceIte, Nat.reduceLeDiff, Int.reduceToNat, Int.reduceNeg, Nat.succ_ne_self, Nat.reduceBEq, Int.reduceLE, Int.reduceLT, Int.reducePow, Int.reduceAdd, Int.reduceSub, Int.reduceMul, Int.reduceEq, Int.reduceDiv, Int.reduceMod, Nat.reducePow, Nat.reduceLT, Nat.reduceSub, Nat.reduceMul, and_self, true_or, na10, na2, tg_num_var, tg_num_op, tg_var_num, tg_var_op, tg_op_num, tg_op_var, tg_set_read, tg_set_write, tg_set_call, tg_set_if, tg_set_while, tg_set_give, tg_set_end, tg_set_else, tg_set_def, tg_read_set, tg_read_write, tg_read_call, tg_read_if, tg_read_while, tg_read_give, tg_read_end, tg_read_else, tg_read_def, tg_write_set, tg_write_read, tg_write_call, tg_write_if, tg_write_while, tg_write_give, tg_write_end, tg_write_else, tg_write_def, tg_call_set, tg_call_read, tg_call_write, tg_call_if, tg_call_while, tg_call_give, tg_call_end, tg_call_else, tg_call_def, tg_if_set, tg_if_read, tg_if_write, tg_if_call, tg_if_while, tg_if_give, tg_if_end, tg_if_else, tg_if_def, tg_while_set, tg_while_read, tg_while_write, tg_while_call, tg_while_if, tg_while_give, tg_while_end, tg_while_else, tg_while_def, tg_give_set, tg_give_read, tg_give_write, tg_give_call, tg_give_if, tg_give_while, tg_give_end, tg_give_else, tg_give_def, tg_end_set, tg_end_read, tg_end_write, tg_end_call, tg_end_if, tg_end_while, tg_end_give, tg_end_else, tg_end_def, tg_else_set, tg_else_read, tg_else_write, tg_else_call, tg_else_if, tg_else_while, tg_else_give, tg_else_end, tg_else_def, tg_def_set, tg_def_read, tg_def_write, tg_def_call, tg_def_if, tg_def_while, tg_def_give, tg_def_end, tg_def_else, rGh, rHd, w_xc, tr_xc, et_xc, exF0, exF1, exF2, exF3, exF4, exF5, exF6, exF7, exF8, zipN, List.zip_cons_cons, excD, excSub, List.map_cons, List.map_nil, isX_exc, isX_non, isX_tup, isX_rol, isX_str, isX_int, isX_bl, List.any_cons, List.any_nil, hw] at this
    exact this
end DL

open DL
local macro_rules | `(tactic| walk_at "r") => `(tactic| try simp only [rSs, rS, rE, rEs, rT, rP, rSrc, rTg, rCh, sget0, sgetS, sset0, ssetS, sw0, swS, swN, swC, b_add, b_sub, b_mul, b_fdiv, b_mod, b_pow, b_adds, b_addt, b_muls, c_lt, c_le, c_gt, c_ge, c_eq0, c_ne0, c_in0, c_ni0, c_is0, c_isn0, e_int, e_bl, t_bl, t_int, t_non, t_tup, t_rol, t_ktup, t_str, i_tup, i_rol, i_ktup, i_str, l_tup, l_ktup, l_rol, l_str, l_int0, l_int1, l_str1, l_max, l_min, sl_tup, sl_rol, sl_str, y_int, y_bl, y_str, y_tup, y_ktup, y_non, it_rol, it_tup, it_ktup, it_str, decide_eq_true_eq, decide_eq_false_iff_not, reduceCtorEq, false_implies, true_implies, forall_const, and_true, true_and, List.length_map, l_isI, l_isB, l_isS, l_isL, l_isT, l_isD, isTy, decide_true, decide_false, Bool.or_false, Bool.false_or, Bool.true_or, Bool.or_true, Bool.not_true, Bool.not_false, Bool.false_eq_true, Bool.true_eq_false, Bool.not_eq_true', Bool.not_eq_false', ne_eq, not_true_eq_false, not_false_eq_true, D.int.injEq, D.str.injEq, Option.some.injEq, exists_eq_left', exists_eq_left, rTgs, tgsLen, nv_t, nv_f, nd_t, nd_f, lo_r, so_r, so_t, so_k, so_s, un_t, un_k, un_r, do_r, b_addrr, n_int, n_bl, sl_scr, i_scr, l_scr, l_str2, y_rol, y_rod, eo_r, eo_t, m_okR, m_okJ, m_okX, m_okT, it_scr, w_v, w_fn, w_gl, w_mt, w_ini, w_fk, w_rz, w_ax, w_atF, w_at, tr_v, tr_fn, tr_gl, tr_mt, tr_ini, tr_fk, et_v, et_fn, et_gl, et_rz, et_mt, et_ini, et_fk, et_ax, et_at, et_atF, fz_int, fz_bl, fz_str, fz_non, fz_tup, fz_rol, if_true, ite_true, ite_false, List.length_cons, List.length_nil, List.mem_cons, List.not_mem_nil, or_false, or_true, Nat.reduceEqDiff, Nat.reduceAdd, if_false, reduceIte, Nat.reduceLeDiff, Int.reduceToNat, Int.reduceNeg, Nat.succ_ne_self, Nat.reduceBEq, Int.reduceLE, Int.reduceLT, Int.reducePow, Int.reduceAdd, Int.reduceSub, Int.reduceMul, Int.reduceEq, Int.reduceDiv, Int.reduceMod, Nat.reducePow, Nat.reduceLT, Nat.reduceSub, Nat.reduceMul, and_self, true_or, na10, na2, tg_num_var, tg_num_op, tg_var_num, tg_var_op, tg_op_num, tg_op_var, tg_set_read, tg_set_write, tg_set_call, tg_set_if, tg_set_while, tg_set_give, tg_set_end, tg_set_else, tg_set_def, tg_read_set, tg_read_write, tg_read_call, tg_read_if, tg_read_while, tg_read_give, tg_read_end, tg_read_else, tg_read_def, tg_write_set, tg_write_read, tg_write_call, tg_write_if, tg_write_while, tg_write_give, tg_write_end, tg_write_else, tg_write_def, tg_call_set, tg_call_read, tg_call_write, tg_call_if, tg_call_while, tg_call_give, tg_call_end, tg_call_else, tg_call_def, tg_if_set, tg_if_read, tg_if_write, tg_if_call, tg_if_while, tg_if_give, tg_if_end, tg_if_else, tg_if_def, tg_while_set, tg_while_read, tg_while_write, tg_while_call, tg_while_if, tg_while_give, tg_while_end, tg_while_else, tg_while_def, tg_give_set, tg_give_read, tg_give_write, tg_give_call, tg_give_if, tg_give_while, tg_give_end, tg_give_else, tg_give_def, tg_end_set, tg_end_read, tg_end_write, tg_end_call, tg_end_if, tg_end_while, tg_end_give, tg_end_else, tg_end_def, tg_else_set, tg_else_read, tg_else_write, tg_else_call, tg_else_if, tg_else_while, tg_else_give, tg_else_end, tg_else_def, tg_def_set, tg_def_read, tg_def_write, tg_def_call, tg_def_if, tg_def_while, tg_def_give, tg_def_end, tg_def_else, rGh, rHd, w_xc, tr_xc, et_xc, exF0, exF1, exF2, exF3, exF4, exF5, exF6, exF7, exF8, zipN, List.zip_cons_cons, excD, excSub, List.map_cons, List.map_nil, isX_exc, isX_non, isX_tup, isX_rol, isX_str, isX_int, isX_bl, List.any_cons, List.any_nil])
local macro_rules | `(tactic| walk_at $s:str) => do
  match s.getString.splitOn " " with
  | "r+" :: ws =>
    let ids : Array (Lean.TSyntax `Lean.Parser.Tactic.simpLemma) ← (ws.toArray.filter (· ≠ "")).mapM fun w => do
      let i := Lean.mkIdent (String.toName w)
      `(Lean.Parser.Tactic.simpLemma| $i:term)
    `(tactic| simp only [$ids,*, rSs, rS, rE, rEs, rT, rP, rSrc, rTg, rCh, sget0, sgetS, sset0, ssetS, sw0, swS, swN, swC, b_add, b_sub, b_mul, b_fdiv, b_mod, b_pow, b_adds, b_addt, b_muls, c_lt, c_le, c_gt, c_ge, c_eq0, c_ne0, c_in0, c_ni0, c_is0, c_isn0, e_int, e_bl, t_bl, t_int, t_non, t_tup, t_rol, t_ktup, t_str, i_tup, i_rol, i_ktup, i_str, l_tup, l_ktup, l_rol, l_str, l_int0, l_int1, l_str1, l_max, l_min, sl_tup, sl_rol, sl_str, y_int, y_bl, y_str, y_tup, y_ktup, y_non, it_rol, it_tup, it_ktup, it_str, decide_eq_true_eq, decide_eq_false_iff_not, reduceCtorEq, false_implies, true_implies, forall_const, and_true, true_and, List.length_map, l_isI, l_isB, l_isS, l_isL, l_isT, l_isD, isTy, decide_true, decide_false, Bool.or_false, Bool.false_or, Bool.true_or, Bool.or_true, Bool.not_true, Bool.not_false, Bool.false_eq_true, Bool.true_eq_false, Bool.not_eq_true', Bool.not_eq_false', ne_eq, not_true_eq_false, not_false_eq_true, D.int.injEq, D.str.injEq, Option.some.injEq, exists_eq_left', exists_eq_left, rTgs, tgsLen, nv_t, nv_f, nd_t, nd_f, lo_r, so_r, so_t, so_k, so_s, un_t, un_k, un_r, do_r, b_addrr, n_int, n_bl, sl_scr, i_scr, l_scr, l_str2, y_rol, y_rod, eo_r, eo_t, m_okR, m_okJ, m_okX, m_okT, it_scr, w_v, w_fn, w_gl, w_mt, w_ini, w_fk, w_rz, w_ax, w_atF, w_at, tr_v, tr_fn, tr_gl, tr_mt, tr_ini, tr_fk, et_v, et_fn, et_gl, et_rz, et_mt, et_ini, et_fk, et_ax, et_at, et_atF, fz_int, fz_bl, fz_str, fz_non, fz_tup, fz_rol, if_true, ite_true, ite_false, List.length_cons, List.length_nil, List.mem_cons, List.not_mem_nil, or_false, or_true, Nat.reduceEqDiff, Nat.reduceAdd, if_false, reduceIte, Nat.reduceLeDiff, Int.reduceToNat, Int.reduceNeg, Nat.succ_ne_self, Nat.reduceBEq, Int.reduceLE, Int.reduceLT, Int.reducePow, Int.reduceAdd, Int.reduceSub, Int.reduceMul, Int.reduceEq, Int.reduceDiv, Int.reduceMod, Nat.reducePow, Nat.reduceLT, Nat.reduceSub, Nat.reduceMul, and_self, true_or, na10, na2, tg_num_var, tg_num_op, tg_var_num, tg_var_op, tg_op_num, tg_op_var, tg_set_read, tg_set_write, tg_set_call, tg_set_if, tg_set_while, tg_set_give, tg_set_end, tg_set_else, tg_set_def, tg_read_set, tg_read_write, tg_read_call, tg_read_if, tg_read_while, tg_read_give, tg_read_end, tg_read_else, tg_read_def, tg_write_set, tg_write_read, tg_write_call, tg_write_if, tg_write_while, tg_write_give, tg_write_end, tg_write_else, tg_write_def, tg_call_set, tg_call_read, tg_call_write, tg_call_if, tg_call_while, tg_call_give, tg_call_end, tg_call_else, tg_call_def, tg_if_set, tg_if_read, tg_if_write, tg_if_call, tg_if_while, tg_if_give, tg_if_end, tg_if_else, tg_if_def, tg_while_set, tg_while_read, tg_while_write, tg_while_call, tg_while_if, tg_while_give, tg_while_end, tg_while_else, tg_while_def, tg_give_set, tg_give_read, tg_give_write, tg_give_call, tg_give_if, tg_give_while, tg_give_end, tg_give_else, tg_give_def, tg_end_set, tg_end_read, tg_end_write, tg_end_call, tg_end_if, tg_end_while, tg_end_give, tg_end_else, tg_end_def, tg_else_set, tg_else_read, tg_else_write, tg_else_call, tg_else_if, tg_else_while, tg_else_give, tg_else_end, tg_else_def, tg_def_set, tg_def_read, tg_def_write, tg_def_call, tg_def_if, tg_def_while, tg_def_give, tg_def_end, tg_def_else, rGh, rHd, w_xc, tr_xc, et_xc, exF0, exF1, exF2, exF3, exF4, exF5, exF6, exF7, exF8, zipN, List.zip_cons_cons, excD, excSub, List.map_cons, List.map_nil, isX_exc, isX_non, isX_tup, isX_rol, isX_str, isX_int, isX_bl, List.any_cons, List.any_nil])
  | _ => Lean.Macro.throwUnsupported
namespace DL
theorem strs_plain {n : Nat} : ∀ {ws : List (List Nat)}, (∀ w ∈ ws, w.all (· < 1114112) = true) → D.plains n (ws.map D.str) = true
  | [], _ => by cases n <;> rfl
  | w :: ws, h => by
    rw [List.map_cons, D.plains, strs_plain fun v hv => h v (List.mem_cons_of_mem _ hv)]
    have : D.plain n (.str w) = true := by cases n <;> exact h w (List.mem_cons_self ..)
    rw [this]
    rfl
theorem strs_flat : ∀ {ws : List (List Nat)}, (∀ w ∈ ws, w.all (· < 1114112) = true) → (ws.map D.str).all D.flat = true
  | [], _ => rfl
  | w :: ws, h => by
    rw [List.map_cons, List.all_cons, strs_flat fun v hv => h v (List.mem_cons_of_mem _ hv)]
    have : D.flat (.str w) = true := h w (List.mem_cons_self ..)
    rw [this]
    rfl
theorem any_strs {x : List Nat} : ∀ ws : List (List Nat), ((ws.map D.str).any fun y => D.eqv y (.str x)) = decide (x ∈ ws)
  | [] => rfl
  | w :: ws => by
    rw [List.map_cons, List.any_cons, any_strs ws, eqv_str]
    by_cases e : w = x
    · simp [e]
    · have : x ≠ w := fun z => e z.symm
      simp [e, this]
theorem allStr_map : ∀ ws : List (List Nat), allStr (ws.map D.str) = some ws
  | [] => rfl
  | w :: ws => by
    show (allStr (ws.map D.str)).map (w :: ·) = _
    rw [allStr_map ws]
    rfl
theorem join_nil : ∀ ws : List (List Nat), joinS [] ws = ws.flatten
  | [] => rfl
  | [w] => by simp [joinS]
  | w :: v :: ws => by
    show w ++ ([] ++ joinS [] (v :: ws)) = _
    rw [join_nil (v :: ws)]
    simp
theorem flat_ones (cs : List Nat) : (cs.map fun c => [c]).flatten = cs := by
  induction cs with
  | nil => rfl
  | cons c cs ih => simp [ih]
theorem sum_ones (cs : List Nat) : ((cs.map fun c => [c]).map List.length).sum = cs.length := by
  induction cs with
  | nil => rfl
  | cons c cs ih =>
    simp only [List.map_cons, List.sum_cons, ih, List.length_cons, List.length_nil]
    omega
section
variable {m : Mem} {k : Kt} {kb : Bool → Prop} {a : Nat} {x : List Nat} {y : D} {ws : List (List Nat)}
theorem ins_seq (hy : seqOf m y = some (ws.map D.str)) (hx : okS x) (hw : ∀ w ∈ ws, okS w) (h : kb (decide (x ∈ ws))) : rIn (.str x) y m kb := by
  refine (in_seq (fun t e => ?_) hy).mpr ⟨.inl ⟨hx, strs_flat hw⟩, by rw [any_strs]; exact h⟩
  subst e
  cases hy
theorem ins_tup (hx : okS x) (hw : ∀ w ∈ ws, okS w) (h : kb (decide (x ∈ ws))) : rIn (.str x) (.tup (ws.map D.str)) m kb := ins_seq rfl hx hw h
theorem ins_rol (hx : okS x) (hw : ∀ w ∈ ws, okS w) (h : kb (decide (x ∈ ws))) : rIn (.str x) (.rol (ws.map D.str)) m kb := ins_seq rfl hx hw h
theorem ins_lst (hm : m a = some (.lst (ws.map D.str))) (hx : okS x) (hw : ∀ w ∈ ws, okS w) (h : kb (decide (x ∈ ws))) : rIn (.str x) (.ref a) m kb := ins_seq (so_a hm) hx hw h
theorem m_join1 {cs : List Nat} (hm : seqOf m y = some (cs.map fun c => D.str [c])) (hl : cs.length ≤ big) (h : k (.str cs) m) : rBm .join (.str []) [y] m k := by
  refine m_join (ss := cs.map fun c => [c]) ?_ ?_ ?_
  · rw [hm, List.map_map]
    rfl
  · rw [sum_ones]
    simpa using hl
  · rw [join_nil, flat_ones]
    exact h
end
theorem atI_lt {α : Type} {xs : List α} {i : Int} (h0 : 0 ≤ i) (h : i < xs.length) : ∃ d, atI xs i = some d ∧ d ∈ xs := by
  rw [atI_get h0 h]
  have : i.toNat < xs.length := by omega
  exact ⟨_, List.getElem?_eq_getElem this, List.getElem_mem this⟩
def lett : List Nat := [97, 98, 99, 100, 101, 102, 103, 104, 105, 106, 107, 108, 109, 110, 111, 112, 113, 114, 115, 116, 117, 118, 119, 120, 121, 122]
def keptL : List (List Nat) := [[100, 101, 102], [115, 101, 116], [114, 101, 97, 100], [119, 114, 105, 116, 101], [99, 97, 108, 108], [105, 102], [101, 108, 115, 101], [119, 104, 105, 108, 101], [103, 105, 118, 101], [101, 110, 100]]
def oddL : List (List Nat) := [[110, 117, 109], [118, 97, 114], [111, 112], [103, 111], [97, 115, 107], [98, 97, 99, 107], [99, 104, 97, 105, 110], [115, 101, 116, 115], [105, 102, 102], [101, 110, 100, 115], [99, 97, 108, 108, 115], [114, 101, 97, 100, 115], [103, 105, 118, 101, 115]]
/-- a name -/
structure NmOk (w : List Nat) : Prop where
  ne : w ≠ []
  az : ∀ c ∈ w, 97 ≤ c ∧ c ≤ 122
  le : w.length ≤ 8
  kp : w ∉ keptL
theorem NmOk.tx {w : List Nat} (h : NmOk w) : w.all (· < 1114112) = true := List.all_eq_true.mpr fun c hc => decide_eq_true (by have := h.az c hc; omega)
theorem tx_of {w : List Nat} (h : ∀ c ∈ w, 97 ≤ c ∧ c ≤ 122) : w.all (· < 1114112) = true := List.all_eq_true.mpr fun c hc => decide_eq_true (by have := h c hc; omega)
theorem kept_tx : ∀ w ∈ keptL, w.all (· < 1114112) = true := by decide
theorem odd_ok : ∀ w ∈ oddL, w ≠ [] ∧ (∀ c ∈ w, 97 ≤ c ∧ c ≤ 122) ∧ w.length ≤ 8 ∧ w ∉ keptL := by decide
theorem lett_nat : ∀ n, n < 26 → lett[n]? = some (97 + n) := by decide
theorem atI_lett {i : Int} (h0 : 0 ≤ i) (h1 : i < 26) : atI lett i = some (97 + i.toNat) := by
  rw [atI_get h0 (by show i < 26; exact h1)]
  exact lett_nat _ (by omega)
/-- the sign at place j -/
def oneN (f j : Nat) : Nat := 97 + (f + 5 * j) % 26
theorem one_inj {f j j' : Nat} (h : j < 26) (h' : j' < 26) (e : oneN f j = oneN f j') : j = j' := by
  unfold oneN at e
  omega
def q7 : List Nat := [113, 113, 113, 113, 113, 113, 113]
/-- what the j-th word may be -/
def Fm (form f : Nat) (pre suf : List Nat) (j : Nat) (w : List Nat) : Prop :=
  (form ≠ 2 ∧ ∃ z : List Nat, z.length ≤ 1 ∧ w = pre ++ oneN f j :: (suf ++ z)) ∨ w = q7 ++ [oneN f j] ∨ (form = 2 ∧ ∃ r, w = r ++ [oneN f j])
theorem fm_ne {form f : Nat} {pre suf : List Nat} {j j' : Nat} {w w' : List Nat} (hl : pre.length + suf.length ≤ 5) (hj : j < 26) (hj' : j' < 26) (hn : j ≠ j') (h : Fm form f pre suf j w) (h' : Fm form f pre suf j' w') : w ≠ w' := by
  intro e
  subst e
  have last : ∀ {r r' : List Nat} {a b : Nat}, r ++ [a] = r' ++ [b] → a = b := fun {r r' a b} h => by
    have := congrArg List.getLast? h
    simpa using this
  have mid : ∀ {z z' : List Nat} {a b : Nat}, pre ++ a :: (suf ++ z) = pre ++ b :: (suf ++ z') → a = b := fun {z z' a b} h => by
    have := List.append_cancel_left h
    exact (List.cons.inj this).1
  rcases h with ⟨h1, z, hz, h⟩ | h | ⟨h1, r, h⟩ <;> rcases h' with ⟨h1', z', hz', h'⟩ | h' | ⟨h1', r', h'⟩
  · exact hn (one_inj hj hj' (mid (h.symm.trans h')))
  · have := congrArg List.length (h.symm.trans h')
    simp [q7] at this
    omega
  · exact h1 h1'
  · have := congrArg List.length (h.symm.trans h')
    simp [q7] at this
    omega
  · exact hn (one_inj hj hj' (last (h.symm.trans h')))
  · exact hn (one_inj hj hj' (last (h.symm.trans h')))
  · exact h1' h1
  · exact hn (one_inj hj hj' (last (h.symm.trans h')))
  · exact hn (one_inj hj hj' (last (h.symm.trans h')))
theorem nodup_set {α : Type} {x : α} : ∀ {ws : List α} (i : Nat), ws.Nodup → x ∉ ws → (ws.set i x).Nodup
  | [], _, h, _ => h
  | w :: ws, 0, h, hx => by
    rw [List.set_cons_zero]
    rw [List.nodup_cons] at h ⊢
    exact ⟨fun z => hx (List.mem_cons_of_mem _ z), h.2⟩
  | w :: ws, i + 1, h, hx => by
    rw [List.set_cons_succ]
    rw [List.nodup_cons] at h ⊢
    rw [List.mem_cons, not_or] at hx
    refine ⟨fun z => ?_, nodup_set i h.2 hx.2⟩
    rcases List.mem_or_eq_of_mem_set z with q | q
    · exact h.1 q
    · exact hx.1 q.symm
structure Nms (n : Nat) (ws : List (List Nat)) : Prop where
  len : ws.length = n
  ok : ∀ w ∈ ws, NmOk w
  nd : ws.Nodup
theorem one_atI {f : Int} {k : Nat} (h0 : 0 ≤ f) : atI lett ((f + 5 * (k : Int)) % 26) = some (oneN f.toNat k) := by
  rw [atI_lett (Int.emod_nonneg _ (by decide)) (Int.emod_lt_of_pos _ (by decide))]
  unfold oneN
  congr 2
  omega
theorem one_az (f k : Nat) : 97 ≤ oneN f k ∧ oneN f k ≤ 122 := by
  unfold oneN
  omega
theorem q7_ok {c : Nat} (hc : 97 ≤ c ∧ c ≤ 122) : NmOk (q7 ++ [c]) := by
  refine ⟨by simp, fun x hx => ?_, by simp [q7], fun z => ?_⟩
  · rcases List.mem_append.mp hx with z | z
    · have : ∀ x ∈ q7, 97 ≤ x ∧ x ≤ 122 := by decide
      exact this x z
    · rw [List.mem_singleton.mp z]
      exact hc
  · have : ∀ w ∈ keptL, w.length ≤ 5 := by decide
    have := this _ z
    simp [q7] at this
/-- letters by a box -/
theorem rLc_lets {tg : D → St → Mem → (St → Mem → Prop) → Prop} {te : St → Mem → Kt → Prop} {σ : St} {k : List D → Mem → Prop} {p : Nat} {b0 : MO} {m : Mem} {items : List D} (hb : BoxO b0)
    (hs : ∀ d b (R : Kt), d ∈ items → BoxO b → (∀ b' c, BoxO b' → 97 ≤ c → c ≤ 122 → R (.str [c]) (upd m p b')) → tg d σ (upd m p b) fun σ1 m1 => te σ1 m1 R)
    (he : ∀ b (cs : List Nat), BoxO b → cs.length = items.length → (∀ c ∈ cs, 97 ≤ c ∧ c ≤ 122) → k (cs.map fun c => .str [c]) (upd m p b)) : rLc gTrue tg (fun _ m k => k true m) te σ items [] (upd m p b0) k := by
  refine rLc_by (fun i acc M => ∃ b cs, M = upd m p b ∧ BoxO b ∧ acc = cs.map (fun c => D.str [c]) ∧ cs.length = i ∧ ∀ c ∈ cs, 97 ≤ c ∧ c ≤ 122) 0
    ⟨b0, [], rfl, hb, rfl, rfl, fun _ h => by cases h⟩ (fun i d acc M R e h r => ?_) fun acc M h => ?_
  · obtain ⟨b, cs, rfl, hb, rfl, hc1, hc⟩ := h
    refine ⟨trivial, ?_⟩
    simp only [forall_const, Bool.true_eq_false, false_implies, and_true]
    refine hs d b _ (List.mem_of_getElem? e) hb fun b' c hb' h1 h2 => ⟨_, Sub.refl _, r _ _ ⟨b', cs ++ [c], rfl, hb', by rw [List.map_append]; rfl, by rw [List.length_append, hc1]; rfl, fun x hx => ?_⟩⟩
    rcases List.mem_append.mp hx with z | z
    · exact hc x z
    · rw [List.mem_singleton.mp z]
      exact ⟨h1, h2⟩
  · obtain ⟨b, cs, rfl, hb, rfl, hc1, hc⟩ := h
    exact ⟨trivial, he b cs hb (by omega) hc⟩
def nmT2 : Sms := (.c (.ite (.cmp .isin (.var 11) (.tup (.c (.str [100, 101, 102]) (.c (.str [115, 101, 116]) (.c (.str [114, 101, 97, 100]) (.c (.str [119, 114, 105, 116, 101]) (.c (.str [99, 97, 108, 108]) (.c (.str [105, 102]) (.c (.str [101, 108, 115, 101]) (.c (.str [119, 104, 105, 108, 101]) (.c (.str [103, 105, 118, 101]) (.c (.str [101, 110, 100]) .n)))))))))))) (.c (.set 11 (.bin .add (.str [113, 113, 113, 113, 113, 113, 113]) (.var 10)))
  .n) .n)
  (.c (.expr (.bm .append (.var 8) (.c (.var 11) .n)))
  .n))
def nmT1 : Sms := (.c (.ite (.cmp .eq (.var 7) (.int 2)) (.c (.set 11 (.bin .add (.bm .join (.str []) (.c (.lc [14] (.name 14) (.rng1 (.call 2 (.c (.var 0) (.c (.int 8) .n)))) (.bl true) (.ix (.var 2) (.call 2 (.c (.var 0) (.c (.int 26) .n))))) .n)) (.var 10)))
  .n) .n)
  nmT2)
def nmBody : Sms := (.c (.set 10 (.ix (.var 2) (.bin .mod (.bin .add (.var 6) (.bin .mul (.int 5) (.var 9))) (.int 26))))
  (.c (.set 11 (.bin .add (.bin .add (.bm .join (.str []) (.c (.sl (.var 5) .part0 (.var 4)) .n)) (.var 10)) (.bm .join (.str []) (.c (.sl (.var 5) (.bin .add (.var 4) (.int 1)) .part0) .n))))
  (.c (.ite (.and (.cmp .eq (.var 7) (.int 1)) (.cmp .eq (.bin .mod (.var 9) (.int 2)) (.int 1))) (.c (.set 11 (.bin .add (.var 11) (.str [122])))
  .n) .n)
  nmT1)))
def nmEnd : Sms := (.c (.ite (.cmp .eq (.call 2 (.c (.var 0) (.c (.int 6) .n))) (.int 0)) (.c (.set 12 (.lst (.c (.str [110, 117, 109]) (.c (.str [118, 97, 114]) (.c (.str [111, 112]) (.c (.str [103, 111]) (.c (.str [97, 115, 107]) (.c (.str [98, 97, 99, 107]) (.c (.str [99, 104, 97, 105, 110]) (.c (.str [115, 101, 116, 115]) (.c (.str [105, 102, 102]) (.c (.str [101, 110, 100, 115]) (.c (.str [99, 97, 108, 108, 115]) (.c (.str [114, 101, 97, 100, 115]) (.c (.str [103, 105, 118, 101, 115]) .n)))))))))))))))
  (.c (.set 13 (.ix (.var 12) (.call 2 (.c (.var 0) (.c (.int 13) .n)))))
  (.c (.ite (.cmp .notin (.var 13) (.var 8)) (.c (.setIx (.var 8) (.call 2 (.c (.var 0) (.c (.var 1) .n))) (.var 13))
  .n) .n)
  .n))) .n)
  (.c (.ret (.var 8))
  .n))
def namesB : Sms := (.c (.set 2 (.str [97, 98, 99, 100, 101, 102, 103, 104, 105, 106, 107, 108, 109, 110, 111, 112, 113, 114, 115, 116, 117, 118, 119, 120, 121, 122]))
  (.c (.set 3 (.bin .add (.int 1) (.call 2 (.c (.var 0) (.c (.int 6) .n)))))
  (.c (.set 4 (.call 2 (.c (.var 0) (.c (.var 3) .n))))
  (.c (.set 5 (.lc [9] (.name 9) (.rng1 (.var 3)) (.bl true) (.ix (.var 2) (.call 2 (.c (.var 0) (.c (.int 26) .n))))))
  (.c (.set 6 (.call 2 (.c (.var 0) (.c (.int 26) .n))))
  (.c (.set 7 (.call 2 (.c (.var 0) (.c (.int 3) .n))))
  (.c (.set 8 (.lst .n))
  (.c (.for_ (.name 9) (.rng1 (.var 1)) nmBody)
  nmEnd))))))))
/-- n different names -/
abbrev spNamesV : Sp := fun ds m k _ => ∃ (p : Nat) (b : MO) (n : Nat), ds = [.ref p, .int n] ∧ m p = some b ∧ BoxO b ∧ 1 ≤ n ∧ n ≤ 26 ∧ ∀ b' ws, BoxO b' → Nms n ws → k (.rol (ws.map D.str)) (upd m p b')
abbrev spNamesT : Sp := fun ds m k _ => ∃ (p : Nat) (b : MO) (n : Nat), ds = [.ref p, .int n] ∧ m p = some b ∧ BoxO b ∧ 1 ≤ n ∧ n ≤ 26 ∧ ∀ b' ws, BoxO b' → Nms n ws → ∀ q, m q = none → k (.ref q) (upd (upd m q (.lst (ws.map D.str))) p b')
/-- a def's En here: slot 8 tracked, what is given back frozen or not -/
def En.nm (Γ : En) (z : Bool) : En := { Γ.w [8] with rz := z }
section
variable {Γ : En} {z : Bool}
theorem nm_v : (Γ.nm z).v = true := rfl
theorem nm_fn : (Γ.nm z).fn = Γ.fn := rfl
theorem nm_ax : (Γ.nm z).ax = Γ.nm z := rfl
theorem nm_rz : (Γ.nm z).rz = z := rfl
theorem nm_at {i : Nat} : (Γ.nm z).at i = if i ∈ [8] then (Γ.nm z).tr else Γ.nm z := rfl
theorem nmT2_ok {Z : Ends} {M : Mem} {L c : Nat} {w : List Nat} {ws : List (List Nat)} {o0 o1 o2 o3 o4 o5 o6 o7 o9 o12 o13 o14 : Option D} (hL : M L = some (.lst (ws.map D.str))) (hl : ws.length ≤ 100) (hw : okS w)
    (fin : ∀ w', ((w' = w ∧ w ∉ keptL) ∨ w' = q7 ++ [c]) → Z.nx [o0, o1, o2, o3, o4, o5, o6, o7, some (.ref L), o9, some (.str [c]), some (.str w'), o12, o13, o14] (upd M L (.lst ((ws ++ [w']).map D.str)))) :
    rSs (Γ.nm z) nmT2 Z [o0, o1, o2, o3, o4, o5, o6, o7, some (.ref L), o9, some (.str [c]), some (.str w), o12, o13, o14] M := by
  have app : ∀ w', ((w' = w ∧ w ∉ keptL) ∨ w' = q7 ++ [c]) → bmOk .append (.ref L) M ∧ rBm .append (.ref L) [.str w'] M fun _ m1 => Z.nx [o0, o1, o2, o3, o4, o5, o6, o7, some (.ref L), o9, some (.str [c]), some (.str w'), o12, o13, o14] m1 := fun w' hw' => by
    refine ⟨m_okL (.inl rfl) hL, ?_⟩
    rw [m_app hL]
    refine ⟨by unfold big; rw [List.length_map]; omega, ?_⟩
    have := fin w' hw'
    rw [List.map_append] at this
    exact this
  walk_at "r+ nmT2 nm_v nm_fn nm_ax nm_at"
  refine ins_tup (ws := keptL) hw kept_tx ?_
  walk_at "r+ rSs"
  exact ⟨fun h => ⟨by unfold big; omega, app _ (.inr rfl)⟩, fun h => app w (.inl ⟨rfl, h⟩)⟩
theorem rangeD_len0 {n : Int} : (rangeD 0 1 n.toNat).length = n.toNat := rangeD_len _ _ _
theorem nmT1_ok (hT : Γ.fn 2 = spTake) {Z : Ends} {m : Mem} {p L c : Nat} {b : MO} {form : Int} {w : List Nat} {ws : List (List Nat)} {o1 o3 o4 o5 o6 o9 o12 o13 o14 : Option D} (hb : BoxO b) (pL : p ≠ L) (hl : ws.length ≤ 100) (hw : okS w) (hc : 97 ≤ c ∧ c ≤ 122)
    (fin : ∀ w' b' o14, BoxO b' → ((w' = w ∧ form ≠ 2 ∧ w ∉ keptL) ∨ w' = q7 ++ [c] ∨ (form = 2 ∧ w' ∉ keptL ∧ ∃ r, w' = r ++ [c] ∧ r.length ≤ 7 ∧ ∀ x ∈ r, 97 ≤ x ∧ x ≤ 122)) →
      Z.nx [some (.ref p), o1, some (.str lett), o3, o4, o5, o6, some (.int form), some (.ref L), o9, some (.str [c]), some (.str w'), o12, o13, o14] (upd (upd m L (.lst ((ws ++ [w']).map D.str))) p b')) :
    rSs (Γ.nm z) nmT1 Z [some (.ref p), o1, some (.str lett), o3, o4, o5, o6, some (.int form), some (.ref L), o9, some (.str [c]), some (.str w), o12, o13, o14] (upd (upd m L (.lst (ws.map D.str))) p b) := by
  have can : ∀ (b : MO) (o o' : MO), upd (upd (upd m L o) p b) L o' = upd (upd m L o') p b := fun b o o' => by rw [upd_comm pL, upd_upd]
  have atL : ∀ (b o : MO), upd (upd m L o) p b L = some o := fun b o => by rw [upd_ne (Ne.symm pL)]; exact upd_same
  walk_at "r+ nmT1 nm_v nm_fn nm_ax nm_at"
  refine ⟨fun h => ?_, fun h => nmT2_ok (atL _ _) hl hw fun w' hw' => by rw [can]; exact fin w' b o14 hb (hw'.elim (fun z => .inl ⟨z.1, h, z.2⟩) fun z => .inr (.inl z))⟩
  refine tk hT hb (by decide) (by decide) fun b1 d1 hb1 l1 u1 => ⟨_, rfl, by unfold i62; omega, ?_⟩
  refine ⟨by rw [rangeD_len0]; unfold big; omega, rLc_lets hb1 (fun d b R hd hb hR => ?_) fun b2 cs hb2 hcl hcz => ?_⟩
  · refine tk hT hb (by decide) (by decide) fun b' d' hb' l' u' => ?_
    walk_at "r+ rSs"
    exact ⟨by decide, _, atI_lett l' u', hR b' _ hb' (by omega) (by omega)⟩
  · rw [rangeD_len0] at hcl
    refine m_join1 rfl (by unfold big; omega) ?_
    walk_at "r+ rSs"
    have h2 : ∀ w', ((w' = cs ++ [c] ∧ cs ++ [c] ∉ keptL) ∨ w' = q7 ++ [c]) → ((w' = w ∧ form ≠ 2 ∧ w ∉ keptL) ∨ w' = q7 ++ [c] ∨ (form = 2 ∧ w' ∉ keptL ∧ ∃ r, w' = r ++ [c] ∧ r.length ≤ 7 ∧ ∀ x ∈ r, 97 ≤ x ∧ x ≤ 122)) := fun w' hw' => by
      rcases hw' with ⟨z1, z2⟩ | z
      · exact .inr (.inr ⟨h, by rw [z1]; exact z2, cs, z1, by omega, hcz⟩)
      · exact .inr (.inl z)
    refine ⟨by unfold big; omega, nmT2_ok (atL _ _) hl (tx_of fun x hx => ?_) fun w' hw' => by rw [can]; exact fin w' b2 o14 hb2 (h2 w' hw')⟩
    · rcases List.mem_append.mp hx with z | z
      · exact hcz x z
      · rw [List.mem_singleton.mp z]
        exact hc
theorem nms_end (hT : Γ.fn 2 = spTake) {Z : Ends} {m : Mem} {p L n : Nat} {b : MO} {ws : List (List Nat)} {o2 o3 o4 o5 o6 o7 o9 o10 o11 o14 : Option D} (hb : BoxO b) (pL : p ≠ L) (hn : Nms n ws) (h1 : 1 ≤ n) (h26 : n ≤ 26)
    (fin : ∀ b' ws', BoxO b' → Nms n ws' → if z = true then frz (.ref L) (upd (upd m L (.lst (ws'.map D.str))) p b') Z.rt else Z.rt (.ref L) (upd (upd m L (.lst (ws'.map D.str))) p b')) :
    rSs (Γ.nm z) nmEnd Z [some (.ref p), some (.int n), o2, o3, o4, o5, o6, o7, some (.ref L), o9, o10, o11, none, none, o14] (upd (upd m L (.lst (ws.map D.str))) p b) := by
  have can : ∀ (b : MO) (o o' : MO), upd (upd (upd m L o) p b) L o' = upd (upd m L o') p b := fun b o o' => by rw [upd_comm pL, upd_upd]
  have atL : ∀ (b o : MO), upd (upd m L o) p b L = some o := fun b o => by rw [upd_ne (Ne.symm pL)]; exact upd_same
  walk_at "r+ nmEnd nm_v nm_fn nm_ax nm_at nm_rz"
  refine tk hT hb (by decide) (by decide) fun b1 d1 hb1 l1 u1 => ?_
  walk_at "r+ rSs"
  refine ⟨fun _ => ?_, fun _ => fin b1 ws hb1 hn⟩
  refine tk hT hb1 (by decide) (by decide) fun b2 d2 hb2 l2 u2 => ?_
  obtain ⟨dd, hdd, mdd⟩ := atI_lt (xs := oddL.map D.str) l2 (by rw [List.length_map]; exact u2)
  obtain ⟨w, mw, rfl⟩ := List.mem_map.mp mdd
  refine ⟨_, hdd, ?_⟩
  obtain ⟨w1, w2, w3, w4⟩ := odd_ok w mw
  refine ins_lst (atL _ _) (tx_of w2) (fun v hv => (hn.ok v hv).tx) ?_
  walk_at "r+ rSs"
  refine ⟨fun h => ?_, fun h => fin b2 ws hb2 hn⟩
  refine tk hT hb2 (by omega) (by omega) fun b3 d3 hb3 l3 u3 => ?_
  have hd3 : dIx (ws.map D.str).length d3 = some d3.toNat := by
    unfold dIx
    rw [if_pos l3, List.length_map, hn.len, if_pos u3]
  rw [s_lst (atL _ _)]
  refine ⟨_, hd3, ?_⟩
  rw [can, ← List.map_set]
  refine fin b3 (ws.set d3.toNat w) hb3 ⟨by rw [List.length_set]; exact hn.len, fun v hv => ?_, nodup_set _ hn.nd (by simpa using h)⟩
  rcases List.mem_or_eq_of_mem_set hv with z | z
  · exact hn.ok v z
  · rw [z]
    exact ⟨w1, w2, w3, w4⟩
theorem names_go (hT : Γ.fn 2 = spTake) {m : Mem} {k : Kt} {X : Exc → Mem → Prop} {p n : Nat} {b : MO} (hm : m p = some b) (hb : BoxO b) (h1 : 1 ≤ n) (h26 : n ≤ 26)
    (fin : ∀ b' ws' L, BoxO b' → Nms n ws' → m L = none → p ≠ L → if z = true then frz (.ref L) (upd (upd m L (.lst (ws'.map D.str))) p b') (fun d m1 => ∃ m2, Sub m2 m1 ∧ k d m2) else ∃ m2, Sub m2 (upd (upd m L (.lst (ws'.map D.str))) p b') ∧ k (.ref L) m2) :
    rSs (Γ.nm z) namesB { nx := fun _ m1 => ∃ m2, Sub m2 m1 ∧ k .non m2, rt := fun d m1 => ∃ m2, Sub m2 m1 ∧ k d m2, ex := fun _ e m1 => ∃ m2, Sub m2 m1 ∧ X e m2 } [some (.ref p), some (.int n), none, none, none, none, none, none, none, none, none, none, none, none, none] m := by
  rw [← upd_self hm]
  walk_at "r+ namesB nm_v nm_fn nm_ax nm_at nm_rz"
  refine tk hT hb (by decide) (by decide) fun b1 d1 hb1 l1 u1 => ?_
  walk_at "r+ rSs"
  refine tk hT hb1 (by omega) (by omega) fun b2 sp hb2 l2 u2 => ?_
  refine ⟨by unfold i62; omega, by rw [rangeD_len0]; unfold big; omega, rLc_lets hb2 (fun d b R hd hb hR => ?_) fun b3 cs hb3 hcl hcz => ?_⟩
  · refine tk hT hb (by decide) (by decide) fun b' d' hb' l' u' => ?_
    walk_at "r+ rSs"
    exact ⟨by decide, _, atI_lett l' u', hR b' _ hb' (by omega) (by omega)⟩
  rw [rangeD_len0] at hcl
  refine tk hT hb3 (by decide) (by decide) fun b4 fst hb4 l4 u4 => ?_
  refine tk hT hb4 (by decide) (by decide) fun b5 form hb5 l5 u5 => ?_
  intro L hL
  have hL' := upd_none hL
  have pL : p ≠ L := fun e => hL'.1 e.symm
  have e0 : (n : Int).toNat = n := Int.toNat_natCast n
  rw [upd_comm pL, e0]
  have can : ∀ (b : MO) (o o' : MO), upd (upd (upd m L o) p b) L o' = upd (upd m L o') p b := fun b o o' => by rw [upd_comm pL, upd_upd]
  have cl5 : (cs.take sp.toNat).length + (cs.drop (sp.toNat + 1)).length ≤ 5 := by
    rw [List.length_take, List.length_drop]
    omega
  refine ⟨by unfold i62; omega, rFor_by (fun j σ M => ∃ b ws o9 o10 o11 o14, σ = [some (.ref p), some (.int n), some (.str lett), some (.int (1 + d1)), some (.int sp), some (.rol (cs.map fun c => D.str [c])), some (.int fst), some (.int form), some (.ref L), o9, o10, o11, none, none, o14] ∧
      M = upd (upd m L (.lst (ws.map D.str))) p b ∧ BoxO b ∧ ws.length = j ∧ (∀ w ∈ ws, NmOk w) ∧ ws.Nodup ∧ ∀ w ∈ ws, ∃ i, i < j ∧ Fm form.toNat fst.toNat (cs.take sp.toNat) (cs.drop (sp.toNat + 1)) i w) 0
    ⟨b5, [], none, none, none, none, rfl, rfl, hb5, rfl, (fun _ h => by cases h), List.nodup_nil, fun _ h => by cases h⟩ (fun j d σ M R e h r => ?_) fun σ M h => ?_⟩
  · obtain ⟨b, ws, o9, o10, o11, o14, rfl, rfl, hb, hwl, hwo, hwn, hwf⟩ := h
    obtain ⟨hj, rfl⟩ := rangeD_get e
    have ej : (0 : Int) + (j : Int) * 1 = j := by omega
    rw [ej]
    rw [Nat.zero_add] at hwl hwf
    refine ⟨trivial, ?_⟩
    walk_at "r+ nmBody nm_v nm_fn nm_ax nm_at"
    refine ⟨by decide, _, one_atI l4, ?_⟩
    rw [cut_to l2, ← List.map_take]
    refine m_join1 rfl (by rw [List.length_take]; unfold big; omega) ?_
    walk_at "r+ rSs"
    refine ⟨by rw [List.length_take]; unfold big; omega, ?_⟩
    rw [cut_from (by omega), show (sp + 1).toNat = sp.toNat + 1 by omega, ← List.map_drop]
    refine m_join1 rfl (by rw [List.length_drop]; unfold big; omega) ?_
    walk_at "r+ rSs"
    have az1 : ∀ x ∈ cs.take sp.toNat, 97 ≤ x ∧ x ≤ 122 := fun x hx => hcz x (List.mem_of_mem_take hx)
    have az2 : ∀ x ∈ cs.drop (sp.toNat + 1), 97 ≤ x ∧ x ≤ 122 := fun x hx => hcz x (List.mem_of_mem_drop hx)
    have oz := one_az fst.toNat j
    have go : ∀ z' : List Nat, z'.length ≤ 1 → (∀ x ∈ z', 97 ≤ x ∧ x ≤ 122) → ∀ Z : Ends, (∀ s M, Z.nx s M = ∃ m2, Sub m2 M ∧ R s m2) → rSs (Γ.nm z) nmT1 Z
        [some (.ref p), some (.int n), some (.str lett), some (.int (1 + d1)), some (.int sp), some (.rol (cs.map fun c => D.str [c])), some (.int fst), some (.int form), some (.ref L), some (.int j), some (.str [oneN fst.toNat j]), some (.str (cs.take sp.toNat ++ oneN fst.toNat j :: (cs.drop (sp.toNat + 1) ++ z'))), none, none, o14] (upd (upd m L (.lst (ws.map D.str))) p b) := by
      intro z' hz1 hz2 Z hZ
      have azw : ∀ x ∈ cs.take sp.toNat ++ oneN fst.toNat j :: (cs.drop (sp.toNat + 1) ++ z'), 97 ≤ x ∧ x ≤ 122 := fun x hx => by
        rcases List.mem_append.mp hx with q | q
        · exact az1 x q
        · rcases List.mem_cons.mp q with q | q
          · rw [q]
            exact oz
          · rcases List.mem_append.mp q with q | q
            · exact az2 x q
            · exact hz2 x q
      refine nmT1_ok hT hb pL (by omega) (tx_of azw) oz fun w' b' o14 hb' hw' => ?_
      rw [hZ]
      refine ⟨_, Sub.refl _, r _ _ ⟨b', ws ++ [w'], _, _, _, o14, rfl, rfl, hb', by rw [List.length_append, hwl]; simp, ?_, ?_, ?_⟩⟩
      all_goals
        have hok : NmOk w' := by
          rcases hw' with ⟨z1, _, z3⟩ | z1 | ⟨_, z2, r', z3, z4, z5⟩
          · rw [z1]
            exact ⟨by simp, azw, by simp only [List.length_append, List.length_cons]; omega, z3⟩
          · rw [z1]
            exact q7_ok oz
          · refine ⟨by rw [z3]; simp, fun x hx => ?_, by rw [z3, List.length_append, List.length_singleton]; omega, z2⟩
            rw [z3] at hx
            rcases List.mem_append.mp hx with q | q
            · exact z5 x q
            · rw [List.mem_singleton.mp q]
              exact oz
        have hfm : Fm form.toNat fst.toNat (cs.take sp.toNat) (cs.drop (sp.toNat + 1)) j w' := by
          rcases hw' with ⟨z1, z2, _⟩ | z1 | ⟨z1, _, r', z3, _⟩
          · exact .inl ⟨by omega, z', hz1, z1⟩
          · exact .inr (.inl z1)
          · exact .inr (.inr ⟨by omega, r', z3⟩)
      · intro v hv
        rcases List.mem_append.mp hv with q | q
        · exact hwo v q
        · rw [List.mem_singleton.mp q]
          exact hok
      · rw [List.nodup_append]
        refine ⟨hwn, List.nodup_cons.mpr ⟨List.not_mem_nil, List.nodup_nil⟩, fun v hv u hu => ?_⟩
        rw [List.mem_singleton.mp hu]
        obtain ⟨i, hi, fi⟩ := hwf v hv
        exact fm_ne cl5 (by omega) (by omega) (by omega) fi hfm
      · intro v hv
        rcases List.mem_append.mp hv with q | q
        · obtain ⟨i, hi, fi⟩ := hwf v q
          exact ⟨i, by omega, fi⟩
        · rw [List.mem_singleton.mp q]
          exact ⟨j, by omega, hfm⟩
    have ew : cs.take sp.toNat ++ [oneN fst.toNat j] ++ cs.drop (sp.toNat + 1) = cs.take sp.toNat ++ oneN fst.toNat j :: (cs.drop (sp.toNat + 1) ++ []) := by simp
    refine ⟨by rw [List.length_append, List.length_take, List.length_drop]; unfold big; simp; omega, fun _ => ⟨fun _ => ⟨?_, ?_⟩, fun _ => ?_⟩, fun _ => ?_⟩
    · simp only [List.length_append, List.length_take, List.length_drop, List.length_cons, List.length_nil]
      unfold big
      omega
    · rw [show cs.take sp.toNat ++ [oneN fst.toNat j] ++ cs.drop (sp.toNat + 1) ++ [122] = cs.take sp.toNat ++ oneN fst.toNat j :: (cs.drop (sp.toNat + 1) ++ [122]) by simp]
      exact go [122] (by decide) (by decide) _ fun _ _ => rfl
    · rw [ew]
      exact go [] (by decide) (fun _ h => by cases h) _ fun _ _ => rfl
    · rw [ew]
      exact go [] (by decide) (fun _ h => by cases h) _ fun _ _ => rfl
  · obtain ⟨b, ws, o9, o10, o11, o14, rfl, rfl, hb, hwl, hwo, hwn, hwf⟩ := h
    rw [rangeD_len, Nat.zero_add] at hwl
    refine ⟨trivial, nms_end hT hb pL ⟨hwl, hwo, hwn⟩ h1 h26 fun b' ws' hb' hn' => fin b' ws' L hb' hn' hL'.2 pL⟩
theorem kp_namesV (hT : Γ.fn 2 = spTake) : Keeps (Γ.nm true) 15 namesB spNamesV := by
  rintro ds m k X ⟨p, b, n, rfl, hm, hb, h1, h26, hk⟩
  refine names_go hT hm hb h1 h26 fun b' ws' L hb' hn' hL pL => ?_
  rw [if_pos rfl, fz_lst (by rw [upd_ne (Ne.symm pL)]; exact upd_same)]
  refine ⟨_, ?_, hk b' ws' hb' hn'⟩
  refine Sub.del ?_ (by rw [upd_ne (Ne.symm pL)]; exact hL)
  exact Sub.upd (Sub.new hL)
theorem kp_namesT (hT : Γ.fn 2 = spTake) : Keeps (Γ.nm false) 15 namesB spNamesT := by
  rintro ds m k X ⟨p, b, n, rfl, hm, hb, h1, h26, hk⟩
  refine names_go hT hm hb h1 h26 fun b' ws' L hb' hn' hL pL => ?_
  rw [if_neg (by decide)]
  exact ⟨_, Sub.refl _, hk b' ws' hb' hn' L hL⟩
end
end DL

namespace LW
open DL
abbrev sp_law_box : Sp := spBox
abbrev sp_law_take : Sp := spTake
abbrev fLin : (List Nat) := [108, 105, 110, 101]
abbrev fNam : (List Nat) := [110, 97, 109, 101]
abbrev xL (l : Int) (a b c : (List Nat)) : List D := [.exc 1 [fLin] [.int l], .exc 2 [fNam] [.str a], .exc 3 [fNam] [.str b], .exc 4 [fNam] [.str c], .exc 5 [] [], .exc 6 [] [], .exc 7 [] [], .exc 8 [] []]
def kinL (c : Nat) : List D := [.bl (c == 1), .bl (c == 2), .bl (c == 3), .bl (c == 4), .bl (c == 5), .bl (c == 6), .bl (c == 7), .bl (c == 8)]
abbrev sp_law_names : Sp := spNamesV
abbrev sp_law_kinds : Sp := fun ds m k _ => ∃ (c : Nat) (fn : List (List Nat)) (vs : List D), ds = [.exc c fn vs] ∧ 1 ≤ c ∧ c ≤ 8 ∧ k (.rol (kinL c)) m
abbrev sp_law_good : Sp := fun ds m k _ => ∃ (l : Int) (a b c : (List Nat)), ds = [.rol (xL l a b c), .int l, .rol [.str a, .str b, .str c]] ∧ okS a ∧ okS b ∧ okS c ∧ k (.bl true) m
abbrev sp_law_made : Sp := fun ds m k _ => ∃ (l : Int) (a b c : (List Nat)), ds = [.int l, .rol [.str a, .str b, .str c]] ∧ k (.rol (xL l a b c)) m
abbrev sp_law : Sp := fun ds m k _ => ∃ ns : List Int, ds = [.scr ns] ∧ ns.length ≤ 63 ∧ ∀ m', k (.bl true) m'
def flds : List (Nat × PySem.Str) := []
def Γ : En := { fn := (fun i => match i with
    | 6 => sp_law_box
    | 2 => sp_law_take
    | 7 => sp_law_names
    | 136 => sp_law_kinds
    | 138 => sp_law_good
    | 137 => sp_law_made
    | 11 => sp_law
    | _ => fun _ _ _ _ => False), gl := (fun i => match i with
    | _ => .non), fk := fkT flds, xc := fun c => xsL.contains c }
theorem kp_law_box : Keeps Γ.al 4 b_law_box sp_law_box := kp_box
theorem kp_law_take : Keeps (Γ.w []) 5 b_law_take sp_law_take := kp_take
def kinB2 : Sms := .c (.ret (.bin .add (.var 1) (.lst (.c (.isx [7] (.var 0)) (.c (.isx [8] (.var 0)) .n))))) .n
def kinB1 : Sms := .c (.set 1 (.bin .add (.var 1) (.lst (.c (.isx [5] (.var 0)) (.c (.isx [6] (.var 0)) .n))))) kinB2
def kinB : Sms := .c (.set 1 (.lst (.c (.isx [1] (.var 0)) (.c (.isx [2] (.var 0)) (.c (.isx [3] (.var 0)) (.c (.isx [4] (.var 0)) .n)))))) kinB1
def madB1 : Sms := .c (.ret (.bin .add (.var 2) (.lst (.c (.mkx 5 .n) (.c (.mkx 6 .n) (.c (.mkx 7 .n) (.c (.mkx 8 .n) .n))))))) .n
def madB : Sms := .c (.set 2 (.lst (.c (.mkx 1 (.c (.var 0) .n)) (.c (.mkx 2 (.c (.ix (.var 1) (.int 0)) .n)) (.c (.mkx 3 (.c (.ix (.var 1) (.int 1)) .n)) (.c (.mkx 4 (.c (.ix (.var 1) (.int 2)) .n)) .n)))))) madB1
def gooF1 : Sms := .c (.ite (.cmp .ne (.call 136 (.c (.var 4) .n)) (.lc [5] (.name 5) (.rng1 (.int 8)) (.bl true) (.cmp .eq (.var 5) (.var 3)))) (.c (.ret (.bl false))
  .n) .n) .n
def gooF : Sms := .c (.ite (.or (.not (.isx [0] (.var 4))) (.not (.isx [9] (.var 4)))) (.c (.ret (.bl false))
  .n) .n) gooF1
def gooB1 : Sms := .c (.ret (.and (.cmp .eq (.xfld (.ix (.var 0) (.int 0)) [108, 105, 110, 101]) (.var 1)) (.cmp .eq (.lc [4] (.name 4) (.of (.sl (.var 0) (.int 1) (.int 4))) (.bl true) (.xfld (.var 4) [110, 97, 109, 101])) (.var 2)))) .n
def gooB : Sms := .c (.for_ (.tup (.c (.name 3) (.c (.name 4) .n))) (.enum (.var 0)) gooF) gooB1
def lawB6 : Sms := .c (.ret (.and (.call 138 (.c (.var 4) (.c (.var 2) (.c (.sl (.var 3) .part0 (.int 3)) .n)))) (.cmp .eq (.lc [6] (.name 6) (.of (.sl (.var 5) (.int 1) (.int 4))) (.bl true) (.xfld (.var 6) [110, 97, 109, 101])) (.sl (.var 3) (.int 3) .part0)))) .n
def lawB5 : Sms := .c (.ite (.or (.not (.call 138 (.c (.var 4) (.c (.var 2) (.c (.sl (.var 3) .part0 (.int 3)) .n))))) (.cmp .le (.xfld (.ix (.var 5) (.int 0)) [108, 105, 110, 101]) (.var 2))) (.c (.ret (.bl false))
  .n) .n) lawB6
def lawB4 : Sms := .c (.set 5 (.call 137 (.c (.bin .add (.bin .add (.var 2) (.int 1)) (.call 2 (.c (.var 1) (.c (.int 9) .n)))) (.c (.sl (.var 3) (.int 3) .part0) .n)))) lawB5
def lawB3 : Sms := .c (.set 4 (.call 137 (.c (.var 2) (.c (.sl (.var 3) .part0 (.int 3)) .n)))) lawB4
def lawB2 : Sms := .c (.set 3 (.call 7 (.c (.var 1) (.c (.int 6) .n)))) lawB3
def lawB1 : Sms := .c (.set 2 (.bin .add (.int 1) (.call 2 (.c (.var 1) (.c (.int 400) .n))))) lawB2
def lawB : Sms := .c (.set 1 (.call 6 (.c (.var 0) (.c (.int 0) .n)))) lawB1
theorem kp_law_names : Keeps (Γ.nm true) 15 b_law_names sp_law_names := kp_namesV rfl
theorem G2 : Γ.fn 2 = spTake := rfl
theorem G6 : Γ.fn 6 = spBox := rfl
theorem G7 : Γ.fn 7 = spNamesV := rfl
theorem G136 : Γ.fn 136 = sp_law_kinds := rfl
theorem G137 : Γ.fn 137 = sp_law_made := rfl
theorem G138 : Γ.fn 138 = sp_law_good := rfl
theorem xc_ok {c : Nat} (h1 : 1 ≤ c) (h2 : c ≤ 8) : Γ.xc c = true := by
  rcases (by omega : c = 1 ∨ c = 2 ∨ c = 3 ∨ c = 4 ∨ c = 5 ∨ c = 6 ∨ c = 7 ∨ c = 8) with rfl | rfl | rfl | rfl | rfl | rfl | rfl | rfl <;> rfl
theorem kp_law_kinds : Keeps (Γ.w []) 2 b_law_kinds sp_law_kinds := by
  rintro ds m k X ⟨c, fn, vs, rfl, h1, h2, hk⟩
  show rSs (Γ.w []) kinB _ [some _, none] m
  have hx := xc_ok h1 h2
  have hk2 : k (.rol (([.bl ([1].any fun j => excSub c j), .bl ([2].any fun j => excSub c j), .bl ([3].any fun j => excSub c j), .bl ([4].any fun j => excSub c j)] ++ [.bl ([5].any fun j => excSub c j), .bl ([6].any fun j => excSub c j)]) ++ [.bl ([7].any fun j => excSub c j), .bl ([8].any fun j => excSub c j)])) m := by
    clear hx
    rcases (by omega : c = 1 ∨ c = 2 ∨ c = 3 ∨ c = 4 ∨ c = 5 ∨ c = 6 ∨ c = 7 ∨ c = 8) with rfl | rfl | rfl | rfl | rfl | rfl | rfl | rfl <;> exact hk
  have hb : ∀ n : Nat, n ≤ 100 → n ≤ big := fun n h => by unfold big; omega
  have hi : ∀ {ks : List Nat} {kb : Bool → Prop}, rIsX Γ.xc ks (.exc c fn vs) m kb = kb (ks.any fun j => excSub c j) := fun {ks kb} => by
    rw [isX_exc, hx]
    simp only [true_and]
  simp only [kinB, rSs, rS, rE, rEs, sget0, sset0, w_at, w_xc, w_v, w_rz, List.not_mem_nil, if_false, hi, nv_t]
  simp only [kinB1, rSs, rS, rE, rEs, sget0, sgetS, sset0, ssetS, w_at, w_xc, w_v, w_rz, List.not_mem_nil, if_false, hi, nv_t, b_addrr]
  refine ⟨hb _ (by simp), ?_⟩
  simp only [kinB2, rSs, rS, rE, rEs, sget0, sgetS, sset0, ssetS, w_at, w_xc, w_v, w_rz, List.not_mem_nil, if_false, hi, nv_t, b_addrr, if_true]
  refine ⟨hb _ (by simp), ?_⟩
  simp only [fz_rol]
  exact ⟨_, Sub.refl _, hk2⟩
theorem kp_law_made : Keeps (Γ.w []) 3 b_law_made sp_law_made := by
  rintro ds m k X ⟨l, a, b, c, rfl, hk⟩
  show rSs (Γ.w []) madB _ [some _, some _, none] m
  have x1 : Γ.xc 1 = true := rfl
  have x2 : Γ.xc 2 = true := rfl
  have x3 : Γ.xc 3 = true := rfl
  have x4 : Γ.xc 4 = true := rfl
  have x5 : Γ.xc 5 = true := rfl
  have x6 : Γ.xc 6 = true := rfl
  have x7 : Γ.xc 7 = true := rfl
  have x8 : Γ.xc 8 = true := rfl
  walk_at "r+ madB x1 x2 x3 x4 atI0 atI1 atI2"
  walk_at "r+ madB1 x5 x6 x7 x8"
  refine ⟨by unfold big; decide, ?_⟩
  exact ⟨_, Sub.refl _, hk⟩
theorem eqvs_strs : ∀ ws : List (List Nat), D.eqvs (ws.map D.str) (ws.map D.str) = true
  | [] => rfl
  | w :: ws => by
    show (D.eqv (.str w) (.str w) && D.eqvs (ws.map D.str) (ws.map D.str)) = true
    rw [eqvs_strs ws, eqv_str]
    simp
theorem e_names {m : Mem} {a b c : (List Nat)} {kb : Bool → Prop} (ha : okS a) (hb : okS b) (hc : okS c) (hk : kb true) : rEq (.rol [.str a, .str b, .str c]) (.rol [.str a, .str b, .str c]) m kb := by
  have hp : D.plain 90 (.rol [.str a, .str b, .str c]) = true := strs_plain (n := 89) (ws := [a, b, c]) fun w hw => by
    simp only [List.mem_cons, List.not_mem_nil, or_false] at hw
    rcases hw with rfl | rfl | rfl
    · exact ha
    · exact hb
    · exact hc
  refine e_deep hp hp ?_
  rw [show D.eqv (.rol [.str a, .str b, .str c]) (.rol [.str a, .str b, .str c]) = D.eqvs ([a, b, c].map D.str) ([a, b, c].map D.str) from rfl, eqvs_strs]
  exact hk
def nmX : D → D
  | .exc _ _ [v] => v
  | _ => .non
theorem nms_X {l : Int} {a b c : (List Nat)} {m : Mem} {σ : St} {i : Nat} {kk : List D → Mem → Prop} (hg : ∀ d, sget (sset σ i d) i = some d) (h : kk [.str a, .str b, .str c] m) :
    rLc gTrue (rTg (.name i)) (fun _ m k => k true m) (rE (Γ.w []) (fun _ _ _ => False) (.xfld (.var i) fNam)) σ (cut (xL l a b c) (some 1) (some 4)) [] m kk := by
  rw [show cut (xL l a b c) (some 1) (some 4) = [.exc 2 [fNam] [.str a], .exc 3 [fNam] [.str b], .exc 4 [fNam] [.str c]] from rfl]
  refine rLc_map nmX trivial (fun d hd R hR => ?_) h
  simp only [rTg, rE, hg d]
  simp only [List.mem_cons, List.not_mem_nil, or_false] at hd
  rcases hd with rfl | rfl | rfl
  · exact ⟨2, _, _, _, rfl, rfl, by decide, rfl, hR _ (Sub.refl _)⟩
  · exact ⟨3, _, _, _, rfl, rfl, by decide, rfl, hR _ (Sub.refl _)⟩
  · exact ⟨4, _, _, _, rfl, rfl, by decide, rfl, hR _ (Sub.refl _)⟩
def isJ (i : Nat) : D → D
  | .int j => .bl (decide (j = (i : Nat)))
  | _ => .non
theorem kin_eq {i : Nat} (h : i < 8) : (rangeD 0 1 8).map (isJ i) = kinL (i + 1) ∧ D.plain 90 (.rol (kinL (i + 1))) = true ∧ D.eqv (.rol (kinL (i + 1))) (.rol (kinL (i + 1))) = true := by
  rcases (by omega : i = 0 ∨ i = 1 ∨ i = 2 ∨ i = 3 ∨ i = 4 ∨ i = 5 ∨ i = 6 ∨ i = 7) with rfl | rfl | rfl | rfl | rfl | rfl | rfl | rfl <;> exact ⟨rfl, rfl, rfl⟩
theorem xL_at {l : Int} {a b c : (List Nat)} {i : Nat} {y : D} (e : (pairUp 0 (xL l a b c))[i]? = some y) : i < 8 ∧ ∃ fn vs, y = .tup [.int (i : Nat), .exc (i + 1) fn vs] := by
  have hi : i < 8 := (List.getElem?_eq_some_iff.mp e).1
  refine ⟨hi, ?_⟩
  rcases (by omega : i = 0 ∨ i = 1 ∨ i = 2 ∨ i = 3 ∨ i = 4 ∨ i = 5 ∨ i = 6 ∨ i = 7) with rfl | rfl | rfl | rfl | rfl | rfl | rfl | rfl <;> exact ⟨_, _, (Option.some.inj e).symm⟩
theorem kp_law_good : Keeps (Γ.w []) 6 b_law_good sp_law_good := by
  rintro ds m k X ⟨l, a, b, c, rfl, ha, hb, hc, hk⟩
  show rSs (Γ.w []) gooB _ [some _, some _, some _, none, none, none] m
  simp only [gooB, rSs, rS, rE, rSrc, sget0]
  refine .inl ?_
  show rFor gTrue _ _ _ (pairUp 0 (xL l a b c)) _ m
  refine rFor_by (fun i σ M => ∃ (o3 o4 o5 : Option D), σ = [some (.rol (xL l a b c)), some (.int l), some (.rol [.str a, .str b, .str c]), o3, o4, o5] ∧ M = m) 0 ⟨_, _, _, rfl, rfl⟩ (fun i y σ M R e h rr => ?_) fun σ M h => ?_
  · obtain ⟨o3, o4, o5, rfl, rfl⟩ := h
    obtain ⟨hi, fn, vs, rfl⟩ := xL_at e
    obtain ⟨q1, q2, q3⟩ := kin_eq hi
    have hx := xc_ok (c := i + 1) (by omega) (by omega)
    have hI : ∀ {ks : List Nat} {kb : Bool → Prop}, rIsX Γ.xc ks (.exc (i + 1) fn vs) M kb = kb (ks.any fun j => excSub (i + 1) j) := fun {ks kb} => by
      rw [isX_exc, hx]
      simp only [true_and]
    have s0 : ([0].any fun j => excSub (i + 1) j) = true := by simp [excSub]
    have s9 : ([9].any fun j => excSub (i + 1) j) = true := by simp [excSub]
    refine ⟨trivial, ?_⟩
    simp only [gooF, rTg, rTgs, tgsLen, un_t, List.length_cons, List.length_nil, Nat.reduceAdd, true_and, sset0, ssetS, rSs, rS, rT, rE, sget0, sgetS, w_xc, hI, s0, s9, Bool.not_true, Bool.false_eq_true, false_implies, true_implies]
    walk_at "r+ gooF1 G136"
    refine ⟨i + 1, fn, vs, rfl, by omega, by omega, ⟨by decide, by decide⟩, by unfold big; decide, ?_⟩
    refine rLc_map (isJ i) trivial (fun d hd R2 hR => ?_) ?_
    · obtain ⟨j, rfl, _, _⟩ := rangeD_mem hd
      walk_at "r+ rSs"
      exact hR _ (Sub.refl _)
    · rw [q1]
      refine n_deep q2 q2 ?_
      rw [q3]
      refine ⟨(fun h => nomatch h), fun _ => ?_⟩
      exact ⟨_, Sub.refl _, rr _ _ ⟨_, _, _, rfl, rfl⟩⟩
  · obtain ⟨o3, o4, o5, rfl, rfl⟩ := h
    refine ⟨trivial, ?_⟩
    walk_at "r+ gooB1 atI0"
    refine ⟨1, _, _, _, rfl, rfl, by decide, rfl, ?_⟩
    refine e_int.mpr ?_
    rw [decide_eq_true rfl]
    refine ⟨fun _ => ?_, (fun h => nomatch h)⟩
    refine ⟨show 3 ≤ big by unfold big; omega, nms_X (i := 4) ?_ ?_⟩
    · exact fun d => rfl
    refine e_names ha hb hc ?_
    exact ⟨_, Sub.refl _, hk⟩
theorem kp_law : Keeps (Γ.w []) 7 b_law sp_law := by
  rintro ds m k X ⟨ns, rfl, hl, hk⟩
  have hk0 : ∀ m', k (.bl true) m' := hk
  show rSs (Γ.w []) lawB _ [some _, none, none, none, none, none, none] m
  walk_at "r+ lawB G6"
  refine ⟨ns, _, rfl, by omega, by omega, fun b hb p hp => ?_⟩
  walk_at "r+ lawB1"
  refine tk G2 hb (by decide) (by decide) fun b1 l hb1 l0 l1 => ?_
  walk_at "r+ lawB2 G7"
  refine ⟨p, b1, 6, rfl, upd_same, hb1, by decide, by decide, fun b2 ws hb2 hN => ?_⟩
  rw [upd_upd]
  obtain ⟨w0, w1, w2, w3, w4, w5, rfl⟩ : ∃ w0 w1 w2 w3 w4 w5, ws = [w0, w1, w2, w3, w4, w5] := by
    match ws, hN.len with
    | [w0, w1, w2, w3, w4, w5], _ => exact ⟨_, _, _, _, _, _, rfl⟩
  have k0 : okS w0 := (hN.ok w0 (by simp)).tx
  have k1 : okS w1 := (hN.ok w1 (by simp)).tx
  have k2 : okS w2 := (hN.ok w2 (by simp)).tx
  have k3 : okS w3 := (hN.ok w3 (by simp)).tx
  have k4 : okS w4 := (hN.ok w4 (by simp)).tx
  have k5 : okS w5 := (hN.ok w5 (by simp)).tx
  have ca : cut ([w0, w1, w2, w3, w4, w5].map D.str) none (some 3) = [.str w0, .str w1, .str w2] := rfl
  have cb : cut ([w0, w1, w2, w3, w4, w5].map D.str) (some 3) none = [.str w3, .str w4, .str w5] := rfl
  generalize hL : [w0, w1, w2, w3, w4, w5].map D.str = L at ca cb
  walk_at "r+ lawB3 ca"
  rw [G137]
  refine ⟨_, w0, w1, w2, rfl, ?_⟩
  walk_at "r+ lawB4 cb"
  refine tk G2 hb2 (by decide) (by decide) fun b3 z hb3 z0 z1 => ?_
  rw [G137]
  refine ⟨_, w3, w4, w5, rfl, ?_⟩
  walk_at "r+ lawB5 ca"
  rw [G138]
  refine ⟨_, w0, w1, w2, rfl, k0, k1, k2, ?_⟩
  walk_at "r+ atI0"
  refine ⟨1, _, _, _, rfl, rfl, by decide, rfl, ?_⟩
  walk_at "r+ rSs"
  refine ⟨fun h => absurd h (by omega), fun _ => ?_⟩
  walk_at "r+ lawB6 ca"
  rw [G138]
  refine ⟨_, w0, w1, w2, rfl, k0, k1, k2, ?_⟩
  walk_at "r+ cb"
  refine ⟨show 3 ≤ big by unfold big; omega, nms_X (i := 6) ?_ ?_⟩
  · exact fun d => rfl
  refine e_names k3 k4 k5 ?_
  exact ⟨_, Sub.refl _, hk0 _⟩
theorem law_ends (ns : List Int) (hl : ns.length ≤ 63) (hb : ∀ z ∈ ns, PySem.Builtin.Int.intBits z ≤ 1048576) : sp_law [.scr ns] (fun _ => none) (fun d _ => d = .bl true) (fun _ _ => False) := ⟨ns, rfl, hl, fun _ => rfl⟩
end LW

namespace LW
open PySem PySem.Spec PyProof.Rows DL
open L2 (V Hp FunD FnScope FnOk)
theorem facts {P : Program} {w : World} {K : PySem.W.Frag} {h : Heap} {mg : Str → Option Value} {f : Addr} (X : K.In h) (G : h.Ns mainGlobals mg) (hf : mg ("law" : Str) = some (.ref f)) (c : He.SaysD fa fn K) (cg : ∀ q ∈ gs, gV K q = true) (cx : ExTold K xsL) :
    ∃ fd : FuncData, (∀ (s : Shared) (v : Value), BindsTo s fd ⟨[v], []⟩ [("_law_script", v)]) ∧ ∀ base : Heap, K.In base → base.Ns mainGlobals mg → L2.Fi.FnD P w K mg base (L2.CX P w) 4 f fd ["_law_script"] (Lsp (clA K) K 1 sp_law) := by
  obtain ⟨x_law_box, F_law_box⟩ := c.def_ 0 (d := d_law_box) rfl
  obtain ⟨x_law_take, F_law_take⟩ := c.def_ 1 (d := d_law_take) rfl
  obtain ⟨x_law_names, F_law_names⟩ := c.def_ 2 (d := d_law_names) rfl
  obtain ⟨x_law_kinds, F_law_kinds⟩ := c.def_ 3 (d := d_law_kinds) rfl
  obtain ⟨x_law_good, F_law_good⟩ := c.def_ 4 (d := d_law_good) rfl
  obtain ⟨x_law_made, F_law_made⟩ := c.def_ 5 (d := d_law_made) rfl
  obtain ⟨x_law, F_law⟩ := c.def_ 6 (d := d_law) rfl
  have g_law_box := He.glo_ok X G (c.fact 0 (f := .glo "_law_box") rfl)
  have g_law_take := He.glo_ok X G (c.fact 1 (f := .glo "_law_take") rfl)
  have g_law_names := He.glo_ok X G (c.fact 2 (f := .glo "_law_names") rfl)
  have g_law_kinds := He.glo_ok X G (c.fact 3 (f := .glo "_law_kinds") rfl)
  have g_law_good := He.glo_ok X G (c.fact 4 (f := .glo "_law_good") rfl)
  have g_law_made := He.glo_ok X G (c.fact 5 (f := .glo "_law_made") rfl)
  have g_law := He.glo_ok X G (c.fact 6 (f := .glo "law") rfl)
  have z_len := He.free_ok X G (c.fact 7 (f := .free "len") rfl)
  have z_int := He.free_ok X G (c.fact 8 (f := .free "int") rfl)
  have z_range := He.free_ok X G (c.fact 9 (f := .free "range") rfl)
  have z_isinstance := He.free_ok X G (c.fact 10 (f := .free "isinstance") rfl)
  have z_enumerate := He.free_ok X G (c.fact 11 (f := .free "enumerate") rfl)
  have z_ValueError := He.free_ok X G (c.fact 12 (f := .free "ValueError") rfl)
  have e_BookError := He.glo_ok X G (c.fact 13 (f := .glo "BookError") rfl)
  have e_NoText := He.glo_ok X G (c.fact 14 (f := .glo "NoText") rfl)
  have e_Twice := He.glo_ok X G (c.fact 15 (f := .glo "Twice") rfl)
  have e_NoName := He.glo_ok X G (c.fact 16 (f := .glo "NoName") rfl)
  have e_NoCount := He.glo_ok X G (c.fact 17 (f := .glo "NoCount") rfl)
  have e_TooLong := He.glo_ok X G (c.fact 18 (f := .glo "TooLong") rfl)
  have e_TooDeep := He.glo_ok X G (c.fact 19 (f := .glo "TooDeep") rfl)
  have e_NoStep := He.glo_ok X G (c.fact 20 (f := .glo "NoStep") rfl)
  have e_NoRow := He.glo_ok X G (c.fact 21 (f := .glo "NoRow") rfl)
  have cxb : BaseI K (clA K 0) := cx.ba (by decide)
  have fl : FldAll (clA K) K Γ := fldT_all (tbl := flds) (fun _ _ => rfl) fldT_nil
  have e := hf.symm.trans g_law
  cases e
  refine ⟨x_law, fun s v => FunD.bindsA (ps := ["_law_script"]) F_law (fun _ _ _ _ _ _ us hl => match us, hl with | [_], _ => rfl) s [v] rfl, fun base _ _ => ?_⟩
  obtain ⟨x_NoText_init, F_NoText_init⟩ := c.def_ 7 (d := d_NoText_init) rfl
  have w_NoText_init : L2.FnOk P w K mg base (L2.CX P w) 1 (He.ma K (clA K 1) "__init__") x_NoText_init _ (spIni K (SX.S [108, 105, 110, 101])) := fn_ini F_NoText_init sc_NoText_init ci_NoText_init rfl rfl rfl cxb e_BookError
  obtain ⟨x_Twice_init, F_Twice_init⟩ := c.def_ 8 (d := d_Twice_init) rfl
  have w_Twice_init : L2.FnOk P w K mg base (L2.CX P w) 1 (He.ma K (clA K 2) "__init__") x_Twice_init _ (spIni K (SX.S [110, 97, 109, 101])) := fn_ini F_Twice_init sc_Twice_init ci_Twice_init rfl rfl rfl cxb e_BookError
  obtain ⟨x_NoName_init, F_NoName_init⟩ := c.def_ 9 (d := d_NoName_init) rfl
  have w_NoName_init : L2.FnOk P w K mg base (L2.CX P w) 1 (He.ma K (clA K 3) "__init__") x_NoName_init _ (spIni K (SX.S [110, 97, 109, 101])) := fn_ini F_NoName_init sc_NoName_init ci_NoName_init rfl rfl rfl cxb e_BookError
  obtain ⟨x_NoCount_init, F_NoCount_init⟩ := c.def_ 10 (d := d_NoCount_init) rfl
  have w_NoCount_init : L2.FnOk P w K mg base (L2.CX P w) 1 (He.ma K (clA K 4) "__init__") x_NoCount_init _ (spIni K (SX.S [110, 97, 109, 101])) := fn_ini F_NoCount_init sc_NoCount_init ci_NoCount_init rfl rfl rfl cxb e_BookError
  have k_law_box : KnwF (clA K) P w K mg base _ 2 sp_law_box 1 := knwF (k := 0) F_law_box sc_law_box rfl cc_law_box (fun _ _ _ _ _ _ us hl => match us, hl with | [_, _], _ => rfl) kp_law_box (env0 own_nil glb_nil (free_cons z_len (free_cons z_int free_nil)) cls_nil mth_nil fl rfl cx.all exn_nil exr_nil k2_nil)
  have k_law_take : KnwF (clA K) P w K mg base _ 2 sp_law_take 1 := knwF (k := 0) F_law_take sc_law_take rfl cc_law_take (fun _ _ _ _ _ _ us hl => match us, hl with | [_, _], _ => rfl) kp_law_take (env0 own_nil glb_nil free_nil cls_nil mth_nil fl rfl cx.all exn_nil exr_nil k2_nil)
  have k_law_names : KnwF (clA K) P w K mg base _ 2 sp_law_names 2 := knwF (k := 1) F_law_names sc_law_names rfl cc_law_names (fun _ _ _ _ _ _ us hl => match us, hl with | [_, _], _ => rfl) kp_law_names (env0 (own_cons (knw k_law_take g_law_take F_law_take.kp) rfl (by decide) own_nil) glb_nil (free_cons z_range free_nil) cls_nil mth_nil fl rfl cx.all exn_nil exr_nil k2_nil)
  have k_law_made : KnwF (clA K) P w K mg base _ 2 sp_law_made 3 := knwF (k := 2) F_law_made sc_law_made rfl cc_law_made (fun _ _ _ _ _ _ us hl => match us, hl with | [_, _], _ => rfl) kp_law_made (env0 own_nil glb_nil free_nil cls_nil mth_nil fl rfl cx.all exn_nil (exr_cons (rz_ini e_NoText (cx.rz 1 (by decide)) rfl (by decide) (cx.all.fld 1 _ rfl (by decide)) w_NoText_init (F_NoText_init.bindsN (fun _ _ _ _ _ _ us hl => match us, hl with | [_, _], _ => rfl))) (exr_cons (rz_ini e_Twice (cx.rz 2 (by decide)) rfl (by decide) (cx.all.fld 2 _ rfl (by decide)) w_Twice_init (F_Twice_init.bindsN (fun _ _ _ _ _ _ us hl => match us, hl with | [_, _], _ => rfl))) (exr_cons (rz_ini e_NoName (cx.rz 3 (by decide)) rfl (by decide) (cx.all.fld 3 _ rfl (by decide)) w_NoName_init (F_NoName_init.bindsN (fun _ _ _ _ _ _ us hl => match us, hl with | [_, _], _ => rfl))) (exr_cons (rz_ini e_NoCount (cx.rz 4 (by decide)) rfl (by decide) (cx.all.fld 4 _ rfl (by decide)) w_NoCount_init (F_NoCount_init.bindsN (fun _ _ _ _ _ _ us hl => match us, hl with | [_, _], _ => rfl))) (exr_cons (rz_bare e_TooLong (cx.rz 5 (by decide)) rfl) (exr_cons (rz_bare e_TooDeep (cx.rz 6 (by decide)) rfl) (exr_cons (rz_bare e_NoStep (cx.rz 7 (by decide)) rfl) (exr_cons (rz_bare e_NoRow (cx.rz 8 (by decide)) rfl) exr_nil)))))))) k2_nil)
  have k_law_kinds : KnwF (clA K) P w K mg base _ 1 sp_law_kinds 1 := knwF (k := 0) F_law_kinds sc_law_kinds rfl cc_law_kinds (fun _ _ _ _ _ _ us hl => match us, hl with | [_], _ => rfl) kp_law_kinds (env0 own_nil glb_nil (free_cons z_isinstance free_nil) cls_nil mth_nil fl rfl cx.all (exn_cons (j := 1) rfl e_NoText (rzB_kp (cx.rz 1 (by decide))) (exn_cons (j := 2) rfl e_Twice (rzB_kp (cx.rz 2 (by decide))) (exn_cons (j := 3) rfl e_NoName (rzB_kp (cx.rz 3 (by decide))) (exn_cons (j := 4) rfl e_NoCount (rzB_kp (cx.rz 4 (by decide))) (exn_cons (j := 5) rfl e_TooLong (rzB_kp (cx.rz 5 (by decide))) (exn_cons (j := 6) rfl e_TooDeep (rzB_kp (cx.rz 6 (by decide))) (exn_cons (j := 7) rfl e_NoStep (rzB_kp (cx.rz 7 (by decide))) (exn_cons (j := 8) rfl e_NoRow (rzB_kp (cx.rz 8 (by decide))) exn_nil)))))))) exr_nil k2_nil)
  have k_law_good : KnwF (clA K) P w K mg base _ 3 sp_law_good 2 := knwF (k := 1) F_law_good sc_law_good rfl cc_law_good (fun _ _ _ _ _ _ us hl => match us, hl with | [_, _, _], _ => rfl) kp_law_good (env0 (own_cons (knw k_law_kinds g_law_kinds F_law_kinds.kp) rfl (by decide) own_nil) glb_nil (free_cons z_enumerate (free_cons z_isinstance (free_cons z_ValueError (free_cons z_range free_nil)))) cls_nil mth_nil fl rfl cx.all (exn_cons (j := 0) rfl e_BookError (rzB_kp (cx.rz 0 (by decide))) exn_nil) exr_nil k2_nil)
  exact fnok_of (k := 3) F_law sc_law rfl cc_law kp_law (env0 (own_cons (knw k_law_box g_law_box F_law_box.kp) rfl (by decide) (own_cons (knw k_law_names g_law_names F_law_names.kp) rfl (by decide) (own_cons (knw k_law_made g_law_made F_law_made.kp) rfl (by decide) (own_cons (knw k_law_take g_law_take F_law_take.kp) rfl (by decide) (own_cons (knw k_law_good g_law_good F_law_good.kp) rfl (by decide) own_nil))))) glb_nil free_nil cls_nil mth_nil fl rfl cx.all exn_nil exr_nil k2_nil)
end LW
open PySem PySem.W PySem.Calls PyProof.Rows
theorem PySem.Challenge.cw_againbook_k07_refusals_and_their_fields_holds : PySem.Challenge.rw_againbook_k07_refusals_and_their_fields.Holds := by
  w_on; o_law
  refine HandSHeadRun.head_any (r := LW.Ro) (q := view LW.Ro.prog [18]) (H := LW.hook) (ob := LW.seen) (M := 60000) (loose := LW.loose) (d := HandSHeadRun.topDef LW.Ro.prog 18) (kwd := []) LW.seen_eq (by kernel_rfl)
    (fun s => by kernel_rfl) LW.ran (by kernel_rfl) (by kernel_rfl) (by kernel_rfl) rfl (by first | assumption | decide +kernel) (by decide +kernel) ⟨rfl, rfl, rfl, rfl, rfl, by decide +kernel⟩ ?wit ?walk
  case wit => w_witness2
  case walk =>
    refine DL.walkW (l := PySem.Challenge.rw_againbook_k07_refusals_and_their_fields) (n := 63) (k := 4) (x := "_law_script") (sp := LW.sp_law) rfl (by decide) (by kernel_rfl) (by decide) (fun w mg fa h Y G hm => ?_) LW.law_ends
    obtain ⟨K, X, c⟩ := Y
    have nm : (HandSHeadRun.topDef LW.Ro.prog 18).name = ("law" : PySem.Str) := by kernel_rfl
    obtain ⟨fd, b, q⟩ := LW.facts (P := (PySem.Challenge.rw_againbook_k07_refusals_and_their_fields).prog) (w := w) X G (nm ▸ hm) c.1 c.2.1 c.2.2
    exact ⟨K, fd, DL.clA K, X, b, q⟩

