import PyProof.Rows.All
import Wide.All
import OpenK.AllK
import Wide.FinOn
import HandS.ForMost
import HandS.Exc
import HandS.TryOnly
import HandS.ExcOwn
import HandS.ExcInit
import HandS.ExcValue
import HandS.ExcIs
import HandS.ExcField
import HandS.WordsExc
import HandS.Defaults
import HandS.HeadHook1
import HandS.HeadHook2
import HandS.Head0
import HandS.Head1
import HandS.Head2
import HandS.HeadEnd
import KE.KDictKeyed
import KE.KeyNested
import HandS.Deep
import HandS.TupAny
import HandS.IsInst
import HandS.Codes
import HandS.Text
import HandS.TupLen
import HandS.Property
import HandS.CallSlots
import HandS.MakeKw
import KE.GoesEnum
import KE.GoesMore
import HandS.MakeKwOnly
import HandS.Style
import PySem.Challenge.RW_pathgrafts_k00_errors_made
set_option Elab.async false
section
set_option linter.all false
set_option maxRecDepth 100000
set_option maxHeartbeats 4000000
namespace Z
open PySem PySem.Spec PyProof.Rows L2

/-! data without a heap, a store of the objects that may change -/
inductive D where
  | non | bl (b : Bool) | int (i : Int) | str (x : Str) | tup (l : List D) | fro (l : List D) | ref (i : Nat)
inductive O where
  | lst (l : List D) | dic (l : List (D × D)) | ins (c : Nat) (fs : List (Nat × D)) | exn (c : Nat) (fs : List (Nat × D))
abbrev Sto := List O
abbrev Loc := List (Option D)
/-- an exception of the program's own: its class (by its place in the table), its one field -/
structure Exn where
  cls : Nat
  arg : Option D
mutual
def D.beq : D → D → Bool
  | .non, .non => true
  | .bl a, .bl b => a == b
  | .int a, .int b => decide (a = b)
  | .str a, .str b => decide (a = b)
  | .tup a, .tup b => D.beqs a b
  | .fro a, .fro b => D.beqs a b
  | .ref a, .ref b => a == b
  | _, _ => false
def D.beqs : List D → List D → Bool
  | [], [] => true
  | a :: as, b :: bs => D.beq a b && D.beqs as bs
  | _, _ => false
end
mutual
theorem D.beq_self : ∀ a : D, D.beq a a = true
  | .non => rfl
  | .bl a => by simp [D.beq]
  | .int a => by simp [D.beq]
  | .str a => by simp [D.beq]
  | .tup a => by rw [D.beq]; exact D.beqs_self a
  | .fro a => by rw [D.beq]; exact D.beqs_self a
  | .ref a => by simp [D.beq]
theorem D.beqs_self : ∀ a : List D, D.beqs a a = true
  | [] => rfl
  | a :: as => by rw [D.beqs, D.beq_self a, D.beqs_self as]; rfl
end
mutual
theorem D.eq_of_beq : ∀ a b : D, D.beq a b = true → a = b
  | .non, b, h => by cases b <;> simp_all [D.beq]
  | .bl a, b, h => by cases b <;> simp_all [D.beq]
  | .int a, b, h => by cases b <;> simp_all [D.beq]
  | .str a, b, h => by cases b <;> simp_all [D.beq]
  | .ref a, b, h => by cases b <;> simp_all [D.beq]
  | .tup a, b, h => by
    cases b with
    | tup b => rw [D.beq] at h; rw [D.eq_of_beqs a b h]
    | _ => simp [D.beq] at h
  | .fro a, b, h => by
    cases b with
    | fro b => rw [D.beq] at h; rw [D.eq_of_beqs a b h]
    | _ => simp [D.beq] at h
theorem D.eq_of_beqs : ∀ a b : List D, D.beqs a b = true → a = b
  | [], [], _ => rfl
  | a :: as, b :: bs, h => by
    rw [D.beqs, Bool.and_eq_true] at h
    rw [D.eq_of_beq a b h.1, D.eq_of_beqs as bs h.2]
  | [], _ :: _, h => by simp [D.beqs] at h
  | _ :: _, [], h => by simp [D.beqs] at h
end
instance : DecidableEq D := fun a b => if h : D.beq a b = true then Decidable.isTrue (D.eq_of_beq a b h) else Decidable.isFalse fun e => h (e ▸ D.beq_self a)
instance : Inhabited D := ⟨.non⟩
/-- what is told of a program once: its names, classes, exceptions, methods -/
structure Names where
  names : List Str
  classes : List Str
  excs : List (Str × Option Str)

/-- where a def stands: a global, a method, a property's getter, a static method's function -/
def zAd (K : PySem.W.Frag) (p : Str × Option Str) : Addr := match PySem.W.recIn K (He.fAd K p) "property" with
  | some (.ref g :: _) => g
  | _ => (match PySem.W.recIn K (He.fAd K p) "staticmethod" with
    | some (.ref g :: _) => g
    | _ => He.fAd K p)
/-- a list that nobody may change: the script -/
def FrL (K : PySem.W.Frag) (H : Hp) (a : Addr) (xs : List V) : Prop :=
  (∃ o, H a = some (.frz o (.lst xs))) ∨ ∃ (o : Obj) (its : Array Value) (n : Nat), K.lookup a = some o ∧ o.cls = .type "list" ∧ o.dict = none ∧ o.data = .seq its n ∧ its.size ≤ sizeLine ∧ Vals xs its.toList
section
variable (K : PySem.W.Frag)
mutual
def RelD (ρ : List Addr) (H : Hp) : D → V → Prop
  | .non, v => v = .non
  | .bl b, v => v = .bl b
  | .int i, v => v = .int i
  | .str x, v => v = .str x
  | .tup ds, v => ∃ a vs, v = .ref a ∧ SqT K H a vs ∧ RelDs ρ H ds vs
  | .fro ds, v => ∃ a vs, v = .ref a ∧ FrL K H a vs ∧ RelDs ρ H ds vs
  | .ref i, v => ∃ a, ρ[i]? = some a ∧ v = .ref a
def RelDs (ρ : List Addr) (H : Hp) : List D → List V → Prop
  | [], vs => vs = []
  | d :: ds, vs => ∃ v r, vs = v :: r ∧ RelD ρ H d v ∧ RelDs ρ H ds r
end
/-- attributes by name -/
def RelF (T : Names) (ρ : List Addr) (H : Hp) : List (Nat × D) → List (Str × V) → Prop := Paired fun p q => T.names[p.1]? = some q.1 ∧ RelD K ρ H p.2 q.2
/-- a flat key -/
def keyOf : D → Option Key
  | .int i => some (.inl i)
  | .str x => some (.inr x)
  | _ => none
def RelK (ρ : List Addr) (H : Hp) : List (D × D) → List (Key × V) → Prop := Paired fun p q => keyOf p.1 = some q.1 ∧ RelD K ρ H p.2 q.2
end

mutual
/-- a key that is a tuple, or within one -/
def nkey : D → Option NestedKey
  | .non => some .none
  | .bl b => some (.num (if b = true then 1 else 0))
  | .int i => some (.num i)
  | .str x => some (.text x)
  | .tup ds => (nkeys ds).map .tup
  | .fro _ => none
  | .ref _ => none
def nkeys : List D → Option (List NestedKey)
  | [] => some []
  | d :: ds => match nkey d, nkeys ds with
    | some k, some ks => some (k :: ks)
    | _, _ => none
end

/-- a dict at a with tuple keys: its one object -/
def DTx (P : Program) (w : World) (a : Addr) (xs : List (NestedKey × Addr × Value)) (h : Heap) : Prop :=
  ∃ o es ep, h.get? a = some o ∧ o.ExactDict ∧ o.data = .dict es ep ∧ es.toList = xs.map (entryOfKey (nestedKind P w)) ∧ (xs.map (·.1)).Nodup ∧ xs.length ≤ sizeLine

section
variable (P : Program) (w : World) (K : PySem.W.Frag) (T : Names)
def RelT (ρ : List Addr) (H : Hp) : List (D × D) → List (NestedKey × Addr × Value) → Prop :=
  Paired fun p q => (∃ ds, p.1 = .tup ds) ∧ nkey p.1 = some q.1 ∧ NestedKey.depth q.1 ≤ 8 ∧ RelD K ρ H p.1 (.ref q.2.1) ∧ ∃ v, RelV v q.2.2 ∧ RelD K ρ H p.2 v
def RelO (ρ : List Addr) (H : Hp) (a : Addr) : O → Prop
  | .lst l => ∃ vs, H a = some (.lst vs) ∧ RelDs K ρ H l vs
  | .dic l => (∃ kvs, H a = some (.dK kvs) ∧ RelK K ρ H l kvs) ∨ (l ≠ [] ∧ ∃ xs, H a = some (.ext (DTx P w a xs)) ∧ (a == sysModules) = false ∧ RelT K ρ H l xs)
  | .ins c fs => ∃ x dx vs, T.classes[c]? = some x ∧ H a = some (.ins (He.ga K x) dx vs) ∧ RelF K T ρ H fs vs
  | .exn c fs => ∃ nm fld, T.excs[c]? = some (nm, fld) ∧ match fld with
    | none => fs = [] ∧ H a = some (ExO (.ref (He.ga K nm)) a)
    | some f => (fs = [] ∧ H a = some (exo a (He.ga K nm) none)) ∨ ∃ m d dx v, fs = [(m, d)] ∧ T.names[m]? = some f ∧ H a = some (exo a (He.ga K nm) (some dx)) ∧ H dx = some (exd dx [(f, v)]) ∧ dx ∉ ρ ∧ RelD K ρ H d v
structure RelS (ρ : List Addr) (st : Sto) (H : Hp) : Prop where
  len : ρ.length = st.length
  nd : ρ.Nodup
  obj : ∀ (i : Nat) (o : O) (a : Addr), st[i]? = some o → ρ[i]? = some a → RelO P w K T ρ H a o
end
end Z
end
section
set_option linter.all false
set_option maxRecDepth 100000
set_option maxHeartbeats 4000000
namespace Z
open PySem PySem.Spec PyProof.Rows L2

/-! ## the small language -/
inductive Ty where
  | int | bool | str | tuple | list | dict | none_ | own (c : Nat)
  deriving DecidableEq
inductive Op where
  | tup | lst
  | add | sub | mul | mod | fdiv | pow | neg
  | eq | ne | lt | le | gt | ge | isN | notN | isin | notin
  | ix | sl (lo hi : Bool)
  | len | abs | int | min2 | max2 | all_ | any_ | sum | tupOf | lstOf
  | isi (c : Ty)
  | isx (c : Option Nat)
  | append | popAt | pop | extend
  | ddisp | get1 | get2
  | join
inductive Tg where
  | name (i : Nat)
  | tup (l : List Tg)
mutual
inductive E where
  | var (i : Nat)
  | cst (d : D)
  | op (o : Op) (es : List E)
  | and (a b : E) | or (a b : E) | not (a : E)
  | ifx (t a b : E)
  | chain (o1 o2 : Op) (a b c : E)
  | slB (a b c : E)
  | call (f : Nat) (es : List E)
  | bm (o : Op) (a : E) (es : List E)
  | meth (m : Nat) (o : E) (es : List E)
  | new (c : Nat) (es : List E)
  | xnew (c : Nat) (es : List E)
  | ddisp (es : List E)
  | attr (o : E) (x : Nat)
  | lc (own : List Nat) (tg : Tg) (it : It) (elt : E)
  | lcif (own : List Nat) (tg : Tg) (it : It) (t : E) (elt : E)
inductive It where
  | seq (e : E)
  | rng1 (a : E) | rng2 (a b : E)
  | enum (e : E)
  | zip (a b : E)
end
inductive S where
  | nil
  | cons (a b : S)
  | expr (e : E)
  | ret (e : E)
  | asg (tg : Tg) (e : E)
  | asgS (o i e : E)
  | asgF (o : E) (x : Nat) (e : E)
  | aug (i : Nat) (o : Op) (e : E)
  | ife (t : E) (a b : S)
  | whl (t : E) (a : S)
  | fore (tg : Tg) (it : It) (a : S)
  | brk | cont
  | raise (x : Nat) (arg : Option E)
  | try1 (a : S) (xs : List Nat) (h : S)
end Z
namespace Z
open PySem PySem.Spec PyProof.Rows L2

/-! ## data, as the library's == sees it -/
def lstAt (st : Sto) (i : Nat) : Option (List D) := match st[i]? with
  | some (.lst l) => some l
  | _ => none
def seqOf (st : Sto) : D → Option (List D)
  | .tup l => some l
  | .fro l => some l
  | .ref i => lstAt st i
  | _ => none
def pyd (st : Sto) : Nat → D → Option PyData
  | _, .non => some .none
  | _, .bl b => some (.bool b)
  | _, .int i => some (.int i)
  | _, .str x => some (.str x)
  | 0, .tup _ => none
  | 0, .fro _ => none
  | 0, .ref _ => none
  | n + 1, .tup l => (l.mapM (pyd st n)).map .tuple
  | n + 1, .fro l => (l.mapM (pyd st n)).map .list
  | n + 1, .ref i => match lstAt st i with
    | some l => (l.mapM (pyd st n)).map .list
    | none => none
def eqD (st : Sto) (a b : D) : Option Bool := match pyd st 12 a, pyd st 12 b with
  | some p, some q => if SeqAt.shaped p = true ∧ SeqAt.shaped q = true then some (PyData.eqv p q) else none
  | _, _ => none
def inD (st : Sto) (a : D) (l : List D) : Option Bool := match pyd st 12 a, l.mapM (pyd st 12) with
  | some p, some qs => if SeqAt.shaped p = true ∧ SeqAt.shaped (.list qs) = true then some (qs.any fun z => PyData.eqv z p) else none
  | _, _ => none

/-! ## dicts -/
def flat (d : D) : Bool := (keyOf d).isSome
def isTup : D → Bool
  | .tup _ => true
  | _ => false
/-- keys that one dict may hold together: all flat, or all tuples -/
def keyFits (l : List (D × D)) (k : D) : Bool := (flat k && l.all fun p => flat p.1) || (isTup k && (match nkey k with | some n => decide (n.depth ≤ 8) | none => false) && l.all fun p => isTup p.1)
def sameKey (a b : D) : Bool := match keyOf a, keyOf b with
  | some x, some y => decide (x = y)
  | _, _ => match nkey a, nkey b with
    | some x, some y => decide (x = y)
    | _, _ => false
def dget : List (D × D) → D → Option D
  | [], _ => none
  | p :: l, k => if sameKey p.1 k = true then some p.2 else dget l k
def dset : List (D × D) → D → D → List (D × D)
  | [], k, v => [(k, v)]
  | p :: l, k, v => if sameKey p.1 k = true then (p.1, v) :: l else p :: dset l k v

instance (i j : Int) : Decidable (CMul i j) := by unfold CMul; infer_instance
instance (i j : Int) : Decidable (CDivN i j) := by unfold CDivN; infer_instance
instance (i j : Int) : Decidable (CPow i j) := by unfold CPow; infer_instance
/-! ## what the built-in operations give -/
def unbl : D → Option Bool
  | .bl b => some b
  | _ => none
def unint : D → Option Int
  | .int i => some i
  | _ => none
def unstr : D → Option Str
  | .str x => some x
  | _ => none
/-- the class of a value -/
def tagOf (st : Sto) : D → Option Ty
  | .non => some .none_
  | .bl _ => some .bool
  | .int _ => some .int
  | .str _ => some .str
  | .tup _ => some .tuple
  | .fro _ => some .list
  | .ref i => match st[i]? with
    | some (.lst _) => some .list
    | some (.dic _) => some .dict
    | some (.ins c _) => some (.own c)
    | some (.exn _ _) => none
    | none => none
def tyIs (c t : Ty) : Bool := decide (c = t) || (decide (c = .int) && decide (t = .bool))
def pairsOf : List D → Option (List (D × D))
  | [] => some []
  | k :: v :: r => (pairsOf r).map fun l => (k, v) :: l
  | _ => none
def mergeD (l : List (D × D)) (ps : List (D × D)) : List (D × D) := ps.foldl (fun l p => dset l p.1 p.2) l
def opt : Option D → Option Int
  | some (.int i) => some i
  | _ => none
def slParts (lo hi : Bool) (ds : List D) : Option (Option Int × Option Int) := match lo, hi, ds with
  | false, false, [] => some (none, none)
  | true, false, [.int i] => some (some i, none)
  | false, true, [.int j] => some (none, some j)
  | true, true, [.int i, .int j] => some (some i, some j)
  | _, _, _ => none
def cutD (xs : List D) (lo hi : Option Int) : List D := (xs.drop (HT.sIx xs.length 0 lo)).take (HT.sIx xs.length xs.length hi - HT.sIx xs.length 0 lo)
def one (d : D) (st : Sto) : Option (D × Sto) := some (d, st)
def newL (l : List D) (st : Sto) : Option (D × Sto) := if l.length ≤ sizeLine then some (.ref st.length, st ++ [.lst l]) else none
def tupD (l : List D) (st : Sto) : Option (D × Sto) := if l.length ≤ sizeLine then some (.tup l, st) else none
def pTup : List D → Sto → Option (D × Sto)
  | ds, st => tupD ds st
def pLst : List D → Sto → Option (D × Sto)
  | ds, st => newL ds st
def pAdd : List D → Sto → Option (D × Sto)
  | [.int a, .int b], st => one (.int (a + b)) st
  | [.str a, .str b], st => if a.length + b.length ≤ sizeLine then one (.str (a ++ b)) st else none
  | [.tup a, .tup b], st => if a.length + b.length ≤ sizeLine then one (.tup (a ++ b)) st else none
  | [.ref i, .ref j], st => match st[i]?, st[j]? with
    | some (.lst a), some (.lst b) => newL (a ++ b) st
    | _, _ => none
  | _, _ => none
def pSub : List D → Sto → Option (D × Sto)
  | [.int a, .int b], st => one (.int (a - b)) st
  | _, _ => none
def pMul : List D → Sto → Option (D × Sto)
  | [.int a, .int b], st => if CMul a b then one (.int (a * b)) st else none
  | [.ref i, .int k], st => match st[i]? with
    | some (.lst a) => if -(2 ^ 63) ≤ k ∧ k < 2 ^ 63 ∧ a.length * k.toNat ≤ sizeLine then newL (List.replicate k.toNat a).flatten st else none
    | _ => none
  | _, _ => none
def pMod : List D → Sto → Option (D × Sto)
  | [.int a, .int b], st => if b ≠ 0 then one (.int (a.fmod b)) st else none
  | _, _ => none
def pFdiv : List D → Sto → Option (D × Sto)
  | [.int a, .int b], st => if CDivN a b then one (.int (a.fdiv b)) st else none
  | _, _ => none
def pPow : List D → Sto → Option (D × Sto)
  | [.int a, .int b], st => if CPow a b then one (.int (a ^ b.toNat)) st else none
  | _, _ => none
def pNeg : List D → Sto → Option (D × Sto)
  | [.int a], st => one (.int (-a)) st
  | _, _ => none
def pEq : List D → Sto → Option (D × Sto)
  | [a, b], st => (eqD st a b).map fun r => (.bl r, st)
  | _, _ => none
def pNe : List D → Sto → Option (D × Sto)
  | [a, b], st => (eqD st a b).map fun r => (.bl (!r), st)
  | _, _ => none
def pLt : List D → Sto → Option (D × Sto)
  | [.int a, .int b], st => one (.bl (decide (a < b))) st
  | [.str a, .str b], st => one (.bl (decide (a.cps.toList < b.cps.toList))) st
  | _, _ => none
def pLe : List D → Sto → Option (D × Sto)
  | [.int a, .int b], st => one (.bl (decide (a ≤ b))) st
  | [.str a, .str b], st => one (.bl (!decide (b.cps.toList < a.cps.toList))) st
  | _, _ => none
def pGt : List D → Sto → Option (D × Sto)
  | [.int a, .int b], st => one (.bl (decide (b < a))) st
  | _, _ => none
def pGe : List D → Sto → Option (D × Sto)
  | [.int a, .int b], st => one (.bl (decide (b ≤ a))) st
  | _, _ => none
def pIsN : List D → Sto → Option (D × Sto)
  | [a, .non], st => one (.bl (decide (a = .non))) st
  | _, _ => none
def pNotN : List D → Sto → Option (D × Sto)
  | [a, .non], st => one (.bl (!decide (a = .non))) st
  | _, _ => none
def pIsin : List D → Sto → Option (D × Sto)
  | [a, .tup l], st => (inD st a l).map fun r => (.bl r, st)
  | [a, .str z], st => match a with
    | .str x => one (.bl (!(Builtin.Str.occurrences z x 0 z.length 1).isEmpty)) st
    | _ => none
  | [a, .ref i], st => match st[i]? with
    | some (.dic l) => if keyFits l a = true then one (.bl (dget l a).isSome) st else none
    | _ => match lstAt st i with
      | some l => (inD st a l).map fun r => (.bl r, st)
      | none => none
  | _, _ => none
def pNotin : List D → Sto → Option (D × Sto)
  | [a, .tup l], st => (inD st a l).map fun r => (.bl (!r), st)
  | [a, .str z], st => match a with
    | .str x => one (.bl (Builtin.Str.occurrences z x 0 z.length 1).isEmpty) st
    | _ => none
  | [a, .ref i], st => match st[i]? with
    | some (.dic l) => if keyFits l a = true then one (.bl (!(dget l a).isSome)) st else none
    | _ => match lstAt st i with
      | some l => (inD st a l).map fun r => (.bl (!r), st)
      | none => none
  | _, _ => none
def pIx : List D → Sto → Option (D × Sto)
  | [.fro l, .int i], st => (atI l i).map fun d => (d, st)
  | [.tup l, .int i], st => (atI l i).map fun d => (d, st)
  | [.str z, .int i], st => if z.length ≤ sizeLine then (atI z.cps.toList i).map fun c => (.str ⟨#[c]⟩, st) else none
  | [.ref j, k], st => match st[j]? with
    | some (.dic l) => if keyFits l k = true then (dget l k).map fun d => (d, st) else none
    | _ => match lstAt st j, k with
      | some l, .int i => (atI l i).map fun d => (d, st)
      | _, _ => none
  | _, _ => none
def slD (d : D) (lo hi : Option Int) (st : Sto) : Option (D × Sto) := match d with
  | .tup l => some (.tup (cutD l lo hi), st)
  | .fro l => newL (cutD l lo hi) st
  | .str z => if z.length ≤ sizeLine then some (.str (cutS z lo hi), st) else none
  | .ref i => match lstAt st i with
    | some l => newL (cutD l lo hi) st
    | none => none
  | _ => none
def pSl (lo hi : Bool) : List D → Sto → Option (D × Sto)
  | d :: ds, st => match slParts lo hi ds with
    | some p => slD d p.1 p.2 st
    | none => none
  | _, _ => none
def pLen : List D → Sto → Option (D × Sto)
  | [.fro l], st => one (.int l.length) st
  | [.str z], st => if z.length ≤ sizeLine then one (.int z.length) st else none
  | [.tup l], st => one (.int l.length) st
  | [.ref i], st => match st[i]? with
    | some (.dic l) => one (.int l.length) st
    | _ => (lstAt st i).map fun l => (.int l.length, st)
  | _, _ => none
def pAbs : List D → Sto → Option (D × Sto)
  | [.int i], st => one (.int (if i < 0 then -i else i)) st
  | _, _ => none
def pInt : List D → Sto → Option (D × Sto)
  | [.int i], st => one (.int i) st
  | _, _ => none
def pMin2 : List D → Sto → Option (D × Sto)
  | [.int i, .int j], st => one (.int (if j < i then j else i)) st
  | _, _ => none
def pMax2 : List D → Sto → Option (D × Sto)
  | [.int i, .int j], st => one (.int (if j > i then j else i)) st
  | _, _ => none
def pAll_ : List D → Sto → Option (D × Sto)
  | [.ref i], st => match lstAt st i with
    | some l => (l.mapM unbl).map fun bs => (.bl (bs.all id), st)
    | none => none
  | _, _ => none
def pAny_ : List D → Sto → Option (D × Sto)
  | [.ref i], st => match lstAt st i with
    | some l => (l.mapM unbl).map fun bs => (.bl (bs.any id), st)
    | none => none
  | _, _ => none
def pSum : List D → Sto → Option (D × Sto)
  | [.ref i], st => match lstAt st i with
    | some l => (l.mapM unint).map fun ns => (.int ns.sum, st)
    | none => none
  | _, _ => none
def pTupOf : List D → Sto → Option (D × Sto)
  | [.fro l], st => one (.tup l) st
  | [.tup l], st => one (.tup l) st
  | [.ref i], st => (lstAt st i).map fun l => (.tup l, st)
  | _, _ => none
def pLstOf : List D → Sto → Option (D × Sto)
  | [.fro l], st => newL l st
  | [.tup l], st => newL l st
  | [.ref i], st => match lstAt st i with
    | some l => newL l st
    | none => none
  | _, _ => none
def pIsi (c : Ty) : List D → Sto → Option (D × Sto)
  | [d], st => (tagOf st d).map fun t => (.bl (tyIs c t), st)
  | _, _ => none
/-- of an exception: is it one of this class (0: the base of all; none: ValueError) -/
def isxB (c : Option Nat) (k : Nat) : Bool := match c with
  | none => true
  | some j => decide (k = j ∨ j = 0)
def pIsx (c : Option Nat) : List D → Sto → Option (D × Sto)
  | [.ref i], st => match st[i]? with
    | some (.exn k _) => one (.bl (isxB c k)) st
    | _ => none
  | _, _ => none
def pAppend : List D → Sto → Option (D × Sto)
  | [.ref i, d], st => match st[i]? with
    | some (.lst l) => if l.length < sizeLine then one .non (st.set i (.lst (l ++ [d]))) else none
    | _ => none
  | _, _ => none
def pExtend : List D → Sto → Option (D × Sto)
  | [.ref i, .ref j], st => match st[i]?, st[j]? with
    | some (.lst a), some (.lst b) => if a.length + b.length ≤ sizeLine then one .non (st.set i (.lst (a ++ b))) else none
    | _, _ => none
  | _, _ => none
def pPop : List D → Sto → Option (D × Sto)
  | [.ref i], st => match st[i]? with
    | some (.lst l) => (l[l.length - 1]?).map fun d => (d, st.set i (.lst l.dropLast))
    | _ => none
  | _, _ => none
def pPopAt : List D → Sto → Option (D × Sto)
  | [.ref i, .int k], st => match st[i]? with
    | some (.lst l) => if -(2 ^ 63) ≤ k ∧ k < 2 ^ 63 then match seqIndex? k l.length with
      | some j => (l[j]?).map fun d => (d, st.set i (.lst (l.eraseIdx j)))
      | none => none
      else none
    | _ => none
  | _, _ => none
def pDdisp : List D → Sto → Option (D × Sto)
  | ds, st => match pairsOf ds with
    | some ps => if ps.length ≤ 15 ∧ (ps.all fun p => flat p.1) = true then some (.ref st.length, st ++ [.dic (mergeD [] ps)]) else none
    | none => none
def pGet1 : List D → Sto → Option (D × Sto)
  | [.ref i, k], st => match st[i]? with
    | some (.dic l) => if keyFits l k = true then one ((dget l k).getD .non) st else none
    | _ => none
  | _, _ => none
def pGet2 : List D → Sto → Option (D × Sto)
  | [.ref i, k, x], st => match st[i]? with
    | some (.dic l) => if keyFits l k = true then one ((dget l k).getD x) st else none
    | _ => none
  | _, _ => none
def pJoin : List D → Sto → Option (D × Sto)
  | [.str z, .ref i], st => match lstAt st i with
    | some l => match l.mapM unstr with
      | some ys => if (ys.map (·.length)).sum + ys.length * z.length ≤ 16777216 then one (.str (Txt.join z ys)) st else none
      | none => none
    | none => none
  | _, _ => none
def primF : Op → List D → Sto → Option (D × Sto)
  | .tup => pTup
  | .lst => pLst
  | .add => pAdd
  | .sub => pSub
  | .mul => pMul
  | .mod => pMod
  | .fdiv => pFdiv
  | .pow => pPow
  | .neg => pNeg
  | .eq => pEq
  | .ne => pNe
  | .lt => pLt
  | .le => pLe
  | .gt => pGt
  | .ge => pGe
  | .isN => pIsN
  | .notN => pNotN
  | .isin => pIsin
  | .notin => pNotin
  | .ix => pIx
  | .sl lo hi => pSl lo hi
  | .len => pLen
  | .abs => pAbs
  | .int => pInt
  | .min2 => pMin2
  | .max2 => pMax2
  | .all_ => pAll_
  | .any_ => pAny_
  | .sum => pSum
  | .tupOf => pTupOf
  | .lstOf => pLstOf
  | .isi c => pIsi c
  | .isx c => pIsx c
  | .append => pAppend
  | .extend => pExtend
  | .pop => pPop
  | .popAt => pPopAt
  | .ddisp => pDdisp
  | .get1 => pGet1
  | .get2 => pGet2
  | .join => pJoin
end Z
namespace Z
open PySem PySem.Spec PyProof.Rows L2

/-! ## what is told of a program -/
structure FunInfo where
  place : Str × Option Str
  ps : List Str
  N : List Str
  np : Nat
  dfl : List D
  body : S
structure Tab extends Names where
  funs : List FunInfo
  meths : List ((Nat × Nat) × Nat)
  props : List ((Nat × Nat) × Nat)
  inits : List (Nat × Nat)
  consts : List (Str × D)
  xinits : List (Nat × Nat)
def FunInfo.full (fi : FunInfo) (ds : List D) : List D := ds ++ fi.dfl.drop (fi.dfl.length - (fi.np - ds.length))
abbrev QE := D → Sto → Prop
abbrev XP := Exn → Sto → Prop
abbrev CallS := Nat → List D → Sto → QE → XP → Prop
structure EndS where
  nx : Loc → Sto → Prop
  rt : D → Sto → Prop
  bk : Loc → Sto → Prop
  ct : Loc → Sto → Prop
  xc : Exn → Loc → Sto → Prop

def prim (o : Op) (ds : List D) (st : Sto) (Q : QE) : Prop := match primF o ds st with
  | some (d, st') => Q d st'
  | none => False
/-- a call by the table: the defaults fill up -/
def callF (T : Tab) (C : CallS) (f : Nat) (ds : List D) (st : Sto) (Q : QE) (X : XP) : Prop := match T.funs[f]? with
  | some fi => C f (fi.full ds) st Q X
  | none => False
mutual
def wTg : Tg → D → Loc → Option Loc
  | .name i, d, σ => some (σ.set i (some d))
  | .tup l, .tup ds, σ => wTgs l ds σ
  | .tup _, _, _ => none
def wTgs : List Tg → List D → Loc → Option Loc
  | [], [], σ => some σ
  | t :: ts, d :: ds, σ => match wTg t d σ with
    | some σ' => wTgs ts ds σ'
    | none => none
  | _, _, _ => none
end
def wipeD (σ : Loc) : List Nat → Loc
  | [] => σ
  | v :: vs => (wipeD σ vs).set v none
/-- a for: f runs the body at an item -/
def forL (f : D → Loc → Sto → EndS → Prop) (G : Sto → Prop) (D' : EndS) : List D → Loc → Sto → Prop
  | [], σ, st => D'.nx σ st
  | d :: ds, σ, st => f d σ st { D' with nx := fun σ' st' => G st' ∧ forL f G D' ds σ' st', ct := fun σ' st' => G st' ∧ forL f G D' ds σ' st', bk := D'.nx }
/-- a list comprehension: f gives the element, or nothing; n: the new list's place -/
def lcL (f : D → Sto → (Option D → Sto → Prop) → Prop) (G : Sto → Prop) (n : Nat) (Q : Sto → Prop) : List D → Sto → Prop
  | [], st => Q st
  | d :: ds, st => f d st fun o st' => G st' ∧ match o with
    | none => lcL f G n Q ds st'
    | some y => match st'[n]? with
      | some (.lst acc) => acc.length < sizeLine ∧ G (st'.set n (.lst (acc ++ [y]))) ∧ lcL f G n Q ds (st'.set n (.lst (acc ++ [y])))
      | _ => False
def bl2 (d : D) (t f : Prop) : Prop := match d with
  | .bl true => t
  | .bl false => f
  | _ => False
/-- a sequence that enumerate, zip may walk -/
def seqIt2 (d : D) (st : Sto) (R : List D → (Sto → Prop) → Sto → Prop) : Prop := match d with
  | .tup l => R l (fun _ => True) st
  | .fro l => R l (fun _ => True) st
  | .ref i => (match st[i]? with
    | some (.lst l) => R l (fun st' => st'[i]? = some (.lst l)) st
    | _ => False)
  | _ => False
/-- a list that zip may walk -/
def lstIt (d : D) (st : Sto) (R : List D → (Sto → Prop) → Sto → Prop) : Prop := match d with
  | .fro l => R l (fun _ => True) st
  | .ref i => (match st[i]? with
    | some (.lst l) => R l (fun st' => st'[i]? = some (.lst l)) st
    | _ => False)
  | _ => False
/-- what a loop walks: the items, what must stay -/
abbrev IQ := List D → (Sto → Prop) → Sto → Prop
def seqIt (d : D) (st : Sto) (R : IQ) : Prop := match d with
  | .tup l => R l (fun _ => True) st
  | .fro l => R l (fun _ => True) st
  | .str z => R (z.cps.toList.map fun c => D.str ⟨#[c]⟩) (fun _ => True) st
  | .ref i => (match st[i]? with
    | some (.lst l) => R l (fun st' => st'[i]? = some (.lst l)) st
    | _ => False)
  | _ => False
def rngD (lo : Int) (n : Nat) : List D := (List.range n).map fun (i : Nat) => D.int (lo + i)
def enumD (l : List D) : List D := l.mapIdx fun i d => .tup [.int i, d]

def putN (x : Nat) (v : D) : List (Nat × D) → List (Nat × D)
  | [] => [(x, v)]
  | (g, y) :: r => if g = x then (g, v) :: r else (g, y) :: putN x v r
def isLst (d : D) (st : Sto) : Bool := match d with
  | .ref i => (match st[i]? with | some (.lst _) => true | _ => false)
  | _ => false
def isDic (d : D) (st : Sto) : Bool := match d with
  | .ref i => (match st[i]? with | some (.dic _) => true | _ => false)
  | _ => false
def isStr (d : D) : Bool := match d with
  | .str _ => true
  | _ => false
/-- a method's receiver -/
def recvOk (o : Op) (d : D) (st : Sto) : Bool := match o with
  | .append => isLst d st
  | .extend => isLst d st
  | .pop => isLst d st
  | .popAt => isLst d st
  | .get1 => isDic d st
  | .get2 => isDic d st
  | .join => isStr d
  | _ => false
section
variable (T : Tab) (C : CallS)
mutual
def wE : E → Loc → Sto → QE → XP → Prop
  | .var i, σ, st, Q, _ => match σ[i]? with
    | some (some d) => Q d st
    | _ => False
  | .cst d, _, st, Q, _ => Q d st
  | .op o es, σ, st, Q, X => wEs es σ st (fun ds st' => prim o ds st' Q) X
  | .and a b, σ, st, Q, X => wE a σ st (fun d st' => bl2 d (wE b σ st' Q X) (Q (.bl false) st')) X
  | .or a b, σ, st, Q, X => wE a σ st (fun d st' => bl2 d (Q (.bl true) st') (wE b σ st' Q X)) X
  | .not a, σ, st, Q, X => wE a σ st (fun d st' => bl2 d (Q (.bl false) st') (Q (.bl true) st')) X
  | .ifx t a b, σ, st, Q, X => wE t σ st (fun d st' => bl2 d (wE a σ st' Q X) (wE b σ st' Q X)) X
  | .chain o1 o2 a b c, σ, st, Q, X => wE a σ st (fun x st1 => wE b σ st1 (fun y st2 => prim o1 [x, y] st2 fun r st3 =>
      bl2 r (wE c σ st3 (fun z st4 => prim o2 [y, z] st4 fun r' st5 => bl2 r' (Q (.bl true) st5) (Q (.bl false) st5)) X) (Q (.bl false) st3)) X) X
  | .slB a b c, σ, st, Q, X => wE a σ st (fun x st1 => wE b σ st1 (fun y st2 => match y with
    | .int i => wE c σ st2 (fun z st3 => prim (.sl true true) [x, .int i, z] st3 Q) X
    | _ => False) X) X
  | .call f es, σ, st, Q, X => wEs es σ st (fun ds st' => callF T C f ds st' Q X) X
  | .bm o a es, σ, st, Q, X => wE a σ st (fun x st1 => recvOk o x st1 = true ∧ wEs es σ st1 (fun ds st2 => prim o (x :: ds) st2 Q) X) X
  | .meth m o es, σ, st, Q, X => wE o σ st (fun x st1 => match x with
    | .ref i => (match st1[i]? with
      | some (.ins c fs) => (match T.meths.lookup (c, m) with
        | some f => fs.lookup m = none ∧ wEs es σ st1 (fun ds st2 => callF T C f (x :: ds) st2 Q X) X
        | none => False)
      | _ => False)
    | _ => False) X
  | .new c es, σ, st, Q, X => wEs es σ st (fun ds st' => match T.inits.lookup c with
    | some f => callF T C f (.ref st'.length :: ds) (st' ++ [.ins c []]) (fun d st2 => d = .non ∧ Q (.ref st'.length) st2) X
    | none => False) X
  | .xnew c es, σ, st, Q, X => wEs es σ st (fun ds st' => match T.xinits.lookup c with
    | some f => callF T C f (.ref st'.length :: ds) (st' ++ [.exn c []]) (fun d st2 => d = .non ∧ Q (.ref st'.length) st2) (fun _ _ => False)
    | none => ds.length = 1 ∧ Q (.ref st'.length) (st' ++ [.exn c []])) X
  | .ddisp es, σ, st, Q, X => wEs es σ (st ++ [.dic []]) (fun ds st' => st'[st.length]? = some (.dic []) ∧ match pairsOf ds with
    | some ps => ps.length ≤ 15 ∧ (ps.all fun p => flat p.1) = true ∧ Q (.ref st.length) (st'.set st.length (.dic (mergeD [] ps)))
    | none => False) X
  | .attr o x, σ, st, Q, X => wE o σ st (fun d st1 => match d with
    | .ref i => (match st1[i]? with
      | some (.exn _ fs) => (match fs.lookup x with
          | some v => Q v st1
          | none => False)
      | some (.ins c fs) => (match T.props.lookup (c, x) with
        | some f => callF T C f [d] st1 Q (fun _ _ => False)
        | none => T.meths.lookup (c, x) = none ∧ (match fs.lookup x with
          | some v => Q v st1
          | none => False))
      | _ => False)
    | _ => False) X
  | .lc own tg it elt, σ, st, Q, X => wIt it σ st (fun ds G st1 =>
      G (st1 ++ [.lst []]) ∧ lcL (fun d st2 R => match wTg tg d (wipeD σ own) with
        | some σ2 => wE elt σ2 st2 (fun y st3 => R (some y) st3) (fun _ _ => False)
        | none => False) G st1.length (fun st' => Q (.ref st1.length) st') ds (st1 ++ [.lst []])) X
  | .lcif own tg it t elt, σ, st, Q, X => wIt it σ st (fun ds G st1 =>
      G (st1 ++ [.lst []]) ∧ lcL (fun d st2 R => match wTg tg d (wipeD σ own) with
        | some σ2 => wE t σ2 st2 (fun b st3 => bl2 b (wE elt σ2 st3 (fun y st4 => R (some y) st4) (fun _ _ => False)) (R none st3)) (fun _ _ => False)
        | none => False) G st1.length (fun st' => Q (.ref st1.length) st') ds (st1 ++ [.lst []])) X
def wEs : List E → Loc → Sto → (List D → Sto → Prop) → XP → Prop
  | [], _, st, Q, _ => Q [] st
  | e :: es, σ, st, Q, X => wE e σ st (fun d st' => wEs es σ st' (fun ds st'' => Q (d :: ds) st'') X) X
def wIt : It → Loc → Sto → IQ → XP → Prop
  | .seq e, σ, st, R, X => wE e σ st (fun d st' => seqIt d st' R) X
  | .rng1 a, σ, st, R, X => wE a σ st (fun d st' => match d with
    | .int j => -(2 ^ 62) ≤ j ∧ j < 2 ^ 62 ∧ R (rngD 0 j.toNat) (fun _ => True) st'
    | _ => False) X
  | .rng2 a b, σ, st, R, X => wE a σ st (fun d st1 => wE b σ st1 (fun d' st2 => match d, d' with
    | .int i, .int j => (-(2 ^ 62) ≤ i ∧ i < 2 ^ 62 ∧ -(2 ^ 62) ≤ j ∧ j < 2 ^ 62) ∧ R (rngD i (j - i).toNat) (fun _ => True) st2
    | _, _ => False) X) X
  | .enum e, σ, st, R, X => wE e σ st (fun d st' => seqIt2 d st' fun l G st2 => R (enumD l) G st2) X
  | .zip a b, σ, st, R, X => wE a σ st (fun d st1 => wE b σ st1 (fun d' st2 => lstIt d st2 fun l G st3 => lstIt d' st3 fun l' G' st4 =>
      R (List.zipWith (fun x y => .tup [x, y]) l l') (fun st' => G st' ∧ G' st') st4) X) X
end
def wS : S → Loc → Sto → EndS → Prop
  | .nil, σ, st, D' => D'.nx σ st
  | .cons a b, σ, st, D' => wS a σ st { D' with nx := fun σ' st' => wS b σ' st' D' }
  | .expr e, σ, st, D' => wE T C e σ st (fun _ st' => D'.nx σ st') (fun x st' => D'.xc x σ st')
  | .ret e, σ, st, D' => wE T C e σ st D'.rt (fun x st' => D'.xc x σ st')
  | .asg tg e, σ, st, D' => wE T C e σ st (fun d st' => match wTg tg d σ with
    | some σ' => D'.nx σ' st'
    | none => False) (fun x st' => D'.xc x σ st')
  | .asgS o i e, σ, st, D' => wEs T C [e, o, i] σ st (fun ds st' => match ds with
    | [v, .ref j, k] => (match st'[j]? with
      | some (.lst l) => (match k with
        | .int k => (match ixN l.length k with
          | some m => D'.nx σ (st'.set j (.lst (l.set m v)))
          | none => False)
        | _ => False)
      | some (.dic l) => keyFits l k = true ∧ l.length < sizeLine ∧ D'.nx σ (st'.set j (.dic (dset l k v)))
      | _ => False)
    | _ => False) (fun x st' => D'.xc x σ st')
  | .asgF o x e, σ, st, D' => wEs T C [e, o] σ st (fun ds st' => match ds with
    | [v, .ref j] => (match st'[j]? with
      | some (.exn c fs) => fs = [] ∧ (∃ nm f, T.excs[c]? = some (nm, some f) ∧ T.names[x]? = some f) ∧ D'.nx σ (st'.set j (.exn c [(x, v)]))
      | some (.ins c fs) => fs.length < 1000 ∧ T.props.lookup (c, x) = none ∧ T.meths.lookup (c, x) = none ∧ D'.nx σ (st'.set j (.ins c (putN x v fs)))
      | _ => False)
    | _ => False) (fun x st' => D'.xc x σ st')
  | .aug i o e, σ, st, D' => (match σ[i]? with
    | some (some (.int x)) => wE T C e σ st (fun y st' => match y with
      | .int y => prim o [.int x, .int y] st' fun z st2 => D'.nx (σ.set i (some z)) st2
      | _ => False) (fun x st' => D'.xc x σ st')
    | _ => False)
  | .ife t a b, σ, st, D' => wE T C t σ st (fun d st' => bl2 d (wS a σ st' D') (wS b σ st' D')) (fun x st' => D'.xc x σ st')
  | .whl t a, σ, st, D' => ∃ W : Nat → Loc → Sto → Prop, (∃ m, W m σ st) ∧ ∀ m σ st, W m σ st → wE T C t σ st (fun d st' => bl2 d
      (wS a σ st' { D' with nx := fun σ' st' => ∃ m', m' < m ∧ W m' σ' st', ct := fun σ' st' => ∃ m', m' < m ∧ W m' σ' st', bk := D'.nx }) (D'.nx σ st')) (fun x st' => D'.xc x σ st')
  | .fore tg it a, σ, st, D' => wIt T C it σ st (fun ds G st' => forL (fun d σ st D'' => match wTg tg d σ with
    | some σ' => wS a σ' st D''
    | none => False) G D' ds σ st') (fun x st' => D'.xc x σ st')
  | .brk, σ, st, D' => D'.bk σ st
  | .cont, σ, st, D' => D'.ct σ st
  | .raise x none, σ, st, D' => D'.xc ⟨x, none⟩ σ st
  | .raise x (some e), σ, st, D' => wE T C e σ st (fun d st' => D'.xc ⟨x, some d⟩ σ st') (fun y st' => D'.xc y σ st')
  | .try1 a xs h, σ, st, D' => wS a σ st { D' with xc := fun y σ' st' => if xs.contains y.cls = true then wS h σ' st' { D' with xc := fun _ _ _ => False } else D'.xc y σ' st' }
end
/-- the call of a def of the table, at most k deep -/
def wCall (T : Tab) : Nat → CallS
  | 0, _, _, _, _, _ => False
  | k + 1, f, ds, st, Q, X => match T.funs[f]? with
    | some fi => ds.length = fi.np ∧ wS T (wCall T k) fi.body (ds.map some ++ List.replicate (fi.N.length - ds.length) none) st
        { nx := fun _ st' => Q .non st', rt := Q, bk := fun _ _ => False, ct := fun _ _ => False, xc := fun x _ st' => X x st' }
    | none => False
end Z
end
section
set_option linter.all false
set_option maxRecDepth 100000
set_option maxHeartbeats 4000000
namespace Z
open PySem PySem.Spec PyProof.Rows L2

/-! ## weaker ends -/
def MonC (C : CallS) : Prop := ∀ (f : Nat) (ds : List D) (st : Sto) (Q Q' : QE) (X X' : XP), (∀ d s, Q d s → Q' d s) → (∀ x s, X x s → X' x s) → C f ds st Q X → C f ds st Q' X'
theorem prim_mono {o : Op} {ds : List D} {st : Sto} {Q Q' : QE} (h : ∀ d s, Q d s → Q' d s) (p : prim o ds st Q) : prim o ds st Q' := by
  unfold prim at p ⊢
  split at p
  · exact h _ _ p
  · exact p.elim
theorem bl2_mono {d : D} {t t' f f' : Prop} (h1 : t → t') (h2 : f → f') (p : bl2 d t f) : bl2 d t' f' := by
  unfold bl2 at p ⊢
  split at p
  · exact h1 p
  · exact h2 p
  · exact p.elim
theorem callF_mono {T : Tab} {C : CallS} (hC : MonC C) {f : Nat} {ds : List D} {st : Sto} {Q Q' : QE} {X X' : XP} (h : ∀ d s, Q d s → Q' d s) (hx : ∀ x s, X x s → X' x s) (p : callF T C f ds st Q X) : callF T C f ds st Q' X' := by
  unfold callF at p ⊢
  split at p
  · exact hC _ _ _ _ _ _ _ h hx p
  · exact p.elim
theorem seqIt_mono {d : D} {st : Sto} {R R' : IQ} (h : ∀ ds G s, R ds G s → R' ds G s) (p : seqIt d st R) : seqIt d st R' := by
  unfold seqIt at p ⊢
  split at p
  · exact h _ _ _ p
  · exact h _ _ _ p
  · exact h _ _ _ p
  · split at p
    · exact h _ _ _ p
    · exact p.elim
  · exact p.elim
theorem seqIt2_mono {d : D} {st : Sto} {R R' : IQ} (h : ∀ ds G s, R ds G s → R' ds G s) (p : seqIt2 d st R) : seqIt2 d st R' := by
  unfold seqIt2 at p ⊢
  split at p
  · exact h _ _ _ p
  · exact h _ _ _ p
  · split at p
    · exact h _ _ _ p
    · exact p.elim
  · exact p.elim
theorem lstIt_mono {d : D} {st : Sto} {R R' : IQ} (h : ∀ ds G s, R ds G s → R' ds G s) (p : lstIt d st R) : lstIt d st R' := by
  unfold lstIt at p ⊢
  split at p
  · exact h _ _ _ p
  · split at p
    · exact h _ _ _ p
    · exact p.elim
  · exact p.elim
theorem lcL_mono {f f' : D → Sto → (Option D → Sto → Prop) → Prop} {G : Sto → Prop} {n : Nat} {Q Q' : Sto → Prop} (hf : ∀ d st R R', (∀ o s, R o s → R' o s) → f d st R → f' d st R') (hQ : ∀ s, Q s → Q' s) :
    ∀ (ds : List D) (st : Sto), lcL f G n Q ds st → lcL f' G n Q' ds st
  | [], st, p => hQ st p
  | d :: ds, st, p => by
    unfold lcL at p ⊢
    refine hf d st _ _ (fun o s q => ⟨q.1, ?_⟩) p
    have q2 := q.2
    cases o with
    | none => exact lcL_mono hf hQ ds s q2
    | some y =>
      simp only at q2 ⊢
      split at q2
      · exact ⟨q2.1, q2.2.1, lcL_mono hf hQ ds _ q2.2.2⟩
      · exact q2.elim
structure EndS.Le (D D' : EndS) : Prop where
  nx : ∀ σ s, D.nx σ s → D'.nx σ s
  rt : ∀ d s, D.rt d s → D'.rt d s
  bk : ∀ σ s, D.bk σ s → D'.bk σ s
  ct : ∀ σ s, D.ct σ s → D'.ct σ s
  xc : ∀ x σ s, D.xc x σ s → D'.xc x σ s
theorem forL_mono {f f' : D → Loc → Sto → EndS → Prop} {G : Sto → Prop} {D1 D2 : EndS} (hf : ∀ d σ st E E', E.Le E' → f d σ st E → f' d σ st E') (hD : D1.Le D2) : ∀ (ds : List D) (σ : Loc) (st : Sto), forL f G D1 ds σ st → forL f' G D2 ds σ st
  | [], σ, st, p => hD.nx σ st p
  | d :: ds, σ, st, p => by
    unfold forL at p ⊢
    have z : ∀ σ s, (G s ∧ forL f G D1 ds σ s) → (G s ∧ forL f' G D2 ds σ s) := fun σ s q => ⟨q.1, forL_mono hf hD ds σ s q.2⟩
    refine hf d σ st _ _ ?_ p
    exact ⟨z, hD.rt, hD.nx, z, hD.xc⟩
section
variable {T : Tab} {C : CallS} (hC : MonC C)
include hC
mutual
theorem mE : ∀ (e : E) (σ : Loc) (st : Sto) (Q Q' : QE) (X X' : XP), (∀ d s, Q d s → Q' d s) → (∀ x s, X x s → X' x s) → wE T C e σ st Q X → wE T C e σ st Q' X'
  | .var i, σ, st, Q, Q', X, X', h, hx, p => by
    unfold wE at p ⊢
    split at p
    · exact h _ _ p
    · exact p.elim
  | .cst d, σ, st, Q, Q', X, X', h, hx, p => by
    unfold wE at p ⊢
    exact h _ _ p
  | .op o es, σ, st, Q, Q', X, X', h, hx, p => by
    unfold wE at p ⊢
    exact mEs es σ st _ _ X X' (fun ds s q => prim_mono h q) hx p
  | .and a b, σ, st, Q, Q', X, X', h, hx, p => by
    unfold wE at p ⊢
    exact mE a σ st _ _ X X' (fun d s q => bl2_mono (mE b σ s Q Q' X X' h hx) (h _ _) q) hx p
  | .or a b, σ, st, Q, Q', X, X', h, hx, p => by
    unfold wE at p ⊢
    exact mE a σ st _ _ X X' (fun d s q => bl2_mono (h _ _) (mE b σ s Q Q' X X' h hx) q) hx p
  | .not a, σ, st, Q, Q', X, X', h, hx, p => by
    unfold wE at p ⊢
    exact mE a σ st _ _ X X' (fun d s q => bl2_mono (h _ _) (h _ _) q) hx p
  | .ifx t a b, σ, st, Q, Q', X, X', h, hx, p => by
    unfold wE at p ⊢
    exact mE t σ st _ _ X X' (fun d s q => bl2_mono (mE a σ s Q Q' X X' h hx) (mE b σ s Q Q' X X' h hx) q) hx p
  | .chain o1 o2 a b c, σ, st, Q, Q', X, X', h, hx, p => by
    unfold wE at p ⊢
    refine mE a σ st _ _ X X' (fun d s q => mE b σ s _ _ X X' (fun d2 s2 q2 => prim_mono (fun r s3 q3 => bl2_mono (fun q4 => ?_) (h _ _) q3) q2) hx q) hx p
    exact mE c σ s3 _ _ X X' (fun z s4 q5 => prim_mono (fun r' s5 q6 => bl2_mono (h _ _) (h _ _) q6) q5) hx q4
  | .slB a b c, σ, st, Q, Q', X, X', h, hx, p => by
    unfold wE at p ⊢
    refine mE a σ st _ _ X X' (fun d s q => mE b σ s _ _ X X' (fun d2 s2 q2 => ?_) hx q) hx p
    split at q2
    · exact mE c σ s2 _ _ X X' (fun z s3 q3 => prim_mono h q3) hx q2
    · exact q2.elim
  | .call f es, σ, st, Q, Q', X, X', h, hx, p => by
    unfold wE at p ⊢
    exact mEs es σ st _ _ X X' (fun ds s q => callF_mono hC h hx q) hx p
  | .bm o a es, σ, st, Q, Q', X, X', h, hx, p => by
    unfold wE at p ⊢
    exact mE a σ st _ _ X X' (fun d s q => ⟨q.1, mEs es σ s _ _ X X' (fun ds s2 q2 => prim_mono h q2) hx q.2⟩) hx p
  | .meth m o es, σ, st, Q, Q', X, X', h, hx, p => by
    unfold wE at p ⊢
    refine mE o σ st _ _ X X' (fun x s q => ?_) hx p
    split at q
    · split at q
      · split at q
        · rename_i hm
          exact ⟨q.1, mEs es σ s _ _ X X' (fun ds s2 q2 => callF_mono hC h hx q2) hx q.2⟩
        · exact q.elim
      · exact q.elim
    · exact q.elim
  | .new c es, σ, st, Q, Q', X, X', h, hx, p => by
    unfold wE at p ⊢
    refine mEs es σ st _ _ X X' (fun ds s q => ?_) hx p
    split at q
    · rename_i hm
      exact callF_mono hC (fun _ s2 z => ⟨z.1, h _ s2 z.2⟩) hx q
    · exact q.elim
  | .xnew c es, σ, st, Q, Q', X, X', h, hx, p => by
    unfold wE at p ⊢
    refine mEs es σ st _ _ X X' (fun ds s q => ?_) hx p
    split at q
    · rename_i hm
      exact callF_mono hC (fun _ s2 z => ⟨z.1, h _ s2 z.2⟩) (fun _ _ z => z) q
    · exact ⟨q.1, h _ _ q.2⟩
  | .ddisp es, σ, st, Q, Q', X, X', h, hx, p => by
    unfold wE at p ⊢
    refine mEs es σ _ _ _ X X' (fun ds s q => ⟨q.1, ?_⟩) hx p
    have q2 := q.2
    split at q2
    · exact ⟨q2.1, q2.2.1, h _ _ q2.2.2⟩
    · exact q2.elim
  | .attr o x, σ, st, Q, Q', X, X', h, hx, p => by
    unfold wE at p ⊢
    refine mE o σ st _ _ X X' (fun d s q => ?_) hx p
    split at q
    · split at q
      · split at q
        · exact h _ _ q
        · exact q.elim
      · split at q
        · rename_i hm
          exact callF_mono hC h (fun _ _ z => z) q
        · rename_i hm
          refine ⟨q.1, ?_⟩
          have q2 := q.2
          split at q2
          · exact h _ _ q2
          · exact q2.elim
      · exact q.elim
    · exact q.elim
  | .lc own tg it elt, σ, st, Q, Q', X, X', h, hx, p => by
    unfold wE at p ⊢
    refine mI it σ st _ _ X X' (fun ds G s q => ⟨q.1, lcL_mono (fun d st2 R R' hR r => ?_) (fun s2 q2 => h _ _ q2) ds _ q.2⟩) hx p
    split at r
    · exact mE elt _ st2 _ _ _ _ (fun y s3 => hR _ s3) (fun _ _ z => z) r
    · exact r.elim
  | .lcif own tg it t elt, σ, st, Q, Q', X, X', h, hx, p => by
    unfold wE at p ⊢
    refine mI it σ st _ _ X X' (fun ds G s q => ⟨q.1, lcL_mono (fun d st2 R R' hR r => ?_) (fun s2 q2 => h _ _ q2) ds _ q.2⟩) hx p
    split at r
    · exact mE t _ st2 _ _ _ _ (fun b s3 q3 => bl2_mono (mE elt _ s3 _ _ _ _ (fun y s4 => hR _ s4) (fun _ _ z => z)) (hR _ s3) q3) (fun _ _ z => z) r
    · exact r.elim
theorem mEs : ∀ (es : List E) (σ : Loc) (st : Sto) (Q Q' : List D → Sto → Prop) (X X' : XP), (∀ d s, Q d s → Q' d s) → (∀ x s, X x s → X' x s) → wEs T C es σ st Q X → wEs T C es σ st Q' X'
  | [], σ, st, Q, Q', X, X', h, hx, p => by
    unfold wEs at p ⊢
    exact h _ _ p
  | e :: es, σ, st, Q, Q', X, X', h, hx, p => by
    unfold wEs at p ⊢
    exact mE e σ st _ _ X X' (fun d s q => mEs es σ s _ _ X X' (fun ds s2 q2 => h _ _ q2) hx q) hx p
theorem mI : ∀ (it : It) (σ : Loc) (st : Sto) (R R' : IQ) (X X' : XP), (∀ ds G s, R ds G s → R' ds G s) → (∀ x s, X x s → X' x s) → wIt T C it σ st R X → wIt T C it σ st R' X'
  | .seq e, σ, st, R, R', X, X', h, hx, p => by
    unfold wIt at p ⊢
    exact mE e σ st _ _ X X' (fun d s q => seqIt_mono h q) hx p
  | .rng1 a, σ, st, R, R', X, X', h, hx, p => by
    unfold wIt at p ⊢
    refine mE a σ st _ _ X X' (fun d s q => ?_) hx p
    split at q
    · exact ⟨q.1, q.2.1, h _ _ _ q.2.2⟩
    · exact q.elim
  | .rng2 a b, σ, st, R, R', X, X', h, hx, p => by
    unfold wIt at p ⊢
    refine mE a σ st _ _ X X' (fun d s q => mE b σ s _ _ X X' (fun d2 s2 q2 => ?_) hx q) hx p
    split at q2
    · exact ⟨q2.1, h _ _ _ q2.2⟩
    · exact q2.elim
  | .enum e, σ, st, R, R', X, X', h, hx, p => by
    unfold wIt at p ⊢
    exact mE e σ st _ _ X X' (fun d s q => seqIt2_mono (fun ds G s => h _ G s) q) hx p
  | .zip a b, σ, st, R, R', X, X', h, hx, p => by
    unfold wIt at p ⊢
    exact mE a σ st _ _ X X' (fun d s q => mE b σ s _ _ X X' (fun d2 s2 q2 => lstIt_mono (fun ds G s3 q3 => lstIt_mono (fun ds' G' s4 q4 => h _ _ _ q4) q3) q2) hx q) hx p
end
theorem mS : ∀ (a : S) (σ : Loc) (st : Sto) (D1 D2 : EndS), D1.Le D2 → wS T C a σ st D1 → wS T C a σ st D2
  | .nil, σ, st, D1, D2, h, p => by
    unfold wS at p ⊢
    exact h.nx _ _ p
  | .cons a b, σ, st, D1, D2, h, p => by
    unfold wS at p ⊢
    refine mS a σ st _ _ ?_ p
    exact ⟨fun σ s q => mS b σ s D1 D2 h q, h.rt, h.bk, h.ct, h.xc⟩
  | .expr e, σ, st, D1, D2, h, p => by
    unfold wS at p ⊢
    exact mE hC e σ st _ _ _ _ (fun _ s => h.nx _ s) (fun x s => h.xc x _ s) p
  | .ret e, σ, st, D1, D2, h, p => by
    unfold wS at p ⊢
    exact mE hC e σ st _ _ _ _ h.rt (fun x s => h.xc x _ s) p
  | .asg tg e, σ, st, D1, D2, h, p => by
    unfold wS at p ⊢
    refine mE hC e σ st _ _ _ _ (fun d s q => ?_) (fun x s => h.xc x _ s) p
    split at q
    · exact h.nx _ _ q
    · exact q.elim
  | .asgS o i e, σ, st, D1, D2, h, p => by
    unfold wS at p ⊢
    refine mEs hC _ σ st _ _ _ _ (fun ds s q => ?_) (fun x s => h.xc x _ s) p
    split at q
    · split at q
      · split at q
        · split at q
          · exact h.nx _ _ q
          · exact q.elim
        · exact q.elim
      · exact ⟨q.1, q.2.1, h.nx _ _ q.2.2⟩
      · exact q.elim
    · exact q.elim
  | .asgF o x e, σ, st, D1, D2, h, p => by
    unfold wS at p ⊢
    refine mEs hC _ σ st _ _ _ _ (fun ds s q => ?_) (fun x s => h.xc x _ s) p
    split at q
    · split at q
      · exact ⟨q.1, q.2.1, h.nx _ _ q.2.2⟩
      · exact ⟨q.1, q.2.1, q.2.2.1, h.nx _ _ q.2.2.2⟩
      · exact q.elim
    · exact q.elim
  | .aug i o e, σ, st, D1, D2, h, p => by
    unfold wS at p ⊢
    split at p
    · refine mE hC e σ st _ _ _ _ (fun d s q => ?_) (fun x s => h.xc x _ s) p
      split at q
      · exact prim_mono (fun z s2 => h.nx _ s2) q
      · exact q.elim
    · exact p.elim
  | .ife t a b, σ, st, D1, D2, h, p => by
    unfold wS at p ⊢
    exact mE hC t σ st _ _ _ _ (fun d s q => bl2_mono (mS a σ s D1 D2 h) (mS b σ s D1 D2 h) q) (fun x s => h.xc x _ s) p
  | .whl t a, σ, st, D1, D2, h, p => by
    unfold wS at p ⊢
    obtain ⟨W, h0, hs⟩ := p
    refine ⟨W, h0, fun m σ st w => mE hC t σ st _ _ _ _ (fun d s q => bl2_mono (fun q2 => ?_) (h.nx _ _) q) (fun x s => h.xc x _ s) (hs m σ st w)⟩
    refine mS a σ s _ _ ?_ q2
    exact ⟨fun _ _ z => z, h.rt, h.nx, fun _ _ z => z, h.xc⟩
  | .fore tg it a, σ, st, D1, D2, h, p => by
    unfold wS at p ⊢
    refine mI hC it σ st _ _ _ _ (fun ds G s q => forL_mono (fun d σ2 st2 E1 E2 hE r => ?_) h ds σ s q) (fun x s => h.xc x _ s) p
    split at r
    · exact mS a _ st2 E1 E2 hE r
    · exact r.elim
  | .brk, σ, st, D1, D2, h, p => by
    unfold wS at p ⊢
    exact h.bk _ _ p
  | .cont, σ, st, D1, D2, h, p => by
    unfold wS at p ⊢
    exact h.ct _ _ p
  | .raise x none, σ, st, D1, D2, h, p => by
    unfold wS at p ⊢
    exact h.xc _ _ _ p
  | .raise x (some e), σ, st, D1, D2, h, p => by
    unfold wS at p ⊢
    exact mE hC e σ st _ _ _ _ (fun d s => h.xc _ _ s) (fun x s => h.xc x _ s) p
  | .try1 a xs b, σ, st, D1, D2, h, p => by
    unfold wS at p ⊢
    refine mS a σ st _ _ ?_ p
    refine ⟨h.nx, h.rt, h.bk, h.ct, fun y σ2 s q => ?_⟩
    replace q : if xs.contains y.cls = true then _ else _ := q
    split at q
    · rename_i hc
      show if xs.contains y.cls = true then _ else _
      rw [if_pos hc]
      refine mS b σ2 s _ _ ?_ q
      exact ⟨h.nx, h.rt, h.bk, h.ct, fun _ _ _ z => z⟩
    · rename_i hc
      show if xs.contains y.cls = true then _ else _
      rw [if_neg hc]
      exact h.xc _ _ _ q
end
theorem monC {T : Tab} : ∀ k : Nat, MonC (wCall T k)
  | 0 => fun _ _ _ _ _ _ _ _ _ p => p.elim
  | k + 1 => fun f ds st Q Q' X X' h hx p => by
    unfold wCall at p ⊢
    split at p
    · refine ⟨p.1, mS (monC k) _ _ _ _ _ ?_ p.2⟩
      exact ⟨fun _ s => h _ s, h, fun _ _ z => z, fun _ _ z => z, fun x _ s => hx x s⟩
    · exact p.elim
end Z
end
section
set_option linter.all false
set_option maxRecDepth 100000
set_option maxHeartbeats 4000000
namespace Z
open PySem PySem.Spec PyProof.Rows L2

/-! ## how data lies in the heap, and stays -/
structure Ext (ρ ρ' : List Addr) (H H' : Hp) : Prop where
  pre : ∀ (i : Nat) (a : Addr), ρ[i]? = some a → ρ'[i]? = some a
  tup : ∀ b xs, H b = some (.tup xs) → H' b = some (.tup xs)
  frz : ∀ b o u, H b = some (.frz o u) → H' b = some (.frz o u)
theorem Ext.refl {ρ : List Addr} {H : Hp} : Ext ρ ρ H H := ⟨fun _ _ h => h, fun _ _ h => h, fun _ _ _ h => h⟩
theorem Ext.trans {ρ ρ1 ρ2 : List Addr} {H H1 H2 : Hp} (a : Ext ρ ρ1 H H1) (b : Ext ρ1 ρ2 H1 H2) : Ext ρ ρ2 H H2 :=
  ⟨fun i c h => b.pre i c (a.pre i c h), fun c xs h => b.tup c xs (a.tup c xs h), fun c o u h => b.frz c o u (a.frz c o u h)⟩
theorem Ext.sqT {K : PySem.W.Frag} {ρ ρ' : List Addr} {H H' : Hp} (e : Ext ρ ρ' H H') {a : Addr} {xs : List V} (h : SqT K H a xs) : SqT K H' a xs := by
  rcases h with (h | ⟨o, h⟩) | h
  · exact .inl (.inl (e.tup _ _ h))
  · exact .inl (.inr ⟨o, e.frz _ _ _ h⟩)
  · exact .inr h
theorem Ext.frL {K : PySem.W.Frag} {ρ ρ' : List Addr} {H H' : Hp} (e : Ext ρ ρ' H H') {a : Addr} {xs : List V} (h : FrL K H a xs) : FrL K H' a xs := by
  rcases h with ⟨o, h⟩ | h
  · exact .inl ⟨o, e.frz _ _ _ h⟩
  · exact .inr h
theorem FrL.sq {K : PySem.W.Frag} {H : Hp} {a : Addr} {xs : List V} (h : FrL K H a xs) : SqL K H a xs := by
  rcases h with ⟨o, h⟩ | h
  · exact .inl (.inr ⟨o, h⟩)
  · exact .inr h
/-- a new object -/
theorem Ext.new {ρ : List Addr} {H : Hp} {p : Addr} {o : HO} (hp : H p = none) : Ext ρ (ρ ++ [p]) H (upd H p o) :=
  ⟨fun i a h => by rw [List.getElem?_append_left (List.getElem?_eq_some_iff.mp h).1]; exact h, fun b xs h => by rw [upd_ne (ne_of_none h hp)]; exact h, fun b o u h => by rw [upd_ne (ne_of_none h hp)]; exact h⟩
theorem Ext.tmp {ρ : List Addr} {H : Hp} {p : Addr} {o : HO} (hp : H p = none) : Ext ρ ρ H (upd H p o) :=
  ⟨fun i a h => h, fun b xs h => by rw [upd_ne (ne_of_none h hp)]; exact h, fun b o u h => by rw [upd_ne (ne_of_none h hp)]; exact h⟩
theorem Ext.mut {ρ : List Addr} {H : Hp} {p : Addr} {o o' : HO} (hp : H p = some o) (h1 : ∀ xs, o ≠ .tup xs) (h2 : ∀ q u, o ≠ .frz q u) : Ext ρ ρ H (upd H p o') :=
  ⟨fun i a h => h, fun b xs h => by rw [upd_ne (ne_of h hp (fun e => h1 xs e.symm))]; exact h, fun b q u h => by rw [upd_ne (ne_of h hp (fun e => h2 q u e.symm))]; exact h⟩
section
variable {K : PySem.W.Frag} {ρ ρ' : List Addr} {H H' : Hp}
mutual
theorem RelD.ext (e : Ext ρ ρ' H H') : ∀ (d : D) (v : V), RelD K ρ H d v → RelD K ρ' H' d v
  | .non, v, h => by unfold RelD at h ⊢; exact h
  | .bl b, v, h => by unfold RelD at h ⊢; exact h
  | .int b, v, h => by unfold RelD at h ⊢; exact h
  | .str b, v, h => by unfold RelD at h ⊢; exact h
  | .tup ds, v, h => by
    unfold RelD at h ⊢
    obtain ⟨a, vs, h1, h2, h3⟩ := h
    exact ⟨a, vs, h1, e.sqT h2, RelDs.ext e ds vs h3⟩
  | .fro ds, v, h => by
    unfold RelD at h ⊢
    obtain ⟨a, vs, h1, h2, h3⟩ := h
    exact ⟨a, vs, h1, e.frL h2, RelDs.ext e ds vs h3⟩
  | .ref i, v, h => by
    unfold RelD at h ⊢
    obtain ⟨a, h1, h2⟩ := h
    exact ⟨a, e.pre _ _ h1, h2⟩
theorem RelDs.ext (e : Ext ρ ρ' H H') : ∀ (ds : List D) (vs : List V), RelDs K ρ H ds vs → RelDs K ρ' H' ds vs
  | [], vs, h => by unfold RelDs at h ⊢; exact h
  | d :: ds, vs, h => by
    unfold RelDs at h ⊢
    obtain ⟨v, r, h1, h2, h3⟩ := h
    exact ⟨v, r, h1, RelD.ext e d v h2, RelDs.ext e ds r h3⟩
end
theorem RelDs.len : ∀ {ds : List D} {vs : List V}, RelDs K ρ H ds vs → ds.length = vs.length
  | [], vs, h => by unfold RelDs at h; rw [h]; rfl
  | d :: ds, vs, h => by
    unfold RelDs at h
    obtain ⟨v, r, rfl, h2, h3⟩ := h
    rw [List.length_cons, List.length_cons, RelDs.len h3]
theorem RelDs.nil : RelDs K ρ H [] [] := by unfold RelDs; rfl
theorem RelDs.cons {d : D} {ds : List D} {v : V} {vs : List V} (h : RelD K ρ H d v) (t : RelDs K ρ H ds vs) : RelDs K ρ H (d :: ds) (v :: vs) := by unfold RelDs; exact ⟨v, vs, rfl, h, t⟩
theorem RelDs.uncons {d : D} {ds : List D} {v : V} {vs : List V} (h : RelDs K ρ H (d :: ds) (v :: vs)) : RelD K ρ H d v ∧ RelDs K ρ H ds vs := by
  unfold RelDs at h
  obtain ⟨v', r, e, h1, h2⟩ := h
  cases e
  exact ⟨h1, h2⟩
theorem RelDs.get : ∀ {ds : List D} {vs : List V} {i : Nat} {d : D}, RelDs K ρ H ds vs → ds[i]? = some d → ∃ v, vs[i]? = some v ∧ RelD K ρ H d v
  | [], _, _, _, _, e => by simp at e
  | d :: ds, vs, 0, d', h, e => by
    unfold RelDs at h
    obtain ⟨v, r, rfl, h2, h3⟩ := h
    simp at e
    subst e
    exact ⟨v, rfl, h2⟩
  | d :: ds, vs, i + 1, d', h, e => by
    unfold RelDs at h
    obtain ⟨v, r, rfl, h2, h3⟩ := h
    obtain ⟨u, a, b⟩ := RelDs.get (i := i) h3 (by simpa using e)
    exact ⟨u, by simpa using a, b⟩
theorem RelDs.get' : ∀ {ds : List D} {vs : List V} {i : Nat} {v : V}, RelDs K ρ H ds vs → vs[i]? = some v → ∃ d, ds[i]? = some d ∧ RelD K ρ H d v := fun {ds vs i v} h e => by
  have hl := h.len
  have hi := (List.getElem?_eq_some_iff.mp e).1
  have hi' : i < ds.length := by omega
  obtain ⟨u, a, b⟩ := h.get (List.getElem?_eq_getElem hi')
  rw [e] at a
  cases a
  exact ⟨_, List.getElem?_eq_getElem hi', b⟩
theorem RelDs.append : ∀ {a b : List D} {u v : List V}, RelDs K ρ H a u → RelDs K ρ H b v → RelDs K ρ H (a ++ b) (u ++ v)
  | [], b, u, v, h, t => by unfold RelDs at h; subst h; exact t
  | d :: ds, b, u, v, h, t => by
    unfold RelDs at h
    obtain ⟨x, r, rfl, h2, h3⟩ := h
    exact .cons h2 (RelDs.append h3 t)
theorem RelDs.drop : ∀ {a : List D} {u : List V} (n : Nat), RelDs K ρ H a u → RelDs K ρ H (a.drop n) (u.drop n)
  | a, u, 0, h => h
  | [], u, n + 1, h => by unfold RelDs at h; subst h; exact .nil
  | d :: ds, u, n + 1, h => by
    unfold RelDs at h
    obtain ⟨x, r, rfl, h2, h3⟩ := h
    exact RelDs.drop n h3
theorem RelDs.take : ∀ {a : List D} {u : List V} (n : Nat), RelDs K ρ H a u → RelDs K ρ H (a.take n) (u.take n)
  | a, u, 0, h => .nil
  | [], u, n + 1, h => by unfold RelDs at h; subst h; exact .nil
  | d :: ds, u, n + 1, h => by
    unfold RelDs at h
    obtain ⟨x, r, rfl, h2, h3⟩ := h
    exact .cons h2 (RelDs.take n h3)
theorem RelDs.set {d : D} {v : V} (r : RelD K ρ H d v) : ∀ {a : List D} {u : List V} (n : Nat), RelDs K ρ H a u → RelDs K ρ H (a.set n d) (u.set n v)
  | [], u, n, h => by unfold RelDs at h; subst h; exact .nil
  | x :: ds, u, 0, h => by
    unfold RelDs at h
    obtain ⟨x, t, rfl, h2, h3⟩ := h
    exact .cons r h3
  | x :: ds, u, n + 1, h => by
    unfold RelDs at h
    obtain ⟨x, t, rfl, h2, h3⟩ := h
    exact .cons h2 (RelDs.set r n h3)
theorem RelDs.eraseIdx : ∀ {a : List D} {u : List V} (n : Nat), RelDs K ρ H a u → RelDs K ρ H (a.eraseIdx n) (u.eraseIdx n)
  | [], u, n, h => by unfold RelDs at h; subst h; exact .nil
  | x :: ds, u, 0, h => by
    unfold RelDs at h
    obtain ⟨x, t, rfl, h2, h3⟩ := h
    exact h3
  | x :: ds, u, n + 1, h => by
    unfold RelDs at h
    obtain ⟨x, t, rfl, h2, h3⟩ := h
    exact .cons h2 (RelDs.eraseIdx n h3)
theorem RelDs.dropLast : ∀ {a : List D} {u : List V}, RelDs K ρ H a u → RelDs K ρ H a.dropLast u.dropLast := fun {a u} h => by
  rw [List.dropLast_eq_take, List.dropLast_eq_take, h.len]
  exact h.take _
end

/-- the slots -/
structure Sl (K : PySem.W.Frag) (ρ : List Addr) (H : Hp) (σD : Loc) (σ : L2.St) : Prop where
  len : σD.length = σ.length
  at_ : ∀ (i : Nat) (d : D), σD[i]? = some (some d) → ∃ v, σ[i]? = some (some v) ∧ RelD K ρ H d v
section
variable {K : PySem.W.Frag} {ρ ρ' : List Addr} {H H' : Hp} {σD : Loc} {σ : L2.St}
theorem Sl.ext (s : Sl K ρ H σD σ) (e : Ext ρ ρ' H H') : Sl K ρ' H' σD σ := ⟨s.len, fun i d h => let ⟨v, a, b⟩ := s.at_ i d h; ⟨v, a, b.ext e⟩⟩
theorem Sl.set (s : Sl K ρ H σD σ) {d : D} {v : V} (r : RelD K ρ H d v) (i : Nat) : Sl K ρ H (σD.set i (some d)) (σ.set i (some v)) := by
  refine ⟨by rw [List.length_set, List.length_set, s.len], fun j d' h => ?_⟩
  by_cases hj : i = j
  · subst hj
    have hi : i < σD.length := by
      have := (List.getElem?_eq_some_iff.mp h).1
      rwa [List.length_set] at this
    rw [List.getElem?_set_self hi] at h
    cases h
    rw [List.getElem?_set_self (by rw [← s.len]; exact hi)]
    exact ⟨v, rfl, r⟩
  · rw [List.getElem?_set_ne hj] at h ⊢
    exact s.at_ j d' h
theorem Sl.unset (s : Sl K ρ H σD σ) (i : Nat) : Sl K ρ H (σD.set i none) (σ.set i none) := by
  refine ⟨by rw [List.length_set, List.length_set, s.len], fun j d' h => ?_⟩
  by_cases hj : i = j
  · subst hj
    have hi : i < σD.length := by
      have := (List.getElem?_eq_some_iff.mp h).1
      rwa [List.length_set] at this
    rw [List.getElem?_set_self hi] at h
    cases h
  · rw [List.getElem?_set_ne hj] at h ⊢
    exact s.at_ j d' h
theorem Sl.wipe (s : Sl K ρ H σD σ) : ∀ vs : List Nat, Sl K ρ H (wipeD σD vs) (wipe σ vs)
  | [] => s
  | v :: vs => (Sl.wipe s vs).unset v
end

section
variable {P : Program} {w : World} {K : PySem.W.Frag} {T : Names} {ρ ρ' : List Addr} {H H' : Hp} {st st' : Sto}
/-! ### the store's relation, step by step -/
theorem RelF.ext (e : Ext ρ ρ' H H') {fs : List (Nat × D)} {vs : List (Str × V)} (h : RelF K T ρ H fs vs) : RelF K T ρ' H' fs vs := Paired.mapP h fun p q z => ⟨z.1, z.2.ext e⟩
theorem RelK.ext (e : Ext ρ ρ' H H') {l : List (D × D)} {vs : List (Key × V)} (h : RelK K ρ H l vs) : RelK K ρ' H' l vs := Paired.mapP h fun p q z => ⟨z.1, z.2.ext e⟩
theorem RelT.ext (e : Ext ρ ρ' H H') {l : List (D × D)} {xs : List (NestedKey × Addr × Value)} (h : RelT K ρ H l xs) : RelT K ρ' H' l xs :=
  Paired.mapP h fun p q z => ⟨z.1, z.2.1, z.2.2.1, z.2.2.2.1.ext e, let ⟨v, a, b⟩ := z.2.2.2.2; ⟨v, a, b.ext e⟩⟩
theorem SqL.keep {a : Addr} {xs : List V} (h : SqL K H a xs) (hs : ∀ u, H a = some u → H' a = some u) : SqL K H' a xs := by
  rcases h with (h | ⟨o, h⟩) | h
  · exact .inl (.inl (hs _ h))
  · exact .inl (.inr ⟨o, hs _ h⟩)
  · exact .inr h
/-- an object that stands as it stood -/
theorem RelO.keep {a : Addr} {o : O} (e : Ext ρ ρ' H H') (h : RelO P w K T ρ H a o) (hs : ∀ u, H a = some u → H' a = some u) (ho : ∀ b u, b ∉ ρ → H b = some u → b ∉ ρ' ∧ H' b = some u) : RelO P w K T ρ' H' a o := by
  cases o with
  | lst l => obtain ⟨vs, h1, h2⟩ := h; exact ⟨vs, hs _ h1, h2.ext e⟩
  | dic l =>
    rcases h with ⟨kvs, h1, h2⟩ | ⟨hn, xs, h1, h2, h3⟩
    · exact .inl ⟨kvs, hs _ h1, h2.ext e⟩
    · exact .inr ⟨hn, xs, hs _ h1, h2, h3.ext e⟩
  | ins c fs => obtain ⟨x, dx, vs, h1, h2, h3⟩ := h; exact ⟨x, dx, vs, h1, hs _ h2, h3.ext e⟩
  | exn c fs =>
    obtain ⟨nm, fld, h1, h2⟩ := h
    refine ⟨nm, fld, h1, ?_⟩
    cases fld with
    | none => exact ⟨h2.1, hs _ h2.2⟩
    | some f =>
      rcases h2 with ⟨h2, h3⟩ | ⟨m, d, dx, v, h2, h3, h4, h5, h6, h7⟩
      · exact .inl ⟨h2, hs _ h3⟩
      · exact .inr ⟨m, d, dx, v, h2, h3, hs _ h4, (ho _ _ h6 h5).2, (ho _ _ h6 h5).1, h7.ext e⟩
theorem RelS.at_ (r : RelS P w K T ρ st H) {i : Nat} {o : O} (h : st[i]? = some o) : ∃ a, ρ[i]? = some a ∧ RelO P w K T ρ H a o := by
  have hi := (List.getElem?_eq_some_iff.mp h).1
  have hi' : i < ρ.length := by rw [r.len]; exact hi
  exact ⟨_, List.getElem?_eq_getElem hi', r.obj i o _ h (List.getElem?_eq_getElem hi')⟩
/-- what the store does not tell may come or change -/
theorem RelS.keep (r : RelS P w K T ρ st H) (e : Ext ρ ρ H H') (hs : ∀ a u, H a = some u → H' a = some u) : RelS P w K T ρ st H' :=
  ⟨r.len, r.nd, fun i o a h1 h2 => (r.obj i o a h1 h2).keep e (hs a) fun b u hb e => ⟨hb, hs b u e⟩⟩
theorem RelS.tmp (r : RelS P w K T ρ st H) {p : Addr} {o : HO} (hp : H p = none) : RelS P w K T ρ st (upd H p o) :=
  r.keep (.tmp hp) fun a u hu => by rw [upd_ne (ne_of_none hu hp)]; exact hu
/-- an address of the store is tracked -/
theorem RelO.some_ {a : Addr} {o : O} (h : RelO P w K T ρ H a o) : ∃ u, H a = some u ∧ Mut (some u) := by
  cases o with
  | lst l => obtain ⟨vs, h1, h2⟩ := h; exact ⟨_, h1, trivial⟩
  | dic l =>
    rcases h with ⟨kvs, h1, h2⟩ | ⟨hn, xs, h1, h2, h3⟩
    · exact ⟨_, h1, trivial⟩
    · exact ⟨_, h1, trivial⟩
  | ins c fs => obtain ⟨x, dx, vs, h1, h2, h3⟩ := h; exact ⟨_, h2, trivial⟩
  | exn c fs =>
    obtain ⟨nm, fld, h1, h2⟩ := h
    cases fld with
    | none => exact ⟨_, h2.2, trivial⟩
    | some f =>
      rcases h2 with ⟨h2, h3⟩ | ⟨m, d, dx, v, h2, h3, h4, h5, h6, h7⟩
      · exact ⟨_, h3, trivial⟩
      · exact ⟨_, h4, trivial⟩
theorem mem_st (r : RelS P w K T ρ st H) {a : Addr} (ha : a ∈ ρ) : ∃ (i : Nat) (o : O), st[i]? = some o ∧ ρ[i]? = some a ∧ RelO P w K T ρ H a o := by
  obtain ⟨i, hi, e⟩ := List.getElem_of_mem ha
  have hi' : i < st.length := by rw [← r.len]; exact hi
  have e2 : ρ[i]? = some a := by rw [List.getElem?_eq_getElem hi, e]
  exact ⟨i, _, List.getElem?_eq_getElem hi', e2, r.obj i _ a (List.getElem?_eq_getElem hi') e2⟩
theorem RelS.new_not (r : RelS P w K T ρ st H) {p : Addr} (hp : H p = none) : p ∉ ρ := fun hm => by
  obtain ⟨i, o, h1, h2, h3⟩ := mem_st r hm
  obtain ⟨u, h4, _⟩ := h3.some_
  rw [hp] at h4
  cases h4
/-- a new object of the store -/
theorem RelS.push (r : RelS P w K T ρ st H) {p : Addr} {u : HO} {o : O} (hp : H p = none) (ho : RelO P w K T (ρ ++ [p]) (upd H p u) p o) : RelS P w K T (ρ ++ [p]) (st ++ [o]) (upd H p u) := by
  have e : Ext ρ (ρ ++ [p]) H (upd H p u) := .new hp
  refine ⟨by rw [List.length_append, List.length_append, r.len]; rfl, ?_, fun i o' a h1 h2 => ?_⟩
  · rw [List.nodup_append]
    refine ⟨r.nd, by simp, fun a ha b hb => ?_⟩
    have : b = p := by simpa using hb
    subst this
    exact fun z => r.new_not hp (z ▸ ha)
  · by_cases hi : i < st.length
    · rw [List.getElem?_append_left hi] at h1
      rw [List.getElem?_append_left (by rw [r.len]; exact hi)] at h2
      exact (r.obj i o' a h1 h2).keep e (fun v hv => by rw [upd_ne (ne_of_none hv hp)]; exact hv) fun b u hb hu => ⟨fun z => by
        rcases List.mem_append.mp z with z | z
        · exact hb z
        · exact ne_of_none hu hp (by simpa using z), by rw [upd_ne (ne_of_none hu hp)]; exact hu⟩
    · have hi2 : i = st.length := by
        have := (List.getElem?_eq_some_iff.mp h1).1
        rw [List.length_append, List.length_singleton] at this
        omega
      subst hi2
      rw [List.getElem?_append_right (Nat.le_refl _), Nat.sub_self] at h1
      rw [← r.len, List.getElem?_append_right (Nat.le_refl _), Nat.sub_self] at h2
      have e1 : o = o' := by simpa using h1
      have e2 : p = a := by simpa using h2
      subst e1 e2
      exact ho
/-- an object of the store is changed -/
theorem RelS.set (r : RelS P w K T ρ st H) {i : Nat} {p : Addr} {o o' : O} {u : HO} (h : st[i]? = some o) (hp : ρ[i]? = some p) (ho : ∀ (e : Ext ρ ρ H (upd H p u)), RelO P w K T ρ (upd H p u) p o') : RelS P w K T ρ (st.set i o') (upd H p u) ∧ Ext ρ ρ H (upd H p u) := by
  obtain ⟨v, hv, mu⟩ := (r.obj i o p h hp).some_
  have e : Ext ρ ρ H (upd H p u) := .mut hv (fun xs z => by subst z; exact mu) fun q x z => by subst z; exact mu
  refine ⟨⟨by rw [List.length_set]; exact r.len, r.nd, fun j o2 a h1 h2 => ?_⟩, e⟩
  by_cases hj : i = j
  · subst hj
    rw [List.getElem?_set_self (List.getElem?_eq_some_iff.mp h).1] at h1
    rw [hp] at h2
    cases h1
    cases h2
    exact ho e
  · rw [List.getElem?_set_ne hj] at h1
    have ne : a ≠ p := fun z => by
      subst z
      have h3 := (List.getElem?_eq_some_iff.mp hp)
      have h4 := (List.getElem?_eq_some_iff.mp h2)
      obtain ⟨l3, e3⟩ := h3
      obtain ⟨l4, e4⟩ := h4
      exact hj ((List.getElem_inj r.nd).mp (e3.trans e4.symm))
    exact (r.obj j o2 a h1 h2).keep e (fun v hv => by rw [upd_ne ne]; exact hv) fun b u hb hu => ⟨hb, by
      have nb : b ≠ p := fun z => hb (by rw [z]; exact List.mem_of_getElem? hp)
      rw [upd_ne nb]; exact hu⟩
end

/-! ## exceptions of the program's own -/
def RelX (K : PySem.W.Frag) (T : Names) (ρ : List Addr) (H : Hp) (x : Exn) (c : Value) (dd : Option Addr) : Prop :=
  ∃ nm fld, T.excs[x.cls]? = some (nm, fld) ∧ c = .ref (He.ga K nm) ∧ match fld with
    | none => dd = none ∧ x.arg = none
    | some f => ∃ d a v, x.arg = some d ∧ dd = some a ∧ H a = some (.xd [(f, v)]) ∧ RelD K ρ H d v

/-! ## a meaning as a reading of the layer below -/
section
variable (P : Program) (w : World) (K : PySem.W.Frag) (T : Names)
abbrev WE := Loc → Sto → QE → XP → Prop
def PoE (ρ : List Addr) (H : Hp) (Q : VK) : QE := fun d st' => ∀ ρ' H' v, Ext ρ ρ' H H' → RelS P w K T ρ' st' H' → RelD K ρ' H' d v → Q v H'
def PoX (ρ : List Addr) (H : Hp) (σ : L2.St) (W : WX) : XP := fun x st' => ∀ ρ' H' c dd, Ext ρ ρ' H H' → RelS P w K T ρ' st' H' → RelX K T ρ' H' x c dd → W c dd σ H'
def tOf (W : WX) (m : WE) : TE := fun σ H Q => ∃ ρ σD st, RelS P w K T ρ st H ∧ Sl K ρ H σD σ ∧ m σD st (PoE P w K T ρ H Q) (PoX P w K T ρ H σ W)
def tOfT (W : WX) (m : WE) : TT := fun σ H Q => ∃ ρ σD st, RelS P w K T ρ st H ∧ Sl K ρ H σD σ ∧
  m σD st (fun d st' => ∃ b, d = .bl b ∧ ∀ ρ' H', Ext ρ ρ' H H' → RelS P w K T ρ' st' H' → Q b H') (PoX P w K T ρ H σ W)
def tOfA (W : WX) (m : Loc → Sto → (List D → Sto → Prop) → XP → Prop) : TA := fun σ H Q => ∃ ρ σD st, RelS P w K T ρ st H ∧ Sl K ρ H σD σ ∧
  m σD st (fun ds st' => ∀ ρ' H' vs, Ext ρ ρ' H H' → RelS P w K T ρ' st' H' → RelDs K ρ' H' ds vs → Q vs H') (PoX P w K T ρ H σ W)
end
abbrev MonE (m : WE) : Prop := ∀ σ st Q Q' X X', (∀ d s, Q d s → Q' d s) → (∀ x s, X x s → X' x s) → m σ st Q X → m σ st Q' X'
abbrev MonA (m : Loc → Sto → (List D → Sto → Prop) → XP → Prop) : Prop := ∀ σ st Q Q' X X', (∀ d s, Q d s → Q' d s) → (∀ x s, X x s → X' x s) → m σ st Q X → m σ st Q' X'
section
variable {P : Program} {w : World} {K : PySem.W.Frag} {T : Names} {ρ ρ' : List Addr} {H H' : Hp} {st st' : Sto} {σD : Loc} {σ : L2.St} {W : WX}
theorem PoE.ext (e : Ext ρ ρ' H H') {Q : VK} {d : D} (h : PoE P w K T ρ H Q d st) : PoE P w K T ρ' H' Q d st := fun ρ2 H2 v e2 => h ρ2 H2 v (e.trans e2)
theorem PoX.ext (e : Ext ρ ρ' H H') {x : Exn} (h : PoX P w K T ρ H σ W x st) : PoX P w K T ρ' H' σ W x st := fun ρ2 H2 c dd e2 => h ρ2 H2 c dd (e.trans e2)
/-- one part is evaluated -/
theorem tOf.step {m : WE} (hm : MonE m) (r : RelS P w K T ρ st H) (s : Sl K ρ H σD σ) {R : QE} (p : m σD st R (PoX P w K T ρ H σ W)) {Q : VK}
    (h : ∀ ρ1 H1 d st1 x, Ext ρ ρ1 H H1 → RelS P w K T ρ1 st1 H1 → Sl K ρ1 H1 σD σ → RelD K ρ1 H1 d x → R d st1 → Q x H1) : tOf P w K T W m σ H Q :=
  ⟨ρ, σD, st, r, s, hm _ _ _ _ _ _ (fun d st1 hR ρ1 H1 v e r1 rd => h ρ1 H1 d st1 v e r1 (s.ext e) rd hR) (fun x st1 hx => hx) p⟩
theorem tOfA.step {m : Loc → Sto → (List D → Sto → Prop) → XP → Prop} (hm : MonA m) (r : RelS P w K T ρ st H) (s : Sl K ρ H σD σ) {R : List D → Sto → Prop} (p : m σD st R (PoX P w K T ρ H σ W)) {Q : List V → Hp → Prop}
    (h : ∀ ρ1 H1 ds st1 xs, Ext ρ ρ1 H H1 → RelS P w K T ρ1 st1 H1 → Sl K ρ1 H1 σD σ → RelDs K ρ1 H1 ds xs → R ds st1 → Q xs H1) : tOfA P w K T W m σ H Q :=
  ⟨ρ, σD, st, r, s, hm _ _ _ _ _ _ (fun d st1 hR ρ1 H1 v e r1 rd => h ρ1 H1 d st1 v e r1 (s.ext e) rd hR) (fun x st1 hx => hx) p⟩
/-- a weaker reading -/
theorem PE.imp {X : Cx} {e : Expr} {t t' : TE} (h : PE X e t) (hi : ∀ σ H Q, t' σ H Q → t σ H Q) : PE X e t' := ⟨fun pins s σ H Q I p => h.run pins s σ H Q I (hi σ H Q p)⟩
theorem PT.imp {X : Cx} {e : Expr} {t t' : TT} (h : PT X e t) (hi : ∀ σ H Q, t' σ H Q → t σ H Q) : PT X e t' := ⟨fun pins s σ H Q I p => h.run pins s σ H Q I (hi σ H Q p)⟩
theorem PA.imp {X : Cx} {e : List Expr} {t t' : TA} (h : PA X e t) (hi : ∀ σ H Q, t' σ H Q → t σ H Q) : PA X e t' := ⟨fun pos pins s σ H Q I p => h.run pos pins s σ H Q I (hi σ H Q p)⟩
theorem PSs.imp {X : Cx} {e : List Stmt} {t t' : TS} (h : PSs X e t) (hi : ∀ σ H Q, t' σ H Q → t σ H Q) : PSs X e t' := ⟨fun pins s σ H Q I p => h.run pins s σ H Q I (hi _ _ _ p)⟩
theorem PS.imp {X : Cx} {e : Stmt} {t t' : TS} (h : PS X e t) (hi : ∀ σ H Q, t' σ H Q → t σ H Q) : PS X e t' := ⟨fun pins s σ H Q I p => h.run pins s σ H Q I (hi _ _ _ p)⟩
end
end Z
end
section
set_option linter.all false
set_option maxRecDepth 100000
set_option maxHeartbeats 4000000
namespace Z
open PySem PySem.Spec PyProof.Rows L2

/-! ## the built-in operations, by values -/
section
variable (P : Program) (w : World) (K : PySem.W.Frag) (T : Names)
def rP (o : Op) : List V → Hp → VK → Prop := fun vs H Q => ∃ ρ st ds, RelS P w K T ρ st H ∧ RelDs K ρ H ds vs ∧ prim o ds st (PoE P w K T ρ H Q)
end
section
variable {P : Program} {w : World} {K : PySem.W.Frag} {T : Names} {ρ ρ' : List Addr} {H H' : Hp} {st st' : Sto} {σD : Loc} {σ : L2.St} {W : WX}
theorem RelDs.one {d : D} {vs : List V} (h : RelDs K ρ H [d] vs) : ∃ v, vs = [v] ∧ RelD K ρ H d v := by
  unfold RelDs at h
  obtain ⟨v, r, rfl, h1, h2⟩ := h
  unfold RelDs at h2
  subst h2
  exact ⟨v, rfl, h1⟩
theorem RelDs.two {d e : D} {vs : List V} (h : RelDs K ρ H [d, e] vs) : ∃ v u, vs = [v, u] ∧ RelD K ρ H d v ∧ RelD K ρ H e u := by
  unfold RelDs at h
  obtain ⟨v, r, rfl, h1, h2⟩ := h
  obtain ⟨u, rfl, h3⟩ := h2.one
  exact ⟨v, u, rfl, h1, h3⟩
theorem RelDs.three {d e f : D} {vs : List V} (h : RelDs K ρ H [d, e, f] vs) : ∃ v u t, vs = [v, u, t] ∧ RelD K ρ H d v ∧ RelD K ρ H e u ∧ RelD K ρ H f t := by
  unfold RelDs at h
  obtain ⟨v, r, rfl, h1, h2⟩ := h
  obtain ⟨u, t, rfl, h3, h4⟩ := h2.two
  exact ⟨v, u, t, rfl, h1, h3, h4⟩
theorem RelD.int_ {i : Int} {v : V} (h : RelD K ρ H (.int i) v) : v = .int i := by unfold RelD at h; exact h
theorem RelD.str_ {i : Str} {v : V} (h : RelD K ρ H (.str i) v) : v = .str i := by unfold RelD at h; exact h
theorem RelD.bl_ {i : Bool} {v : V} (h : RelD K ρ H (.bl i) v) : v = .bl i := by unfold RelD at h; exact h
theorem RelD.non_ {v : V} (h : RelD K ρ H .non v) : v = .non := by unfold RelD at h; exact h
theorem RelD.tup_ {l : List D} {v : V} (h : RelD K ρ H (.tup l) v) : ∃ a vs, v = .ref a ∧ SqT K H a vs ∧ RelDs K ρ H l vs := by unfold RelD at h; exact h
theorem RelD.fro_ {l : List D} {v : V} (h : RelD K ρ H (.fro l) v) : ∃ a vs, v = .ref a ∧ FrL K H a vs ∧ RelDs K ρ H l vs := by unfold RelD at h; exact h
theorem RelD.ref_ {i : Nat} {v : V} (h : RelD K ρ H (.ref i) v) : ∃ a, ρ[i]? = some a ∧ v = .ref a := by unfold RelD at h; exact h
theorem RelD.int (i : Int) : RelD K ρ H (.int i) (.int i) := by unfold RelD; rfl
theorem RelD.str (i : Str) : RelD K ρ H (.str i) (.str i) := by unfold RelD; rfl
theorem RelD.bl (i : Bool) : RelD K ρ H (.bl i) (.bl i) := by unfold RelD; rfl
theorem RelD.non : RelD K ρ H .non .non := by unfold RelD; rfl
theorem RelD.tup {l : List D} {a : Addr} {vs : List V} (h : SqT K H a vs) (r : RelDs K ρ H l vs) : RelD K ρ H (.tup l) (.ref a) := by unfold RelD; exact ⟨a, vs, rfl, h, r⟩
theorem RelD.ref {i : Nat} {a : Addr} (h : ρ[i]? = some a) : RelD K ρ H (.ref i) (.ref a) := by unfold RelD; exact ⟨a, h, rfl⟩
/-- a value that needs no heap -/
theorem PoE.now {Q : VK} {d : D} {v : V} (h : PoE P w K T ρ H Q d st) (r : RelS P w K T ρ st H) (rd : RelD K ρ H d v) : Q v H := h ρ H v .refl r rd
/-- a new list -/
theorem PoE.newL {Q : VK} {l : List D} {vs : List V} (h : PoE P w K T ρ H Q (.ref st.length) (st ++ [.lst l])) (r : RelS P w K T ρ st H) (rd : RelDs K ρ H l vs) {p : Addr} (hp : H p = none) : Q (.ref p) (upd H p (.lst vs)) := by
  have e : Ext ρ (ρ ++ [p]) H (upd H p (.lst vs)) := .new hp
  refine h (ρ ++ [p]) _ _ e (r.push hp ⟨vs, upd_same, rd.ext e⟩) (.ref ?_)
  rw [← r.len, List.getElem?_append_right (Nat.le_refl _), Nat.sub_self]
  rfl
/-- a new tuple -/
theorem PoE.newT {Q : VK} {l : List D} {vs : List V} (h : PoE P w K T ρ H Q (.tup l) st) (r : RelS P w K T ρ st H) (rd : RelDs K ρ H l vs) {p : Addr} (hp : H p = none) : Q (.ref p) (upd H p (.tup vs)) := by
  have e : Ext ρ ρ H (upd H p (.tup vs)) := .tmp hp
  exact h ρ _ _ e (r.tmp hp) (.tup (.of upd_same) (rd.ext e))
/-- a list of the store is changed -/
theorem PoE.setL {Q : VK} {i : Nat} {p : Addr} {l l' : List D} {vs' : List V} {d : D} {v : V} (h : PoE P w K T ρ H Q d (st.set i (.lst l'))) (r : RelS P w K T ρ st H) (hi : st[i]? = some (.lst l)) (hp : ρ[i]? = some p) (rd : RelDs K ρ H l' vs') (rv : RelD K ρ H d v) :
    Q v (upd H p (.lst vs')) := by
  obtain ⟨r', e⟩ := r.set (o' := .lst l') (u := .lst vs') hi hp fun e => ⟨vs', upd_same, rd.ext e⟩
  exact h ρ _ _ e r' (rv.ext e)
theorem lst_at (r : RelS P w K T ρ st H) {i : Nat} {l : List D} {v : V} (rv : RelD K ρ H (.ref i) v) (h : st[i]? = some (.lst l)) : ∃ a vs, v = .ref a ∧ ρ[i]? = some a ∧ H a = some (.lst vs) ∧ RelDs K ρ H l vs := by
  obtain ⟨a, ha, rfl⟩ := rv.ref_
  obtain ⟨vs, h1, h2⟩ := r.obj i _ a h ha
  exact ⟨a, vs, rfl, ha, h1, h2⟩
theorem lstAt_some {i : Nat} {l : List D} (h : lstAt st i = some l) : st[i]? = some (.lst l) := by
  unfold lstAt at h
  split at h
  · rename_i l' hl
    cases h
    exact hl
  · cases h
theorem prim_some {o : Op} {ds : List D} {Q : QE} (p : prim o ds st Q) : ∃ d st', primF o ds st = some (d, st') ∧ Q d st' := by
  unfold prim at p
  split at p
  · rename_i d st' hp
    exact ⟨d, st', hp, p⟩
  · exact p.elim
theorem newL_some {l : List D} {d : D} (h : newL l st = some (d, st')) : l.length ≤ sizeLine ∧ d = .ref st.length ∧ st' = st ++ [.lst l] := by
  unfold newL at h
  split at h
  · rename_i hz
    cases h
    exact ⟨hz, rfl, rfl⟩
  · cases h
theorem RelDs.inj_nil {l : List D} {vs : List V} (h : RelDs K ρ H l vs) : l = [] ↔ vs = [] := by
  constructor
  · intro e; subst e; have := h.len; simpa using this.symm
  · intro e; subst e; have := h.len; simpa using this
/-- a list or a tuple that is read -/
theorem seq_at (r : RelS P w K T ρ st H) {d : D} {l : List D} {v : V} (rv : RelD K ρ H d v) (h : seqOf st d = some l) : ∃ a vs, v = .ref a ∧ (SqL K H a vs ∨ SqT K H a vs) ∧ RelDs K ρ H l vs := by
  cases d with
  | tup l' =>
    cases h
    obtain ⟨a, vs, rfl, h1, h2⟩ := rv.tup_
    exact ⟨a, vs, rfl, .inr h1, h2⟩
  | fro l' =>
    cases h
    obtain ⟨a, vs, rfl, h1, h2⟩ := rv.fro_
    exact ⟨a, vs, rfl, .inl h1.sq, h2⟩
  | ref i =>
    obtain ⟨a, vs, rfl, _, h1, h2⟩ := lst_at r rv (lstAt_some (show lstAt st i = some l from h))
    exact ⟨a, vs, rfl, .inl (.of h1), h2⟩
  | _ => cases h
end
section
variable {X : Cx} {T : Names}
abbrev rX (X : Cx) (T : Names) (o : Op) : List V → Hp → VK → Prop := rP X.prog X.w X.K T o
abbrev rX2 (X : Cx) (T : Names) (o : Op) : R2 := fun x y H Q => rX X T o [x, y] H Q
theorem OpR.imp {f : Value → Value → Sem Value} {r r' : R2} (h : OpR X f r) (hi : ∀ x y H Q, r' x y H Q → r x y H Q) : OpR X f r' := fun pins s σ H x y v u Q I rx ry p => h pins s σ H x y v u Q I rx ry (hi x y H Q p)
theorem CallR.imp {f : Value} {r r' : List V → Hp → VK → Prop} (h : CallR X f r) (hi : ∀ vs H Q, r' vs H Q → r vs H Q) : CallR X f r' := fun pins s σ H xs us Q I rx p => h pins s σ H xs us Q I rx (hi xs H Q p)
theorem IxR.imp {r r' : R2} (h : IxR X r) (hi : ∀ x y H Q, r' x y H Q → r x y H Q) : IxR X r' := fun value slice pins s σ H x y v u Q I rx ry p => h value slice pins s σ H x y v u Q I rx ry (hi x y H Q p)
/-- two parts of one answer -/
theorem OpR.two {f : Value → Value → Sem Value} {r r1 r2 : R2} (h1 : OpR X f r1) (h2 : OpR X f r2) (hi : ∀ x y H Q, r x y H Q → r1 x y H Q ∨ r2 x y H Q) : OpR X f r := fun pins s σ H x y v u Q I rx ry p => by
  rcases hi x y H Q p with q | q
  · exact h1 pins s σ H x y v u Q I rx ry q
  · exact h2 pins s σ H x y v u Q I rx ry q
theorem CallR.two {f : Value} {r r1 r2 : List V → Hp → VK → Prop} (h1 : CallR X f r1) (h2 : CallR X f r2) (hi : ∀ vs H Q, r vs H Q → r1 vs H Q ∨ r2 vs H Q) : CallR X f r := fun pins s σ H xs us Q I rx p => by
  rcases hi xs H Q p with q | q
  · exact h1 pins s σ H xs us Q I rx q
  · exact h2 pins s σ H xs us Q I rx q
theorem IxR.two {r r1 r2 : R2} (h1 : IxR X r1) (h2 : IxR X r2) (hi : ∀ x y H Q, r x y H Q → r1 x y H Q ∨ r2 x y H Q) : IxR X r := fun value slice pins s σ H x y v u Q I rx ry p => by
  rcases hi x y H Q p with q | q
  · exact h1 value slice pins s σ H x y v u Q I rx ry q
  · exact h2 value slice pins s σ H x y v u Q I rx ry q

theorem z_add : OpR X (binaryOp .Add) (rX2 X T .add) := by
  refine OpR.two (OpR.two op_add op_add_str (r := fun x y H Q => (∃ i j, x = .int i ∧ y = .int j ∧ Q (.int (i + j)) H) ∨ ∃ i j, x = .str i ∧ y = .str j ∧ i.length + j.length ≤ sizeLine ∧ Q (.str (i ++ j)) H) fun _ _ _ _ z => z)
    (OpR.two op_cat op_catA (r := fun x y H Q => rCat x y H Q ∨ rCatA X.K x y H Q) fun _ _ _ _ z => z) fun x y H Q p => ?_
  obtain ⟨ρ, st, ds, r, rd, p⟩ := p
  obtain ⟨d, st', hp, p⟩ := prim_some p
  unfold primF pAdd at hp
  simp only at hp
  split at hp
  · cases hp
    obtain ⟨v, u, e, r1, r2⟩ := rd.two
    cases e
    cases r1.int_
    cases r2.int_
    exact .inl (.inl ⟨_, _, rfl, rfl, p.now r (.int _)⟩)
  · split at hp
    · rename_i hz
      cases hp
      obtain ⟨v, u, e, r1, r2⟩ := rd.two
      cases e
      cases r1.str_
      cases r2.str_
      exact .inl (.inr ⟨_, _, rfl, rfl, hz, p.now r (.str _)⟩)
    · cases hp
  · split at hp
    · rename_i hz
      cases hp
      obtain ⟨v, u, e, r1, r2⟩ := rd.two
      cases e
      obtain ⟨a, vs, rfl, h1, h2⟩ := r1.tup_
      obtain ⟨b, us, rfl, h3, h4⟩ := r2.tup_
      refine .inr (.inr ⟨a, b, vs, us, rfl, rfl, h1, h3, by rw [← h2.len, ← h4.len]; exact hz, fun e => ?_, fun _ e => ?_, fun _ _ q hq => p.newT r (h2.append h4) hq⟩)
      · cases h2.inj_nil.mpr e
        exact p.now r (.tup h3 h4)
      · cases h4.inj_nil.mpr e
        rw [List.append_nil] at p
        exact p.now r (.tup h1 h2)
    · cases hp
  · split at hp
    · rename_i ha hb
      obtain ⟨hz, rfl, rfl⟩ := newL_some hp
      obtain ⟨v, u, e, r1, r2⟩ := rd.two
      cases e
      obtain ⟨a, vs, rfl, _, h1, h2⟩ := lst_at r r1 ha
      obtain ⟨b, us, rfl, _, h3, h4⟩ := lst_at r r2 hb
      exact .inr (.inl ⟨a, b, vs, us, rfl, rfl, h1, h3, by rw [← h2.len, ← h4.len, ← List.length_append]; exact hz, fun q hq => p.newL r (h2.append h4) hq⟩)
    · cases hp
  · cases hp
/-- two ints -/
theorem two_int {ρ : List Addr} {H : Hp} {x y : V} {a b : Int} (rd : RelDs X.K ρ H [.int a, .int b] [x, y]) : x = .int a ∧ y = .int b := by
  obtain ⟨v, u, e, r1, r2⟩ := rd.two
  cases e
  exact ⟨r1.int_, r2.int_⟩
theorem two_str {ρ : List Addr} {H : Hp} {x y : V} {a b : Str} (rd : RelDs X.K ρ H [.str a, .str b] [x, y]) : x = .str a ∧ y = .str b := by
  obtain ⟨v, u, e, r1, r2⟩ := rd.two
  cases e
  exact ⟨r1.str_, r2.str_⟩
theorem z_sub : OpR X (binaryOp .Sub) (rX2 X T .sub) := by
  refine OpR.imp op_sub fun x y H Q p => ?_
  obtain ⟨ρ, st, ds, r, rd, p⟩ := p
  obtain ⟨d, st', hp, p⟩ := prim_some p
  unfold primF pSub at hp
  simp only at hp
  split at hp
  · cases hp
    obtain ⟨rfl, rfl⟩ := two_int rd
    exact ⟨_, _, rfl, rfl, p.now r (.int _)⟩
  · cases hp
theorem RelDs.rep {ρ : List Addr} {H : Hp} {l : List D} {vs : List V} (h : RelDs X.K ρ H l vs) : ∀ n : Nat, RelDs X.K ρ H (List.replicate n l).flatten (List.replicate n vs).flatten
  | 0 => .nil
  | n + 1 => by rw [List.replicate_succ, List.replicate_succ, List.flatten_cons, List.flatten_cons]; exact h.append (RelDs.rep h n)
theorem z_mul : OpR X (binaryOp .Mult) (rX2 X T .mul) := by
  refine OpR.two op_mul op_rep fun x y H Q p => ?_
  obtain ⟨ρ, st, ds, r, rd, p⟩ := p
  obtain ⟨d, st', hp, p⟩ := prim_some p
  unfold primF pMul at hp
  simp only at hp
  split at hp
  · split at hp
    · rename_i hz
      cases hp
      obtain ⟨rfl, rfl⟩ := two_int rd
      exact .inl ⟨_, _, rfl, rfl, hz, p.now r (.int _)⟩
    · cases hp
  · split at hp
    · rename_i ha
      split at hp
      · rename_i hz
        obtain ⟨_, rfl, rfl⟩ := newL_some hp
        obtain ⟨v, u, e, r1, r2⟩ := rd.two
        cases e
        cases r2.int_
        obtain ⟨a, vs, rfl, _, h1, h2⟩ := lst_at r r1 ha
        refine .inr ⟨a, _, vs, rfl, rfl, h1, hz.1, hz.2.1, by rw [← h2.len]; exact hz.2.2, ?_⟩
        exact fun q hq => p.newL r (h2.rep _) hq
      · cases hp
    · cases hp
  · cases hp
theorem z_mod : OpR X (binaryOp .Mod) (rX2 X T .mod) := by
  refine OpR.imp op_modN fun x y H Q p => ?_
  obtain ⟨ρ, st, ds, r, rd, p⟩ := p
  obtain ⟨d, st', hp, p⟩ := prim_some p
  unfold primF pMod at hp
  simp only at hp
  split at hp
  · split at hp
    · rename_i hz
      cases hp
      obtain ⟨rfl, rfl⟩ := two_int rd
      exact ⟨_, _, rfl, rfl, hz, p.now r (.int _)⟩
    · cases hp
  · cases hp
theorem z_fdiv : OpR X (binaryOp .FloorDiv) (rX2 X T .fdiv) := by
  refine OpR.imp op_fdivN fun x y H Q p => ?_
  obtain ⟨ρ, st, ds, r, rd, p⟩ := p
  obtain ⟨d, st', hp, p⟩ := prim_some p
  unfold primF pFdiv at hp
  simp only at hp
  split at hp
  · split at hp
    · rename_i hz
      cases hp
      obtain ⟨rfl, rfl⟩ := two_int rd
      exact ⟨_, _, rfl, rfl, hz, p.now r (.int _)⟩
    · cases hp
  · cases hp
theorem z_pow : OpR X (binaryOp .Pow) (rX2 X T .pow) := by
  refine OpR.imp op_pow fun x y H Q p => ?_
  obtain ⟨ρ, st, ds, r, rd, p⟩ := p
  obtain ⟨d, st', hp, p⟩ := prim_some p
  unfold primF pPow at hp
  simp only at hp
  split at hp
  · split at hp
    · rename_i hz
      cases hp
      obtain ⟨rfl, rfl⟩ := two_int rd
      exact ⟨_, _, rfl, rfl, hz, p.now r (.int _)⟩
    · cases hp
  · cases hp
theorem z_neg : UnR X (unaryOp .USub) (fun x H Q => rX X T .neg [x] H Q) := fun pins s σ H x v Q I rx p => by
  refine un_neg pins s σ H x v Q I rx ?_
  obtain ⟨ρ, st, ds, r, rd, p⟩ := p
  obtain ⟨d, st', hp, p⟩ := prim_some p
  unfold primF pNeg at hp
  simp only at hp
  split at hp
  · cases hp
    obtain ⟨v, e, r1⟩ := rd.one
    cases e
    cases r1.int_
    exact ⟨_, rfl, p.now r (.int _)⟩
  · cases hp

/-! ### data -/
mutual
theorem dp_of {ρ : List Addr} {st : Sto} {H : Hp} (r : RelS X.prog X.w X.K T ρ st H) : ∀ (n : Nat) (d : D) (p : PyData) (v : V), pyd st n d = some p → RelD X.K ρ H d v → Dp X.K H v p
  | n, .non, p, v, h, rd => by cases n <;> (unfold pyd at h; cases h; cases rd.non_; exact .non)
  | n, .bl b, p, v, h, rd => by cases n <;> (unfold pyd at h; cases h; cases rd.bl_; exact .bl b)
  | n, .int b, p, v, h, rd => by cases n <;> (unfold pyd at h; cases h; cases rd.int_; exact .int b)
  | n, .str b, p, v, h, rd => by cases n <;> (unfold pyd at h; cases h; cases rd.str_; exact .str b)
  | 0, .tup l, p, v, h, rd => by unfold pyd at h; cases h
  | 0, .fro l, p, v, h, rd => by unfold pyd at h; cases h
  | 0, .ref i, p, v, h, rd => by unfold pyd at h; cases h
  | n + 1, .tup l, p, v, h, rd => by
    unfold pyd at h
    cases hm : l.mapM (pyd st n) with
    | none => rw [hm] at h; cases h
    | some ps =>
      rw [hm] at h
      cases h
      obtain ⟨a, vs, rfl, h1, h2⟩ := rd.tup_
      exact .tup h1 (dps_of r n l ps vs hm h2)
  | n + 1, .fro l, p, v, h, rd => by
    unfold pyd at h
    cases hm : l.mapM (pyd st n) with
    | none => rw [hm] at h; cases h
    | some ps =>
      rw [hm] at h
      cases h
      obtain ⟨a, vs, rfl, h1, h2⟩ := rd.fro_
      exact .lst h1.sq (dps_of r n l ps vs hm h2)
  | n + 1, .ref i, p, v, h, rd => by
    unfold pyd at h
    split at h
    · rename_i l hl
      cases hm : l.mapM (pyd st n) with
      | none => rw [hm] at h; cases h
      | some ps =>
        rw [hm] at h
        cases h
        obtain ⟨a, vs, rfl, _, h1, h2⟩ := lst_at r rd (lstAt_some hl)
        exact .lst (.of h1) (dps_of r n l ps vs hm h2)
    · cases h
theorem dps_of {ρ : List Addr} {st : Sto} {H : Hp} (r : RelS X.prog X.w X.K T ρ st H) : ∀ (n : Nat) (l : List D) (ps : List PyData) (vs : List V), l.mapM (pyd st n) = some ps → RelDs X.K ρ H l vs → DpAll X.K H vs ps
  | n, [], ps, vs, h, rd => by
    rw [List.mapM_nil] at h
    cases h
    unfold RelDs at rd
    subst rd
    exact .nil
  | n, d :: l, ps, vs, h, rd => by
    unfold RelDs at rd
    obtain ⟨v, us, rfl, h1, h2⟩ := rd
    rw [List.mapM_cons] at h
    cases e1 : pyd st n d with
    | none => rw [e1] at h; cases h
    | some p =>
      rw [e1] at h
      cases e2 : l.mapM (pyd st n) with
      | none => rw [e2] at h; cases h
      | some qs =>
        rw [e2] at h
        cases h
        exact .cons (dp_of r n d p v e1 h1) (dps_of r n l qs us e2 h2)
end
theorem eqD_some {st : Sto} {a b : D} {k : Bool} (h : eqD st a b = some k) : ∃ p q, pyd st 12 a = some p ∧ pyd st 12 b = some q ∧ SeqAt.shaped p = true ∧ SeqAt.shaped q = true ∧ k = PyData.eqv p q := by
  unfold eqD at h
  split at h
  · rename_i p q hp hq
    split at h
    · rename_i hs
      cases h
      exact ⟨p, q, hp, hq, hs.1, hs.2, rfl⟩
    · cases h
  · cases h
theorem z_eq (hu : X.A.units + 64 < cLine) : OpR X (compareOp .Eq) (rX2 X T .eq) := by
  refine OpR.imp (op_eqD hu) fun x y H Q p => ?_
  obtain ⟨ρ, st, ds, r, rd, p⟩ := p
  obtain ⟨d, st', hp, p⟩ := prim_some p
  unfold primF pEq at hp
  simp only at hp
  split at hp
  · rename_i a b
    cases he : eqD st a b with
    | none => rw [he] at hp; cases hp
    | some k =>
      rw [he] at hp
      cases hp
      obtain ⟨d, e, h1, h2, h3, h4, rfl⟩ := eqD_some he
      obtain ⟨v, u, e', r1, r2⟩ := rd.two
      cases e'
      exact ⟨d, e, dp_of r _ _ _ _ h1 r1, dp_of r _ _ _ _ h2 r2, h3, h4, p.now r (.bl _)⟩
  · cases hp
theorem z_ne (hu : X.A.units + 64 < cLine) : OpR X (compareOp .NotEq) (rX2 X T .ne) := by
  refine OpR.imp (op_neD hu) fun x y H Q p => ?_
  obtain ⟨ρ, st, ds, r, rd, p⟩ := p
  obtain ⟨d, st', hp, p⟩ := prim_some p
  unfold primF pNe at hp
  simp only at hp
  split at hp
  · rename_i a b
    cases he : eqD st a b with
    | none => rw [he] at hp; cases hp
    | some k =>
      rw [he] at hp
      cases hp
      obtain ⟨d, e, h1, h2, h3, h4, rfl⟩ := eqD_some he
      obtain ⟨v, u, e', r1, r2⟩ := rd.two
      cases e'
      exact ⟨d, e, dp_of r _ _ _ _ h1 r1, dp_of r _ _ _ _ h2 r2, h3, h4, p.now r (.bl _)⟩
  · cases hp
theorem z_lt : OpR X (compareOp .Lt) (rX2 X T .lt) := by
  refine OpR.two op_lt op_lt_str fun x y H Q p => ?_
  obtain ⟨ρ, st, ds, r, rd, p⟩ := p
  obtain ⟨d, st', hp, p⟩ := prim_some p
  unfold primF pLt at hp
  simp only at hp
  split at hp
  · cases hp
    obtain ⟨rfl, rfl⟩ := two_int rd
    exact .inl ⟨_, _, rfl, rfl, p.now r (.bl _)⟩
  · cases hp
    obtain ⟨rfl, rfl⟩ := two_str rd
    exact .inr ⟨_, _, rfl, rfl, p.now r (.bl _)⟩
  · cases hp
theorem z_gt : OpR X (compareOp .Gt) (rX2 X T .gt) := by
  refine OpR.imp op_gt fun x y H Q p => ?_
  obtain ⟨ρ, st, ds, r, rd, p⟩ := p
  obtain ⟨d, st', hp, p⟩ := prim_some p
  unfold primF pGt at hp
  simp only at hp
  split at hp
  · cases hp
    obtain ⟨rfl, rfl⟩ := two_int rd
    exact ⟨_, _, rfl, rfl, p.now r (.bl _)⟩
  · cases hp
theorem z_ge : OpR X (compareOp .GtE) (rX2 X T .ge) := by
  refine OpR.imp op_ge fun x y H Q p => ?_
  obtain ⟨ρ, st, ds, r, rd, p⟩ := p
  obtain ⟨d, st', hp, p⟩ := prim_some p
  unfold primF pGe at hp
  simp only at hp
  split at hp
  · cases hp
    obtain ⟨rfl, rfl⟩ := two_int rd
    exact ⟨_, _, rfl, rfl, p.now r (.bl _)⟩
  · cases hp
end
end Z
end
section
set_option linter.all false
set_option maxRecDepth 100000
set_option maxHeartbeats 4000000
namespace Z
open PySem PySem.Spec PyProof.Rows L2
section
variable {X : Cx} {T : Names}
theorem z_le : OpR X (compareOp .LtE) (rX2 X T .le) := by
  refine OpR.two op_le op_le_str fun x y H Q p => ?_
  obtain ⟨ρ, st, ds, r, rd, p⟩ := p
  obtain ⟨d, st', hp, p⟩ := prim_some p
  unfold primF pLe at hp
  simp only at hp
  split at hp
  · cases hp
    obtain ⟨rfl, rfl⟩ := two_int rd
    exact .inl ⟨_, _, rfl, rfl, p.now r (.bl _)⟩
  · cases hp
    obtain ⟨rfl, rfl⟩ := two_str rd
    exact .inr ⟨_, _, rfl, rfl, p.now r (.bl _)⟩
  · cases hp
theorem isN_iff {ρ : List Addr} {H : Hp} {d : D} {v : V} (r : RelD X.K ρ H d v) : decide (v = .non) = decide (d = .non) := by
  cases d with
  | non => cases r.non_; rfl
  | bl b => cases r.bl_; rw [decide_eq_false (by simp), decide_eq_false (by simp)]
  | int b => cases r.int_; rw [decide_eq_false (by simp), decide_eq_false (by simp)]
  | str b => cases r.str_; rw [decide_eq_false (by simp), decide_eq_false (by simp)]
  | tup l => obtain ⟨a, vs, rfl, _, _⟩ := r.tup_; rw [decide_eq_false (by simp), decide_eq_false (by simp)]
  | fro l => obtain ⟨a, vs, rfl, _, _⟩ := r.fro_; rw [decide_eq_false (by simp), decide_eq_false (by simp)]
  | ref i => obtain ⟨a, _, rfl⟩ := r.ref_; rw [decide_eq_false (by simp), decide_eq_false (by simp)]
theorem z_isN : OpR X (compareOp .Is) (rX2 X T .isN) := by
  refine OpR.imp op_isN fun x y H Q p => ?_
  obtain ⟨ρ, st, ds, r, rd, p⟩ := p
  obtain ⟨d, st', hp, p⟩ := prim_some p
  unfold primF pIsN at hp
  simp only at hp
  split at hp
  · cases hp
    obtain ⟨v, u, e, r1, r2⟩ := rd.two
    cases e
    refine ⟨r2.non_, ?_⟩
    rw [isN_iff r1]
    exact p.now r (.bl _)
  · cases hp
theorem z_notN : OpR X (compareOp .IsNot) (rX2 X T .notN) := by
  refine OpR.imp op_notN fun x y H Q p => ?_
  obtain ⟨ρ, st, ds, r, rd, p⟩ := p
  obtain ⟨d, st', hp, p⟩ := prim_some p
  unfold primF pNotN at hp
  simp only at hp
  split at hp
  · cases hp
    obtain ⟨v, u, e, r1, r2⟩ := rd.two
    cases e
    refine ⟨r2.non_, ?_⟩
    rw [isN_iff r1]
    exact p.now r (.bl _)
  · cases hp

/-! ### in -/
theorem op_inTD (hu : X.A.units + 65 < cLine) : OpR X (compareOp .In) (fun x y H Q => ∃ d ds, Dp X.K H x d ∧ Dp X.K H y (.tuple ds) ∧ SeqAt.shaped d = true ∧ SeqAt.shaped (.list ds) = true ∧ Q (.bl (ds.any fun z => PyData.eqv z d)) H) := by
  intro pins s σ H x y v u Q I rx ry h
  obtain ⟨d, ds, hd, he, sd, se, q⟩ := h
  obtain ⟨as, r1⟩ := Dp.reads I d x v hd rx
  obtain ⟨bs, r2⟩ := Dp.reads I (.tuple ds) y u he ry
  exact SeqAt.in_tuple_reads r2 r1 (SeqAt.canLay_of_shaped se) (SeqAt.canLay_of_shaped sd) (room_in_shaped sd hu) ⟨.bl _, H, I, rfl, q⟩
theorem op_notInTD (hu : X.A.units + 65 < cLine) : OpR X (compareOp .NotIn) (fun x y H Q => ∃ d ds, Dp X.K H x d ∧ Dp X.K H y (.tuple ds) ∧ SeqAt.shaped d = true ∧ SeqAt.shaped (.list ds) = true ∧ Q (.bl (!ds.any fun z => PyData.eqv z d)) H) := by
  intro pins s σ H x y v u Q I rx ry h
  obtain ⟨d, ds, hd, he, sd, se, q⟩ := h
  obtain ⟨as, r1⟩ := Dp.reads I d x v hd rx
  obtain ⟨bs, r2⟩ := Dp.reads I (.tuple ds) y u he ry
  exact SeqAt.notIn_tuple_reads r2 r1 (SeqAt.canLay_of_shaped se) (SeqAt.canLay_of_shaped sd) (room_in_shaped sd hu) ⟨.bl _, H, I, rfl, q⟩
/-- in, not in, of a dict: what stands at a key -/
def dictKey (st : Sto) (i : Nat) (k : D) : Option (Option D) := match st[i]? with
  | some (.dic l) => if keyFits l k = true then some (dget l k) else none
  | _ => none
theorem kv_of {ρ : List Addr} {H : Hp} {d : D} {v : V} {k : Key} (r : RelD X.K ρ H d v) (h : keyOf d = some k) : v = kV k := by
  unfold keyOf at h
  split at h
  · cases h; exact r.int_
  · cases h; exact r.str_
  · cases h
theorem sameKey_flat {a b : D} {k j : Key} (ha : keyOf a = some k) (hb : keyOf b = some j) : sameKey a b = decide (k = j) := by
  unfold sameKey
  rw [ha, hb]
theorem get_flat {ρ : List Addr} {H : Hp} : ∀ {l : List (D × D)} {kvs : List (Key × V)} {k : D} {j : Key}, RelK X.K ρ H l kvs → keyOf k = some j → match dget l k with
    | some d => ∃ v, valV kvs j = some v ∧ RelD X.K ρ H d v
    | none => valV kvs j = none
  | _, _, _, _, .nil, _ => rfl
  | p :: l, q :: kvs, k, j, .cons h t, hk => by
    unfold dget
    rw [sameKey_flat h.1 hk]
    by_cases e : q.1 = j
    · rw [decide_eq_true e, if_pos rfl]
      exact ⟨q.2, valV_pos e, h.2⟩
    · rw [decide_eq_false e, if_neg Bool.false_ne_true, valV_neg e]
      exact get_flat t hk
theorem keyFits_flat {l : List (D × D)} {k : D} (h : keyFits l k = true) (hk : flat k = true) : l.all (fun p => flat p.1) = true := by
  unfold keyFits at h
  rw [Bool.or_eq_true] at h
  rcases h with h | h
  · exact (Bool.and_eq_true_iff.mp h).2
  · rw [Bool.and_eq_true, Bool.and_eq_true] at h
    cases k <;> simp_all [flat, isTup, keyOf]
theorem keyFits_tup {l : List (D × D)} {k : D} (h : keyFits l k = true) (hk : flat k = false) : isTup k = true ∧ (∃ n, nkey k = some n ∧ n.depth ≤ 8) ∧ l.all (fun p => isTup p.1) = true := by
  unfold keyFits at h
  rw [hk, Bool.false_and, Bool.false_or, Bool.and_eq_true, Bool.and_eq_true] at h
  refine ⟨h.1.1, ?_, h.2⟩
  have h2 := h.1.2
  split at h2
  · rename_i n hn
    exact ⟨n, hn, of_decide_eq_true h2⟩
  · cases h2
/-- a dict of flat keys, as it stands -/
theorem dic_flat {P : Program} {w : World} {K : PySem.W.Frag} {ρ : List Addr} {H : Hp} {a : Addr} {l : List (D × D)} (h : RelO P w K T ρ H a (.dic l)) (hf : l.all (fun p => flat p.1) = true) : ∃ kvs, H a = some (.dK kvs) ∧ RelK K ρ H l kvs := by
  rcases h with h | ⟨hn, xs, h1, h2, h3⟩
  · exact h
  · cases h3 with
    | nil => exact absurd rfl hn
    | cons hd tl =>
      obtain ⟨⟨ds, e⟩, _⟩ := hd
      rw [List.all_cons, Bool.and_eq_true] at hf
      rw [e] at hf
      exact absurd hf.1 (by simp [flat, keyOf])
theorem flat_some {k : D} (h : flat k = true) : ∃ j, keyOf k = some j := Option.isSome_iff_exists.mp h

/-! ### dicts with tuple keys -/
mutual
theorem nis_of {pins : List (Addr × Obj)} {σ : L2.St} {H : Hp} {s : Shared} {ρ : List Addr} (I : Inv X pins σ H s) : ∀ (d : D) (n : NestedKey) (v : V) (u : Value), nkey d = some n → RelD X.K ρ H d v → RelV v u → NestedIs s.heap n u
  | .non, n, v, u, h, rd, rv => by cases h; cases rd.non_; cases rv; exact .none
  | .bl b, n, v, u, h, rd, rv => by cases h; cases rd.bl_; cases rv; exact .bool rfl
  | .int b, n, v, u, h, rd, rv => by cases h; cases rd.int_; obtain ⟨t, rfl⟩ := rv; exact .int _ t
  | .str b, n, v, u, h, rd, rv => by cases h; cases rd.str_; obtain ⟨t, rfl⟩ := rv; exact .text _ t
  | .fro l, n, v, u, h, rd, rv => by cases h
  | .ref l, n, v, u, h, rd, rv => by cases h
  | .tup ds, n, v, u, h, rd, rv => by
    unfold nkey at h
    cases e : nkeys ds with
    | none => rw [e] at h; cases h
    | some ks =>
      rw [e] at h
      cases h
      obtain ⟨a, vs, rfl, h1, h2⟩ := rd.tup_
      cases rv
      obtain ⟨its, rv', ⟨o, ho, hc, m, hd⟩, _⟩ := I.tuple h1
      exact .tup ho hc hd (by simpa using niss_of I ds ks vs its e h2 rv')
theorem niss_of {pins : List (Addr × Obj)} {σ : L2.St} {H : Hp} {s : Shared} {ρ : List Addr} (I : Inv X pins σ H s) : ∀ (ds : List D) (ks : List NestedKey) (vs : List V) (us : List Value), nkeys ds = some ks → RelDs X.K ρ H ds vs → Vals vs us → NestedAll s.heap ks us
  | [], ks, vs, us, h, rd, rv => by
    cases h
    unfold RelDs at rd
    subst rd
    cases rv
    exact .nil
  | d :: ds, ks, vs, us, h, rd, rv => by
    unfold RelDs at rd
    obtain ⟨v, ws, rfl, h1, h2⟩ := rd
    unfold nkeys at h
    split at h
    · rename_i k ks' e1 e2
      cases h
      cases rv with
      | cons r1 r2 => exact .cons (nis_of I d k v _ e1 h1 r1) (niss_of I ds ks' ws _ e2 h2 r2)
    · cases h
end
theorem dictOf_nil {P : Program} {w : World} {h : Heap} {a : Addr} (d : h.DictOf (mixKind P w) a []) : h.DictOfH (nestedKind P w) a [] := by
  obtain ⟨o, es, ep, h1, h2, h3, _, h4, _⟩ := d
  have e : es.toList = [] := by
    cases hz : es.toList with
    | nil => rfl
    | cons x xs => rw [hz] at h4; cases h4
  exact ⟨o, es, ep, h1, h2, h3, by rw [e]; rfl, (fun x hx => by cases hx), .nil⟩
/-- a dict with tuple keys (or none yet), in the heap -/
theorem dictT_of {pins : List (Addr × Obj)} {σ : L2.St} {H : Hp} {s : Shared} {ρ : List Addr} {a : Addr} {l : List (D × D)} (I : Inv X pins σ H s) (h : RelO X.prog X.w X.K T ρ H a (.dic l)) (hf : l.all (fun p => isTup p.1) = true) :
    ∃ xs, s.heap.DictOfH (nestedKind X.prog X.w) a xs ∧ RelT X.K ρ H l xs ∧ (a == sysModules) = false ∧ xs.length ≤ sizeLine ∧ Mut (H a) := by
  rcases h with ⟨kvs, h1, h2⟩ | ⟨hn, xs, h1, h2, h3⟩
  · cases h2 with
    | nil =>
      obtain ⟨_, hd, vs, rel, dd⟩ := dk_of I.hok h1
      cases rel
      exact ⟨[], dictOf_nil dd, .nil, hd, Nat.zero_le _, by rw [h1]; trivial⟩
    | cons hd tl =>
      rw [List.all_cons, Bool.and_eq_true] at hf
      have z := hd.1
      rename_i p q l' kvs'
      cases hp : p.1 with
      | tup ds => rw [hp] at z; cases z
      | _ => rw [hp] at hf; exact absurd hf.1 (by simp [isTup])
  · obtain ⟨⟨o, es, ep, g1, g2, g3, g4, g5, g6⟩, _, _⟩ := I.hok a _ h1
    refine ⟨xs, ⟨o, es, ep, g1, g2, g3, g4, fun x hx => ?_, g5⟩, h3, h2, g6, by rw [h1]; trivial⟩
    have key : ∀ {l : List (D × D)} {xs : List (NestedKey × Addr × Value)}, RelT X.K ρ H l xs → ∀ x ∈ xs, (nestedKind X.prog X.w).is s.heap x.1 x.2.1 := by
      intro l xs h
      induction h with
      | nil => intro x hx; cases hx
      | cons hd tl ih =>
        intro x hx
        rcases List.mem_cons.mp hx with rfl | hx
        · exact ⟨nis_of I _ _ _ _ hd.2.1 hd.2.2.2.1 rfl, hd.2.2.1⟩
        · exact ih x hx
    exact key h3 x hx
theorem keyOf_tup {k : D} (h : isTup k = true) : keyOf k = none := by cases k <;> simp_all [isTup, keyOf]
theorem sameKey_tup {a b : D} {k j : NestedKey} (h : isTup a = true) (ha : nkey a = some k) (hb : nkey b = some j) : sameKey a b = decide (k = j) := by
  unfold sameKey
  rw [keyOf_tup h, ha, hb]
theorem get_tup {ρ : List Addr} {H : Hp} : ∀ {l : List (D × D)} {xs : List (NestedKey × Addr × Value)} {k : D} {j : NestedKey}, RelT X.K ρ H l xs → nkey k = some j → match dget l k with
    | some d => ∃ p v, atKey xs j = some p ∧ RelV v p.2 ∧ RelD X.K ρ H d v
    | none => atKey xs j = none
  | _, _, _, _, .nil, _ => rfl
  | p :: l, q :: xs, k, j, .cons h t, hk => by
    obtain ⟨⟨ds, e⟩, h2, h3, h4, v, h5, h6⟩ := h
    unfold dget
    rw [sameKey_tup (by rw [e]; rfl) h2 hk]
    by_cases e : q.1 = j
    · rw [decide_eq_true e, if_pos rfl]
      refine ⟨q.2, v, ?_, h5, h6⟩
      unfold atKey
      rw [List.find?_cons, decide_eq_true e]
      rfl
    · rw [decide_eq_false e, if_neg Bool.false_ne_true]
      have z := get_tup t hk
      have e2 : atKey (q :: xs) j = atKey xs j := by
        unfold atKey
        rw [List.find?_cons, decide_eq_false e]
      rw [e2]
      exact z
theorem put_none {ρ : List Addr} {H : Hp} {k : D} {j : NestedKey} {d : D} {b : Addr} {u : Value} (hk : nkey k = some j) (ht : isTup k = true) (h8 : j.depth ≤ 8) (rk : RelD X.K ρ H k (.ref b)) (rv : ∃ v, RelV v u ∧ RelD X.K ρ H d v) :
    ∀ {l : List (D × D)} {xs : List (NestedKey × Addr × Value)}, RelT X.K ρ H l xs → atKey xs j = none → RelT X.K ρ H (dset l k d) (xs ++ [(j, b, u)])
  | _, _, .nil, _ => by
    refine .cons ⟨?_, hk, h8, rk, rv⟩ .nil
    cases k with
    | tup ds => exact ⟨ds, rfl⟩
    | _ => cases ht
  | p :: l, q :: xs, .cons h t, hn => by
    obtain ⟨⟨ds, e⟩, h2, _⟩ := id h
    unfold dset
    rw [sameKey_tup (by rw [e]; rfl) h2 hk]
    have e1 : ¬ q.1 = j := fun e1 => by
      unfold atKey at hn
      rw [List.find?_cons, decide_eq_true e1] at hn
      cases hn
    rw [decide_eq_false e1, if_neg Bool.false_ne_true]
    refine .cons h (put_none hk ht h8 rk rv t ?_)
    unfold atKey at hn ⊢
    rw [List.find?_cons, decide_eq_false e1] at hn
    exact hn
theorem put_some {ρ : List Addr} {H : Hp} {k : D} {j : NestedKey} {d : D} {u : Value} (hk : nkey k = some j) (rv : ∃ v, RelV v u ∧ RelD X.K ρ H d v) :
    ∀ {l : List (D × D)} {xs : List (NestedKey × Addr × Value)}, RelT X.K ρ H l xs → (xs.map (·.1)).Nodup → (atKey xs j).isSome = true → RelT X.K ρ H (dset l k d) (xs.map (putAt j u))
  | _, _, .nil, _, h => by cases h
  | p :: l, q :: xs, .cons h t, nd, hs => by
    obtain ⟨⟨ds, e⟩, h2, h3, h4, h5⟩ := id h
    rw [List.map_cons, List.nodup_cons] at nd
    unfold dset
    rw [sameKey_tup (by rw [e]; rfl) h2 hk, List.map_cons]
    by_cases e1 : q.1 = j
    · rw [decide_eq_true e1, if_pos rfl]
      have e2 : putAt j u q = (q.1, q.2.1, u) := by unfold putAt; rw [if_pos e1]
      rw [e2]
      refine .cons ⟨⟨ds, e⟩, h2, h3, h4, rv⟩ ?_
      have e3 : xs.map (putAt j u) = xs := by
        rw [List.map_congr_left (g := id)]
        · exact List.map_id _
        · intro x hx
          have hne : ¬ x.1 = j := fun e4 => nd.1 (by rw [e1, ← e4]; exact List.mem_map_of_mem hx)
          unfold putAt
          rw [if_neg hne]
          rfl
      rw [e3]
      exact t
    · rw [decide_eq_false e1, if_neg Bool.false_ne_true]
      have e2 : putAt j u q = q := by unfold putAt; rw [if_neg e1]
      rw [e2]
      refine .cons h (put_some hk rv t nd.2 ?_)
      unfold atKey at hs ⊢
      rw [List.find?_cons, decide_eq_false e1] at hs
      exact hs
theorem dset_ne (l : List (D × D)) (k v : D) : dset l k v ≠ [] := by
  cases l with
  | nil => intro h; cases h
  | cons p l =>
    unfold dset
    split <;> (intro h; cases h)
theorem put_flat {ρ : List Addr} {H : Hp} {k : D} {j : Key} {d : D} {v : V} (hk : keyOf k = some j) (rv : RelD X.K ρ H d v) : ∀ {l : List (D × D)} {kvs : List (Key × V)}, RelK X.K ρ H l kvs → (kvs.map (·.1)).Nodup → RelK X.K ρ H (dset l k d) (putK kvs j v)
  | _, _, .nil, _ => .cons ⟨hk, rv⟩ .nil
  | p :: l, q :: kvs, .cons h t, nd => by
    rw [List.map_cons, List.nodup_cons] at nd
    unfold dset
    rw [sameKey_flat h.1 hk]
    by_cases e1 : q.1 = j
    · rw [decide_eq_true e1, if_pos rfl]
      unfold putK
      rw [List.any_cons, decide_eq_true e1, Bool.true_or, if_pos rfl, List.map_cons, if_pos e1]
      have e3 : kvs.map (fun kv => if kv.1 = j then (kv.1, v) else kv) = kvs := by
        rw [List.map_congr_left (g := id)]
        · exact List.map_id _
        · intro x hx
          have hne : ¬ x.1 = j := fun e4 => nd.1 (by rw [e1, ← e4]; exact List.mem_map_of_mem hx)
          rw [if_neg hne]
          rfl
      rw [e3]
      exact .cons ⟨h.1, rv⟩ t
    · rw [decide_eq_false e1, if_neg Bool.false_ne_true]
      have ih := put_flat hk rv t nd.2
      have e2 : putK (q :: kvs) j v = q :: putK kvs j v := by
        unfold putK
        rw [List.any_cons, decide_eq_false e1, Bool.false_or]
        split
        · rw [List.map_cons, if_neg e1]
        · rfl
      rw [e2]
      exact .cons h ih
end
end Z
end
section
set_option linter.all false
set_option maxRecDepth 100000
set_option maxHeartbeats 4000000
namespace Z
open PySem PySem.Spec PyProof.Rows L2
section
variable {X : Cx} {T : Names}
theorem inD_some {st : Sto} {a : D} {l : List D} {k : Bool} (h : inD st a l = some k) : ∃ p qs, pyd st 12 a = some p ∧ l.mapM (pyd st 12) = some qs ∧ SeqAt.shaped p = true ∧ SeqAt.shaped (.list qs) = true ∧ k = qs.any fun z => PyData.eqv z p := by
  unfold inD at h
  split at h
  · rename_i p qs hp hq
    split at h
    · rename_i hs
      cases h
      exact ⟨p, qs, hp, hq, hs.1, hs.2, rfl⟩
    · cases h
  · cases h
theorem nest_room {A : Around} (hu : A.units + 65 < cLine) {P : Program} {w : World} : (nestedKind P w).room A.in1 := by
  show A.units + 1 + 8 < cLine
  omega
/-- what a dict of the store holds at a key, in the heap -/
theorem dic_in {A : Around} {E : Value → Shared → Prop} {Q' : Value → Shared → Prop} {pins : List (Addr × Obj)} {σ : L2.St} {H : Hp} {s : Shared} {ρ : List Addr} {st : Sto} {i : Nat} {l : List (D × D)} {k : D} {x : V} {v u : Value} {y : V} (hu : A.units + 65 < cLine) (I : Inv X pins σ H s)
    (r : RelS X.prog X.w X.K T ρ st H) (hi : st[i]? = some (.dic l)) (hk : keyFits l k = true) (rk : RelD X.K ρ H k x) (rd : RelD X.K ρ H (.ref i) y) (rx : RelV x v) (ry : RelV y u) (h : ∀ s', Inv X pins σ H s' → Q' (.bool (dget l k).isSome) s') :
    wpAny (model X.prog X.w) A (compareOp .In v u) Q' E s := by
  obtain ⟨a, ha, rfl⟩ := rd.ref_
  cases ry
  have ro := r.obj i _ a hi ha
  cases hf : flat k with
  | true =>
    obtain ⟨kvs, h1, h2⟩ := dic_flat ro (keyFits_flat hk hf)
    obtain ⟨j, hj⟩ := flat_some hf
    cases kv_of rk hj
    refine d_in (o := valV kvs j) (by omega) I (.k h1) rx fun s' I' => ?_
    have z := get_flat h2 hj
    cases hd : dget l k with
    | none => rw [hd] at z h; rw [z]; exact h s' I'
    | some d => rw [hd] at z h; obtain ⟨v, e, _⟩ := z; rw [e]; exact h s' I'
  | false =>
    obtain ⟨h1, ⟨n, h2, h3⟩, h4⟩ := keyFits_tup hk hf
    obtain ⟨xs, dd, rt, hd, _⟩ := dictT_of I ro h4
    cases k with
    | tup ds =>
      obtain ⟨b, vs, rfl, h5, h6⟩ := rk.tup_
      cases rx
      refine wpAny_in_heap (nest_room hu) (k := n) ⟨nis_of I _ _ _ _ h2 rk rfl, h3⟩ hd dd ?_
      have z := get_tup rt h2
      cases hd : dget l (.tup ds) with
      | none => rw [hd] at z h; rw [z]; exact h _ (I.tok _)
      | some d => rw [hd] at z h; obtain ⟨p, v, e, _⟩ := z; rw [e]; exact h _ (I.tok _)
    | _ => cases h1
theorem dic_notIn {A : Around} {E : Value → Shared → Prop} {Q' : Value → Shared → Prop} {pins : List (Addr × Obj)} {σ : L2.St} {H : Hp} {s : Shared} {ρ : List Addr} {st : Sto} {i : Nat} {l : List (D × D)} {k : D} {x : V} {v u : Value} {y : V} (hu : A.units + 65 < cLine) (I : Inv X pins σ H s)
    (r : RelS X.prog X.w X.K T ρ st H) (hi : st[i]? = some (.dic l)) (hk : keyFits l k = true) (rk : RelD X.K ρ H k x) (rd : RelD X.K ρ H (.ref i) y) (rx : RelV x v) (ry : RelV y u) (h : ∀ s', Inv X pins σ H s' → Q' (.bool (!(dget l k).isSome)) s') :
    wpAny (model X.prog X.w) A (compareOp .NotIn v u) Q' E s := by
  obtain ⟨a, ha, rfl⟩ := rd.ref_
  cases ry
  have ro := r.obj i _ a hi ha
  cases hf : flat k with
  | true =>
    obtain ⟨kvs, h1, h2⟩ := dic_flat ro (keyFits_flat hk hf)
    obtain ⟨j, hj⟩ := flat_some hf
    cases kv_of rk hj
    refine d_notIn (o := valV kvs j) (by omega) I (.k h1) rx fun s' I' => ?_
    have z := get_flat h2 hj
    cases hd : dget l k with
    | none => rw [hd] at z h; rw [z]; exact h s' I'
    | some d => rw [hd] at z h; obtain ⟨v, e, _⟩ := z; rw [e]; exact h s' I'
  | false =>
    obtain ⟨h1, ⟨n, h2, h3⟩, h4⟩ := keyFits_tup hk hf
    obtain ⟨xs, dd, rt, hd, _⟩ := dictT_of I ro h4
    cases k with
    | tup ds =>
      obtain ⟨b, vs, rfl, h5, h6⟩ := rk.tup_
      cases rx
      refine wpAny_notIn_heap (nest_room hu) (k := n) ⟨nis_of I _ _ _ _ h2 rk rfl, h3⟩ hd dd ?_
      have z := get_tup rt h2
      cases hd : dget l (.tup ds) with
      | none => rw [hd] at z h; rw [z]; exact h _ (I.tok _)
      | some d => rw [hd] at z h; obtain ⟨p, v, e, _⟩ := z; rw [e]; exact h _ (I.tok _)
    | _ => cases h1
/-- d[k] -/
theorem dic_get {A : Around} {E : Value → Shared → Prop} {Q' : Value → Shared → Prop} {pins : List (Addr × Obj)} {σ : L2.St} {H : Hp} {s : Shared} {ρ : List Addr} {st : Sto} {i : Nat} {l : List (D × D)} {k d : D} {x : V} {v u : Value} {y : V} (hu : A.units + 65 < cLine) (I : Inv X pins σ H s)
    (r : RelS X.prog X.w X.K T ρ st H) (hi : st[i]? = some (.dic l)) (hk : keyFits l k = true) (hd : dget l k = some d) (rk : RelD X.K ρ H k x) (rd : RelD X.K ρ H (.ref i) y) (rx : RelV x v) (ry : RelV y u)
    (h : ∀ s' z z', Inv X pins σ H s' → RelD X.K ρ H d z → RelV z z' → Q' z' s') :
    wpAny (model X.prog X.w) A (getItem u v) Q' E s := by
  obtain ⟨a, ha, rfl⟩ := rd.ref_
  cases ry
  have ro := r.obj i _ a hi ha
  cases hf : flat k with
  | true =>
    obtain ⟨kvs, h1, h2⟩ := dic_flat ro (keyFits_flat hk hf)
    obtain ⟨j, hj⟩ := flat_some hf
    cases kv_of rk hj
    have z := get_flat h2 hj
    rw [hd] at z
    obtain ⟨v', e, rv⟩ := z
    refine d_getItem (v := v') (by omega) I (by rw [← e]; exact .k h1) rx fun w' s' I' rw' => h s' v' w' I' rv rw'
  | false =>
    obtain ⟨h1, ⟨n, h2, h3⟩, h4⟩ := keyFits_tup hk hf
    obtain ⟨xs, dd, rt, hd', _⟩ := dictT_of I ro h4
    cases k with
    | tup ds =>
      obtain ⟨b, vs, rfl, h5, h6⟩ := rk.tup_
      cases rx
      have z := get_tup rt h2
      rw [hd] at z
      obtain ⟨p, v', e, rv, rd'⟩ := z
      exact wpAny_getItem_heap (nest_room hu) (k := n) ⟨nis_of I _ _ _ _ h2 rk rfl, h3⟩ dd e (h _ v' _ (I.tok _) rd' rv)
    | _ => cases h1
/-- d[k] = v -/
theorem dic_put {A : Around} {E : Value → Shared → Prop} {Q' : Unit → Shared → Prop} {pins : List (Addr × Obj)} {σ : L2.St} {H : Hp} {s : Shared} {ρ : List Addr} {st : Sto} {i : Nat} {l : List (D × D)} {k d : D} {x z : V} {v u t : Value} {y : V} (hu : A.units + 65 < cLine) (I : Inv X pins σ H s)
    (r : RelS X.prog X.w X.K T ρ st H) (hi : st[i]? = some (.dic l)) (hk : keyFits l k = true) (hl : l.length < sizeLine) (rk : RelD X.K ρ H k x) (rd : RelD X.K ρ H (.ref i) y) (re : RelD X.K ρ H d z) (rx : RelV x v) (ry : RelV y u) (rz : RelV z t)
    (h : ∀ s' H', Inv X pins σ H' s' → RelS X.prog X.w X.K T ρ (st.set i (.dic (dset l k d))) H' → Ext ρ ρ H H' → Q' () s') :
    wpAny (model X.prog X.w) A (setItem u v t) Q' E s := by
  obtain ⟨a, ha, rfl⟩ := rd.ref_
  cases ry
  have ro := r.obj i _ a hi ha
  cases hf : flat k with
  | true =>
    obtain ⟨kvs, h1, h2⟩ := dic_flat ro (keyFits_flat hk hf)
    obtain ⟨j, hj⟩ := flat_some hf
    cases kv_of rk hj
    have hlen : l.length = kvs.length := Paired.length h2
    obtain ⟨_, _, vs, rel, dd⟩ := dk_of I.hok h1
    have nd : (kvs.map (·.1)).Nodup := by rw [rel.keys]; obtain ⟨_, _, _, _, _, _, _, _, nd⟩ := dd; exact nd
    refine d_setItem (by omega) I (.k h1 (by omega)) rx rz fun s' I' => ?_
    obtain ⟨r', e⟩ := r.set (o' := .dic (dset l k d)) (u := .dK (putK kvs j z)) hi ha fun e => .inl ⟨_, upd_same, (put_flat hj re h2 nd).ext e⟩
    exact h s' _ I' r' e
  | false =>
    obtain ⟨h1, ⟨n, h2, h3⟩, h4⟩ := keyFits_tup hk hf
    obtain ⟨xs, dd, rt, hsm, hz, mu⟩ := dictT_of I ro h4
    have hlen : l.length = xs.length := Paired.length rt
    cases k with
    | tup ds =>
      obtain ⟨b, vs, rfl, h5, h6⟩ := rk.tup_
      cases rx
      have nd : (xs.map (·.1)).Nodup := by obtain ⟨_, _, _, _, _, _, _, _, nd⟩ := dd; exact nd
      refine wpAny_setItem_heap (hsz := hz) (nest_room hu) (k := n) ⟨nis_of I _ _ _ _ h2 rk rfl, h3⟩ dd fun h' dd' hs => ?_
      obtain ⟨q, es, ep, g1, g2, g3, g4, _, g5⟩ := dd'
      have hz2 : (storedH xs n b t).length ≤ sizeLine := by
        unfold storedH
        split
        · rw [List.length_map]; omega
        · rw [List.length_append, List.length_singleton]; omega
      have dx : DTx X.prog X.w a (storedH xs n b t) h' := ⟨q, es, ep, g1, g2, g3, g4, g5, hz2⟩
      have ok : ObjOk X.prog X.w (upd H a (.ext (DTx X.prog X.w a (storedH xs n b t)))) h' a (.ext (DTx X.prog X.w a (storedH xs n b t))) :=
        ⟨dx, ⟨q, g1⟩, fun h1 h2 ⟨o, es, ep, f1, f2⟩ hk => ⟨o, es, ep, hk _ f1, f2⟩⟩
      have I' := d_write (t' := s.toks + (nestedKind X.prog X.w).draws n) I mu hs ⟨q, g1⟩ ok
      obtain ⟨r', e⟩ := r.set (o' := .dic (dset l (.tup ds) d)) (u := .ext (DTx X.prog X.w a (storedH xs n b t))) hi ha fun e => by
        refine .inr ⟨dset_ne _ _ _, _, upd_same, hsm, RelT.ext e ?_⟩
        unfold storedH
        cases hg : (atKey xs n).isSome with
        | true =>
          rw [if_pos rfl]
          exact put_some h2 ⟨z, rz, re⟩ rt nd hg
        | false =>
          rw [if_neg Bool.false_ne_true]
          exact put_none h2 rfl h3 rk ⟨z, rz, re⟩ rt (by simpa using hg)
      exact h _ _ I' r' e
    | _ => cases h1
theorem z_in (hu : X.A.units + 65 < cLine) : OpR X (compareOp .In) (rX2 X T .isin) := by
  intro pins s σ H x y v u Q I rx ry p
  obtain ⟨ρ, st, ds, r, rd, p⟩ := p
  obtain ⟨d, st', hp, p⟩ := prim_some p
  unfold primF pIsin at hp
  simp only at hp
  split at hp
  · rename_i a l
    obtain ⟨v1, u1, e, r1, r2⟩ := rd.two
    cases e
    cases he : inD st a l with
    | none => rw [he] at hp; cases hp
    | some k =>
      rw [he] at hp
      cases hp
      obtain ⟨d, qs, h1, h2, h3, h4, rfl⟩ := inD_some he
      obtain ⟨b, vs, rfl, h5, h6⟩ := r2.tup_
      exact op_inTD hu pins s σ H x _ v u Q I rx ry ⟨d, qs, dp_of r _ _ _ _ h1 r1, .tup h5 (dps_of r _ _ _ _ h2 h6), h3, h4, p.now r (.bl _)⟩
  · split at hp
    · cases hp
      obtain ⟨rfl, rfl⟩ := two_str rd
      exact op_in_str pins s σ H _ _ v u Q I rx ry ⟨_, _, rfl, rfl, p.now r (.bl _)⟩
    · cases hp
  · obtain ⟨v1, u1, e, r1, r2⟩ := rd.two
    cases e
    split at hp
    · rename_i l hl
      split at hp
      · rename_i hk
        cases hp
        exact dic_in hu I r hl hk r1 r2 rx ry fun s' I' => ⟨.bl _, H, I', rfl, p.now r (.bl _)⟩
      · cases hp
    · split at hp
      · rename_i a i _ _ _ l hl
        cases he : inD st a l with
        | none => rw [he] at hp; cases hp
        | some k =>
          rw [he] at hp
          cases hp
          obtain ⟨d, qs, h1, h2, h3, h4, rfl⟩ := inD_some he
          obtain ⟨b, vs, rfl, _, h5, h6⟩ := lst_at r r2 (lstAt_some hl)
          exact op_inD hu pins s σ H x _ v u Q I rx ry ⟨d, qs, dp_of r _ _ _ _ h1 r1, .lst (.of h5) (dps_of r _ _ _ _ h2 h6), h3, h4, p.now r (.bl _)⟩
      · cases hp
  · cases hp
theorem z_notin (hu : X.A.units + 65 < cLine) : OpR X (compareOp .NotIn) (rX2 X T .notin) := by
  intro pins s σ H x y v u Q I rx ry p
  obtain ⟨ρ, st, ds, r, rd, p⟩ := p
  obtain ⟨d, st', hp, p⟩ := prim_some p
  unfold primF pNotin at hp
  simp only at hp
  split at hp
  · rename_i a l
    obtain ⟨v1, u1, e, r1, r2⟩ := rd.two
    cases e
    cases he : inD st a l with
    | none => rw [he] at hp; cases hp
    | some k =>
      rw [he] at hp
      cases hp
      obtain ⟨d, qs, h1, h2, h3, h4, rfl⟩ := inD_some he
      obtain ⟨b, vs, rfl, h5, h6⟩ := r2.tup_
      exact op_notInTD hu pins s σ H x _ v u Q I rx ry ⟨d, qs, dp_of r _ _ _ _ h1 r1, .tup h5 (dps_of r _ _ _ _ h2 h6), h3, h4, p.now r (.bl _)⟩
  · split at hp
    · cases hp
      obtain ⟨rfl, rfl⟩ := two_str rd
      exact op_notin_str pins s σ H _ _ v u Q I rx ry ⟨_, _, rfl, rfl, by rw [Bool.not_not]; exact p.now r (.bl _)⟩
    · cases hp
  · obtain ⟨v1, u1, e, r1, r2⟩ := rd.two
    cases e
    split at hp
    · rename_i l hl
      split at hp
      · rename_i hk
        cases hp
        exact dic_notIn hu I r hl hk r1 r2 rx ry fun s' I' => ⟨.bl _, H, I', rfl, p.now r (.bl _)⟩
      · cases hp
    · split at hp
      · rename_i a i _ _ _ l hl
        cases he : inD st a l with
        | none => rw [he] at hp; cases hp
        | some k =>
          rw [he] at hp
          cases hp
          obtain ⟨d, qs, h1, h2, h3, h4, rfl⟩ := inD_some he
          obtain ⟨b, vs, rfl, _, h5, h6⟩ := lst_at r r2 (lstAt_some hl)
          exact op_notInD hu pins s σ H x _ v u Q I rx ry ⟨d, qs, dp_of r _ _ _ _ h1 r1, .lst (.of h5) (dps_of r _ _ _ _ h2 h6), h3, h4, p.now r (.bl _)⟩
      · cases hp
  · cases hp
end
end Z
end
section
set_option linter.all false
set_option maxRecDepth 100000
set_option maxHeartbeats 4000000
namespace Z
open PySem PySem.Spec PyProof.Rows L2
section
variable {X : Cx} {T : Names}
theorem dic_type {pins : List (Addr × Obj)} {σ : L2.St} {H : Hp} {s : Shared} {ρ : List Addr} {a : Addr} {l : List (D × D)} (I : Inv X pins σ H s) (h : RelO X.prog X.w X.K T ρ H a (.dic l)) : s.TypeIs (.ref a) "dict" ∧ (∀ b, Value.ref a = .ref b → ∃ ob, s.heap.get? b = some ob ∧ ob.dict = none) ∧ (a == sysModules) = false := by
  rcases h with ⟨kvs, h1, h2⟩ | ⟨hn, xs, h1, h2, h3⟩
  · exact isD_at I (.inl ⟨kvs, .inl h1⟩)
  · obtain ⟨⟨o, es, ep, g1, g2, _⟩, _, _⟩ := I.hok a _ h1
    refine ⟨⟨o, g1, g2.1⟩, fun b q => ?_, h2⟩
    cases q
    exact ⟨o, g1, g2.2.1⟩
theorem atI_map {α β : Type} {f : α → β} {l : List α} {i : Int} : atI (l.map f) i = (atI l i).map f := by
  unfold atI
  rw [List.length_map]
  cases ixN l.length i with
  | none => rfl
  | some j => simp
theorem RelDs.atI {ρ : List Addr} {H : Hp} {l : List D} {vs : List V} {i : Int} {d : D} (h : RelDs X.K ρ H l vs) (e : L2.atI l i = some d) : ∃ v, L2.atI vs i = some v ∧ RelD X.K ρ H d v := by
  unfold L2.atI at e ⊢
  rw [← h.len]
  cases hj : ixN l.length i with
  | none => rw [hj] at e; cases e
  | some j =>
    rw [hj] at e
    exact h.get e
theorem z_ix (hu : X.A.units + 65 < cLine) : IxR X (rX2 X T .ix) := by
  intro value slice pins s σ H x y v u Q I rx ry p hs
  obtain ⟨ρ, st, ds, r, rd, p⟩ := p
  obtain ⟨d, st', hp, p⟩ := prim_some p
  unfold primF pIx at hp
  simp only at hp
  split at hp
  · rename_i l i
    obtain ⟨v1, u1, e, r1, r2⟩ := rd.two
    cases e
    cases he : L2.atI l i with
    | none => rw [he] at hp; cases hp
    | some d =>
      rw [he] at hp
      cases hp
      obtain ⟨a, vs, rfl, h1, h2⟩ := r1.fro_
      cases r2.int_
      obtain ⟨z, hz, rz⟩ := h2.atI he
      exact ix_list value slice pins s σ H _ _ v u Q I rx ry ⟨a, vs, i, z, rfl, rfl, h1.sq, hz, p.now r rz⟩ hs
  · rename_i l i
    obtain ⟨v1, u1, e, r1, r2⟩ := rd.two
    cases e
    cases he : L2.atI l i with
    | none => rw [he] at hp; cases hp
    | some d =>
      rw [he] at hp
      cases hp
      obtain ⟨a, vs, rfl, h1, h2⟩ := r1.tup_
      cases r2.int_
      obtain ⟨z, hz, rz⟩ := h2.atI he
      exact ix_tup value slice pins s σ H _ _ v u Q I rx ry ⟨a, vs, i, z, rfl, rfl, h1, hz, p.now r rz⟩ hs
  · rename_i z i
    split at hp
    · rename_i hz
      obtain ⟨v1, u1, e, r1, r2⟩ := rd.two
      cases e
      cases he : L2.atI z.cps.toList i with
      | none => rw [he] at hp; cases hp
      | some c =>
        rw [he] at hp
        cases hp
        cases r1.str_
        cases r2.int_
        exact ix_str value slice pins s σ H _ _ v u Q I rx ry ⟨z, i, c, rfl, rfl, hz, he, p.now r (.str _)⟩ hs
    · cases hp
  · obtain ⟨v1, u1, e, r1, r2⟩ := rd.two
    cases e
    split at hp
    · rename_i l hl
      split at hp
      · rename_i hk
        cases hd : dget l _ with
        | none => rw [hd] at hp; cases hp
        | some d =>
          rw [hd] at hp
          cases hp
          obtain ⟨a, ha, rfl⟩ := r1.ref_
          have ht := (dic_type I (r.obj _ _ a hl ha)).1
          cases rx
          exact tail_any ht PySem.F.slot_dict_getitem.lookup (dic_get hu I r hl hk hd r2 r1 ry rfl fun s' z z' I' rz rz' => ⟨z, H, I', rz', p.now r rz⟩) hs
      · cases hp
    · split at hp
      · rename_i l i hl
        cases he : L2.atI l i with
        | none => rw [he] at hp; cases hp
        | some d =>
          rw [he] at hp
          cases hp
          obtain ⟨a, vs, rfl, _, h1, h2⟩ := lst_at r r1 (lstAt_some hl)
          cases r2.int_
          obtain ⟨z, hz, rz⟩ := h2.atI he
          exact ix_list value slice pins s σ H _ _ v u Q I rx ry ⟨a, vs, i, z, rfl, rfl, .of h1, hz, p.now r rz⟩ hs
      · cases hp
  · cases hp
/-- what a store into a list or a dict leaves -/
def stD (o i v : D) (st : Sto) (Q : Sto → Prop) : Prop := match o with
  | .ref j => (match st[j]? with
    | some (.lst l) => (match i with
      | .int k => (match ixN l.length k with
        | some m => Q (st.set j (.lst (l.set m v)))
        | none => False)
      | _ => False)
    | some (.dic l) => keyFits l i = true ∧ l.length < sizeLine ∧ Q (st.set j (.dic (dset l i v)))
    | _ => False)
  | _ => False
def rSt (X : Cx) (T : Names) : TSet := fun o i v H Q => ∃ ρ st do_ di dv, RelS X.prog X.w X.K T ρ st H ∧ RelD X.K ρ H do_ o ∧ RelD X.K ρ H di i ∧ RelD X.K ρ H dv v ∧
  stD do_ di dv st fun st' => ∀ H', Ext ρ ρ H H' → RelS X.prog X.w X.K T ρ st' H' → Q H'
theorem z_set (hu : X.A.units + 65 < cLine) : PSet X (rSt X T) := by
  intro pins s σ H o i v ov iv u Q I ro ri rv p
  obtain ⟨ρ, st, do_, di, dv, r, r1, r2, r3, p⟩ := p
  unfold stD at p
  split at p
  · split at p
    · rename_i l hl
      split at p
      · split at p
        · rename_i m hm
          obtain ⟨a, vs, rfl, ha, h1, h2⟩ := lst_at r r1 hl
          cases r2.int_
          obtain ⟨r', e⟩ := r.set (o' := .lst (l.set m dv)) (u := .lst (vs.set m v)) hl ha fun e => ⟨_, upd_same, (h2.set r3 m).ext e⟩
          exact set_list pins s σ H _ _ v ov iv u Q I ro ri rv ⟨a, vs, _, m, rfl, rfl, h1, by rw [← h2.len]; exact hm, p _ e r'⟩
        · exact p.elim
      · exact p.elim
    · rename_i l hl
      exact dic_put hu I r hl p.1 p.2.1 r2 r1 r3 ri ro rv fun s' H' I' r' e => ⟨H', I', p.2.2 H' e r'⟩
    · exact p.elim
  · exact p.elim

/-! ### built-in functions -/
theorem call_len_dic : CallR X (.builtin "len") (fun vs H Q => ∃ ρ st i l, RelS X.prog X.w X.K T ρ st H ∧ RelDs X.K ρ H [.ref i] vs ∧ st[i]? = some (.dic l) ∧ Q (.int l.length) H) := by
  intro pins s σ H xs us Q I rx p
  obtain ⟨ρ, st, i, l, r, rd, hl, p⟩ := p
  obtain ⟨v, rfl, rd1⟩ := rd.one
  obtain ⟨a, ha, rfl⟩ := rd1.ref_
  rw [Vals.ref1 rx]
  have ro := r.obj i _ a hl ha
  rcases ro with ⟨kvs, h1, h2⟩ | ⟨hn, xs, h1, h2, h3⟩
  · refine d_len I (.inl h1) fun t s' I' => ⟨.int kvs.length, H, I', ⟨t, rfl⟩, ?_⟩
    rw [show l.length = kvs.length from Paired.length h2] at p
    exact p
  · have hf : l.all (fun p => isTup p.1) = true := by
      have key : ∀ {l : List (D × D)} {xs : List (NestedKey × Addr × Value)}, RelT X.K ρ H l xs → l.all (fun p => isTup p.1) = true := by
        intro l xs h
        induction h with
        | nil => rfl
        | cons hd tl ih =>
          obtain ⟨⟨ds, e⟩, _⟩ := hd
          rw [List.all_cons, e, ih]
          rfl
      exact key h3
    obtain ⟨xs, dd, rt, hsm, hz, mu⟩ := dictT_of (T := T) I (Or.inr ⟨hn, xs, h1, h2, h3⟩) hf
    have hl2 : l.length = xs.length := Paired.length rt
    refine call_len_dictH hsm dd (by rw [sizeLine_eq] at hz; omega) ?_
    rw [← hl2]
    exact ⟨.int ((l.length : Nat) : Int), H, I.tok _, ⟨_, rfl⟩, p⟩
theorem z_len : CallR X (.builtin "len") (rX X T .len) := by
  refine CallR.two (CallR.two call_len_seq call_len_str (r := fun xs H Q => (∃ p ys, xs = [.ref p] ∧ (SqL X.K H p ys ∨ SqT X.K H p ys) ∧ Q (.int ys.length) H) ∨ ∃ z, xs = [.str z] ∧ z.length ≤ sizeLine ∧ Q (.int z.length) H) fun _ _ _ h => h) (call_len_dic (T := T)) fun vs H Q p => ?_
  obtain ⟨ρ, st, ds, r, rd, p⟩ := p
  obtain ⟨d, st', hp, p⟩ := prim_some p
  unfold primF pLen at hp
  simp only at hp
  split at hp
  · cases hp
    obtain ⟨v, rfl, r1⟩ := rd.one
    obtain ⟨a, us, rfl, h1, h2⟩ := r1.fro_
    exact .inl (.inl ⟨a, us, rfl, .inl h1.sq, by rw [← h2.len]; exact p.now r (.int _)⟩)
  · split at hp
    · rename_i hz
      cases hp
      obtain ⟨v, rfl, r1⟩ := rd.one
      cases r1.str_
      exact .inl (.inr ⟨_, rfl, hz, p.now r (.int _)⟩)
    · cases hp
  · cases hp
    obtain ⟨v, rfl, r1⟩ := rd.one
    obtain ⟨a, us, rfl, h1, h2⟩ := r1.tup_
    exact .inl (.inl ⟨a, us, rfl, .inr h1, by rw [← h2.len]; exact p.now r (.int _)⟩)
  · split at hp
    · rename_i l hl
      cases hp
      exact .inr ⟨ρ, st, _, l, r, rd, hl, p.now r (.int _)⟩
    · cases hl : lstAt st _ with
      | none => rw [hl] at hp; cases hp
      | some l =>
        rw [hl] at hp
        cases hp
        obtain ⟨v, rfl, r1⟩ := rd.one
        obtain ⟨a, us, rfl, _, h1, h2⟩ := lst_at r r1 (lstAt_some hl)
        exact .inl (.inl ⟨a, us, rfl, .inl (.of h1), by rw [← h2.len]; exact p.now r (.int _)⟩)
  · cases hp
theorem z_abs : CallR X (.builtin "abs") (rX X T .abs) := by
  refine CallR.imp call_abs fun vs H Q p => ?_
  obtain ⟨ρ, st, ds, r, rd, p⟩ := p
  obtain ⟨d, st', hp, p⟩ := prim_some p
  unfold primF pAbs at hp
  simp only at hp
  split at hp
  · cases hp
    obtain ⟨v, rfl, r1⟩ := rd.one
    cases r1.int_
    exact ⟨_, rfl, p.now r (.int _)⟩
  · cases hp
theorem z_int : CallR X (.type "int") (rX X T .int) := by
  refine CallR.imp call_int1 fun vs H Q p => ?_
  obtain ⟨ρ, st, ds, r, rd, p⟩ := p
  obtain ⟨d, st', hp, p⟩ := prim_some p
  unfold primF pInt at hp
  simp only at hp
  split at hp
  · cases hp
    obtain ⟨v, rfl, r1⟩ := rd.one
    cases r1.int_
    exact .inl ⟨_, rfl, p.now r (.int _)⟩
  · cases hp
theorem z_min2 (hc : X.calm = true) : CallR X (.builtin "min") (rX X T .min2) := by
  refine CallR.imp (call_min2 hc) fun vs H Q p => ?_
  obtain ⟨ρ, st, ds, r, rd, p⟩ := p
  obtain ⟨d, st', hp, p⟩ := prim_some p
  unfold primF pMin2 at hp
  simp only at hp
  split at hp
  · cases hp
    obtain ⟨v, u, rfl, r1, r2⟩ := rd.two
    cases r1.int_
    cases r2.int_
    exact ⟨_, _, rfl, p.now r (.int _)⟩
  · cases hp
theorem z_max2 (hc : X.calm = true) : CallR X (.builtin "max") (rX X T .max2) := by
  refine CallR.imp (call_max2 hc) fun vs H Q p => ?_
  obtain ⟨ρ, st, ds, r, rd, p⟩ := p
  obtain ⟨d, st', hp, p⟩ := prim_some p
  unfold primF pMax2 at hp
  simp only at hp
  split at hp
  · cases hp
    obtain ⟨v, u, rfl, r1, r2⟩ := rd.two
    cases r1.int_
    cases r2.int_
    exact ⟨_, _, rfl, p.now r (.int _)⟩
  · cases hp
theorem RelDs.bls {ρ : List Addr} {H : Hp} : ∀ {l : List D} {vs : List V} {bs : List Bool}, RelDs X.K ρ H l vs → l.mapM unbl = some bs → vs = bs.map V.bl
  | [], vs, bs, h, e => by unfold RelDs at h; rw [List.mapM_nil] at e; cases e; exact h
  | d :: l, vs, bs, h, e => by
    unfold RelDs at h
    obtain ⟨v, us, rfl, h1, h2⟩ := h
    rw [List.mapM_cons] at e
    cases e1 : unbl d with
    | none => rw [e1] at e; cases e
    | some b =>
      rw [e1] at e
      cases e2 : l.mapM unbl with
      | none => rw [e2] at e; cases e
      | some cs =>
        rw [e2] at e
        cases e
        rw [RelDs.bls h2 e2]
        cases d <;> cases e1
        cases h1.bl_
        rfl
theorem RelDs.ints {ρ : List Addr} {H : Hp} : ∀ {l : List D} {vs : List V} {bs : List Int}, RelDs X.K ρ H l vs → l.mapM unint = some bs → vs = bs.map V.int
  | [], vs, bs, h, e => by unfold RelDs at h; rw [List.mapM_nil] at e; cases e; exact h
  | d :: l, vs, bs, h, e => by
    unfold RelDs at h
    obtain ⟨v, us, rfl, h1, h2⟩ := h
    rw [List.mapM_cons] at e
    cases e1 : unint d with
    | none => rw [e1] at e; cases e
    | some b =>
      rw [e1] at e
      cases e2 : l.mapM unint with
      | none => rw [e2] at e; cases e
      | some cs =>
        rw [e2] at e
        cases e
        rw [RelDs.ints h2 e2]
        cases d <;> cases e1
        cases h1.int_
        rfl
theorem RelDs.strs {ρ : List Addr} {H : Hp} : ∀ {l : List D} {vs : List V} {bs : List Str}, RelDs X.K ρ H l vs → l.mapM unstr = some bs → vs = bs.map V.str
  | [], vs, bs, h, e => by unfold RelDs at h; rw [List.mapM_nil] at e; cases e; exact h
  | d :: l, vs, bs, h, e => by
    unfold RelDs at h
    obtain ⟨v, us, rfl, h1, h2⟩ := h
    rw [List.mapM_cons] at e
    cases e1 : unstr d with
    | none => rw [e1] at e; cases e
    | some b =>
      rw [e1] at e
      cases e2 : l.mapM unstr with
      | none => rw [e2] at e; cases e
      | some cs =>
        rw [e2] at e
        cases e
        rw [RelDs.strs h2 e2]
        cases d <;> cases e1
        cases h1.str_
        rfl
theorem z_all (hc : X.calm = true) : CallR X (.builtin "all") (rX X T .all_) := by
  refine CallR.imp (cr_all hc) fun vs H Q p => ?_
  obtain ⟨ρ, st, ds, r, rd, p⟩ := p
  obtain ⟨d, st', hp, p⟩ := prim_some p
  unfold primF pAll_ at hp
  simp only at hp
  split at hp
  · split at hp
    · rename_i l hl
      cases hb : l.mapM unbl with
      | none => rw [hb] at hp; cases hp
      | some bs =>
        rw [hb] at hp
        cases hp
        obtain ⟨v, rfl, r1⟩ := rd.one
        obtain ⟨a, us, rfl, _, h1, h2⟩ := lst_at r r1 (lstAt_some hl)
        cases h2.bls hb
        exact ⟨a, bs, rfl, .of h1, p.now r (.bl _)⟩
    · cases hp
  · cases hp
theorem z_any (hc : X.calm = true) : CallR X (.builtin "any") (rX X T .any_) := by
  refine CallR.imp (cr_any hc) fun vs H Q p => ?_
  obtain ⟨ρ, st, ds, r, rd, p⟩ := p
  obtain ⟨d, st', hp, p⟩ := prim_some p
  unfold primF pAny_ at hp
  simp only at hp
  split at hp
  · split at hp
    · rename_i l hl
      cases hb : l.mapM unbl with
      | none => rw [hb] at hp; cases hp
      | some bs =>
        rw [hb] at hp
        cases hp
        obtain ⟨v, rfl, r1⟩ := rd.one
        obtain ⟨a, us, rfl, _, h1, h2⟩ := lst_at r r1 (lstAt_some hl)
        cases h2.bls hb
        exact ⟨a, bs, rfl, .of h1, p.now r (.bl _)⟩
    · cases hp
  · cases hp
theorem z_sum (hc : X.calm = true) : CallR X (.builtin "sum") (rX X T .sum) := by
  refine CallR.imp (cr_sum hc) fun vs H Q p => ?_
  obtain ⟨ρ, st, ds, r, rd, p⟩ := p
  obtain ⟨d, st', hp, p⟩ := prim_some p
  unfold primF pSum at hp
  simp only at hp
  split at hp
  · split at hp
    · rename_i l hl
      cases hb : l.mapM unint with
      | none => rw [hb] at hp; cases hp
      | some bs =>
        rw [hb] at hp
        cases hp
        obtain ⟨v, rfl, r1⟩ := rd.one
        obtain ⟨a, us, rfl, _, h1, h2⟩ := lst_at r r1 (lstAt_some hl)
        cases h2.ints hb
        exact ⟨a, bs, rfl, .of h1, p.now r (.int _)⟩
    · cases hp
  · cases hp
theorem z_tupOf : CallR X (.type "tuple") (rX X T .tupOf) := by
  refine CallR.imp call_tuple_of fun vs H Q p => ?_
  obtain ⟨ρ, st, ds, r, rd, p⟩ := p
  obtain ⟨d, st', hp, p⟩ := prim_some p
  unfold primF pTupOf at hp
  simp only at hp
  split at hp
  · cases hp
    obtain ⟨v, rfl, r1⟩ := rd.one
    obtain ⟨a, us, rfl, h1, h2⟩ := r1.fro_
    exact ⟨a, us, rfl, .inl ⟨h1.sq, fun l hl => p.newT r h2 hl⟩⟩
  · cases hp
    obtain ⟨v, rfl, r1⟩ := rd.one
    obtain ⟨a, us, rfl, h1, h2⟩ := id r1.tup_
    exact ⟨a, us, rfl, .inr ⟨h1, p.now r r1⟩⟩
  · cases hl : lstAt st _ with
    | none => rw [hl] at hp; cases hp
    | some l =>
      rw [hl] at hp
      cases hp
      obtain ⟨v, rfl, r1⟩ := rd.one
      obtain ⟨a, us, rfl, _, h1, h2⟩ := lst_at r r1 (lstAt_some hl)
      exact ⟨a, us, rfl, .inl ⟨.of h1, fun l hl => p.newT r h2 hl⟩⟩
  · cases hp
theorem z_lstOf : CallR X (.type "list") (rX X T .lstOf) := by
  refine CallR.imp call_list_of fun vs H Q p => ?_
  obtain ⟨ρ, st, ds, r, rd, p⟩ := p
  obtain ⟨d, st', hp, p⟩ := prim_some p
  unfold primF pLstOf at hp
  simp only at hp
  split at hp
  · obtain ⟨_, rfl, rfl⟩ := newL_some hp
    obtain ⟨v, rfl, r1⟩ := rd.one
    obtain ⟨a, us, rfl, h1, h2⟩ := r1.fro_
    exact ⟨a, us, rfl, .inl h1.sq, fun l hl => p.newL r h2 hl⟩
  · obtain ⟨_, rfl, rfl⟩ := newL_some hp
    obtain ⟨v, rfl, r1⟩ := rd.one
    obtain ⟨a, us, rfl, h1, h2⟩ := r1.tup_
    exact ⟨a, us, rfl, .inr h1, fun l hl => p.newL r h2 hl⟩
  · split at hp
    · rename_i l hl
      obtain ⟨_, rfl, rfl⟩ := newL_some hp
      obtain ⟨v, rfl, r1⟩ := rd.one
      obtain ⟨a, us, rfl, _, h1, h2⟩ := lst_at r r1 (lstAt_some hl)
      exact ⟨a, us, rfl, .inl (.of h1), fun l hl => p.newL r h2 hl⟩
    · cases hp
  · cases hp
end
end Z
end
section
set_option linter.all false
set_option maxRecDepth 100000
set_option maxHeartbeats 4000000
namespace Z
open PySem PySem.Spec PyProof.Rows L2
section
variable {X : Cx} {T : Names}
abbrev rM (X : Cx) (T : Names) (o : Op) : V → List V → Hp → VK → Prop := fun x xs H Q => rX X T o (x :: xs) H Q
theorem MtM.imp {id : String} {r r' : V → List V → Hp → VK → Prop} (h : MtM X id r) (hi : ∀ x xs H Q, r' x xs H Q → r x xs H Q) : MtM X id r' := fun pins s σ H x xs v us Q I rx rs p => h pins s σ H x xs v us Q I rx rs (hi x xs H Q p)
theorem z_append : MtM X "list.append" (rM X T .append) := by
  refine MtM.imp mt_append fun x xs H Q p => ?_
  obtain ⟨ρ, st, ds, r, rd, p⟩ := p
  obtain ⟨d, st', hp, p⟩ := prim_some p
  unfold primF pAppend at hp
  simp only at hp
  split at hp
  · split at hp
    · rename_i l hl
      split at hp
      · rename_i hz
        cases hp
        obtain ⟨v, u, e, r1, r2⟩ := rd.two
        cases e
        obtain ⟨a, vs, rfl, ha, h1, h2⟩ := lst_at r r1 hl
        exact ⟨a, vs, u, rfl, rfl, h1, by rw [← h2.len]; exact hz, p.setL r hl ha (h2.append (.cons r2 .nil)) .non⟩
      · cases hp
    · cases hp
  · cases hp
theorem z_extend : MtM X "list.extend" (rM X T .extend) := by
  refine MtM.imp mt_extend fun x xs H Q p => ?_
  obtain ⟨ρ, st, ds, r, rd, p⟩ := p
  obtain ⟨d, st', hp, p⟩ := prim_some p
  unfold primF pExtend at hp
  simp only at hp
  split at hp
  · split at hp
    · rename_i l l' hl hl'
      split at hp
      · rename_i hz
        cases hp
        obtain ⟨v, u, e, r1, r2⟩ := rd.two
        cases e
        obtain ⟨a, vs, rfl, ha, h1, h2⟩ := lst_at r r1 hl
        obtain ⟨b, us, rfl, hb, h3, h4⟩ := lst_at r r2 hl'
        exact ⟨a, b, vs, us, rfl, rfl, h1, h3, by rw [← h2.len, ← h4.len]; exact hz, p.setL r hl ha (h2.append h4) .non⟩
      · cases hp
    · cases hp
  · cases hp
theorem z_pop : MtM X "list.pop" (rM X T .pop) := by
  refine MtM.imp mt_pop fun x xs H Q p => ?_
  obtain ⟨ρ, st, ds, r, rd, p⟩ := p
  obtain ⟨d, st', hp, p⟩ := prim_some p
  unfold primF pPop at hp
  simp only at hp
  split at hp
  · split at hp
    · rename_i l hl
      cases he : l[l.length - 1]? with
      | none => rw [he] at hp; cases hp
      | some y =>
        rw [he] at hp
        cases hp
        obtain ⟨v, e, r1⟩ := rd.one
        cases e
        obtain ⟨a, vs, rfl, ha, h1, h2⟩ := lst_at r r1 hl
        obtain ⟨z, hz, rz⟩ := h2.get he
        exact ⟨a, vs, z, rfl, rfl, h1, by rw [← h2.len]; exact hz, p.setL r hl ha h2.dropLast rz⟩
    · cases hp
  · cases hp
theorem z_popAt : MtM X "list.pop" (rM X T .popAt) := by
  refine MtM.imp mt_popAt fun x xs H Q p => ?_
  obtain ⟨ρ, st, ds, r, rd, p⟩ := p
  obtain ⟨d, st', hp, p⟩ := prim_some p
  unfold primF pPopAt at hp
  simp only at hp
  split at hp
  · split at hp
    · rename_i l hl
      split at hp
      · rename_i hb
        split at hp
        · rename_i j hj
          cases he : l[j]? with
          | none => rw [he] at hp; cases hp
          | some y =>
            rw [he] at hp
            cases hp
            obtain ⟨v, u, e, r1, r2⟩ := rd.two
            cases e
            cases r2.int_
            obtain ⟨a, vs, rfl, ha, h1, h2⟩ := lst_at r r1 hl
            obtain ⟨z, hz, rz⟩ := h2.get he
            exact ⟨a, vs, _, j, z, rfl, rfl, h1, hb.1, hb.2, by rw [← h2.len]; exact hj, hz, p.setL r hl ha (h2.eraseIdx j) rz⟩
        · cases hp
      · cases hp
    · cases hp
  · cases hp
theorem z_join : MtM X "str.join" (rM X T .join) := by
  refine MtM.imp mt_join fun x xs H Q p => ?_
  obtain ⟨ρ, st, ds, r, rd, p⟩ := p
  obtain ⟨d, st', hp, p⟩ := prim_some p
  unfold primF pJoin at hp
  simp only at hp
  split at hp
  · split at hp
    · rename_i l hl
      split at hp
      · rename_i ys hy
        split at hp
        · rename_i hz
          cases hp
          obtain ⟨v, u, e, r1, r2⟩ := rd.two
          cases e
          cases r1.str_
          obtain ⟨a, vs, rfl, ha, h1, h2⟩ := lst_at r r2 (lstAt_some hl)
          cases h2.strs hy
          exact ⟨_, a, ys, rfl, rfl, .inl (.of h1), hz, p.now r (.str _)⟩
        · cases hp
      · cases hp
    · cases hp
  · cases hp
/-- d.get(k), d.get(k, x) -/
theorem dic_getV {pins : List (Addr × Obj)} {σ : L2.St} {H : Hp} {s : Shared} {ρ : List Addr} {st : Sto} {i : Nat} {l : List (D × D)} {k : D} {x : V} {v u : Value} {y : V} (hu : X.A.units + 65 < cLine) (I : Inv X pins σ H s)
    (r : RelS X.prog X.w X.K T ρ st H) (hi : st[i]? = some (.dic l)) (hk : keyFits l k = true) (rk : RelD X.K ρ H k x) (rd : RelD X.K ρ H (.ref i) y) (rx : RelV x v) (ry : RelV y u) (more : List Value) (dv : V) (dw : Value) (dd : D) (hm : (more = [] ∧ dw = .none) ∨ more = [dw]) (hd : RelV dv dw) (hdd : RelD X.K ρ H dd dv)
    {Q' : Value → Shared → Prop} {E : Value → Shared → Prop} (h : ∀ s' z z', Inv X pins σ H s' → RelD X.K ρ H ((dget l k).getD dd) z → RelV z z' → Q' z' s') :
    wpAny (model X.prog X.w) X.A (call (.builtin "dict.get") (u :: v :: more)) Q' E s := by
  obtain ⟨a, ha, rfl⟩ := rd.ref_
  cases ry
  have ro := r.obj i _ a hi ha
  cases hf : flat k with
  | true =>
    obtain ⟨kvs, h1, h2⟩ := dic_flat ro (keyFits_flat hk hf)
    obtain ⟨j, hj⟩ := flat_some hf
    cases kv_of rk hj
    have z := get_flat h2 hj
    have fin : ∀ w' s', Inv X pins σ H s' → RelV ((valV kvs j).getD dv) w' → Q' w' s' := fun w' s' I' rw' => by
      cases hg : dget l k with
      | none =>
        rw [hg] at z h
        rw [z] at rw'
        exact h s' dv w' I' hdd rw'
      | some d =>
        rw [hg] at z h
        obtain ⟨v', e, rv⟩ := z
        rw [e] at rw'
        exact h s' v' w' I' rv rw'
    rcases hm with ⟨rfl, rfl⟩ | rfl
    · cases (show dv = V.non from RelV.inj hd rfl)
      exact d_get1 (o := valV kvs j) (by omega) I (.k h1) rx fun w' s' I' rw' => fin w' s' I' rw'
    · exact d_get2 (o := valV kvs j) (d := dv) (by omega) I (.k h1) rx hd fun w' s' I' rw' => fin w' s' I' rw'
  | false =>
    obtain ⟨h1, ⟨n, h2, h3⟩, h4⟩ := keyFits_tup hk hf
    obtain ⟨xs, ddx, rt, hsm, hz, mu⟩ := dictT_of I ro h4
    cases k with
    | tup ds =>
      obtain ⟨b, vs, rfl, h5, h6⟩ := rk.tup_
      cases rx
      have dk : s.heap.DictKeyed (nestedKind X.prog X.w) a (pairsH xs) := ⟨xs, ddx, rfl⟩
      have z := get_tup rt h2
      have fin : Q' ((valueAt (pairsH xs) n).getD dw) { s with toks := s.toks + (nestedKind X.prog X.w).draws n } := by
        rw [valueAt_pairsH]
        cases hg : dget l (.tup ds) with
        | none =>
          rw [hg] at z h
          rw [z]
          exact h _ dv dw (I.tok _) hdd hd
        | some d =>
          rw [hg] at z h
          obtain ⟨p, v', e, rv, rd'⟩ := z
          rw [e]
          exact h _ v' _ (I.tok _) rd' rv
      rcases hm with ⟨rfl, rfl⟩ | rfl
      · exact get_keyed (nest_room hu) (k := n) ⟨nis_of I _ _ _ _ h2 rk rfl, h3⟩ hsm dk fin
      · exact getOr_keyed (nest_room hu) (k := n) ⟨nis_of I _ _ _ _ h2 rk rfl, h3⟩ hsm dk fin
    | _ => cases h1
theorem z_get1 (hu : X.A.units + 65 < cLine) : MtM X "dict.get" (rM X T .get1) := by
  intro pins s σ H x xs v us Q I rx rs p
  obtain ⟨ρ, st, ds, r, rd, p⟩ := p
  obtain ⟨d, st', hp, p⟩ := prim_some p
  unfold primF pGet1 at hp
  simp only at hp
  split at hp
  · split at hp
    · rename_i l hl
      split at hp
      · rename_i hk
        cases hp
        obtain ⟨v1, u1, e, r1, r2⟩ := rd.two
        cases e
        obtain ⟨w', rfl, rw'⟩ := rs.one
        exact dic_getV hu I r hl hk r2 r1 rw' rx [] .non .none .non (.inl ⟨rfl, rfl⟩) rfl .non fun s' z z' I' rz rz' => ⟨z, H, I', rz', p.now r rz⟩
      · cases hp
    · cases hp
  · cases hp
theorem z_get2 (hu : X.A.units + 65 < cLine) : MtM X "dict.get" (rM X T .get2) := by
  intro pins s σ H x xs v us Q I rx rs p
  obtain ⟨ρ, st, ds, r, rd, p⟩ := p
  obtain ⟨d, st', hp, p⟩ := prim_some p
  unfold primF pGet2 at hp
  simp only at hp
  split at hp
  · split at hp
    · rename_i l hl
      split at hp
      · rename_i hk
        cases hp
        obtain ⟨v1, u1, t1, e, r1, r2, r3⟩ := rd.three
        cases e
        obtain ⟨w', w2, rfl, rw', rw2⟩ := rs.two
        exact dic_getV hu I r hl hk r2 r1 rw' rx [w2] t1 w2 _ (.inr rfl) rw2 r3 fun s' z z' I' rz rz' => ⟨z, H, I', rz', p.now r rz⟩
      · cases hp
    · cases hp
  · cases hp
end
end Z
end
section
set_option linter.all false
set_option maxRecDepth 100000
set_option maxHeartbeats 4000000
namespace Z
open PySem PySem.Spec PyProof.Rows L2

/-! ## isinstance -/
def tyNames : List String := ["NoneType", "bool", "int", "str", "tuple", "list", "dict"]
/-- what the head tells of own classes for isinstance -/
structure IsiF (K : PySem.W.Frag) (T : Names) : Prop where
  ins : ∀ (c : Nat) (x : Str), T.classes[c]? = some x → Cls K (He.ga K x) ∧ PySem.W.findIn K (.ref (He.ga K x)) "__class__" = some (some (.builtin "object.__class__")) ∧
    PySem.W.specialIn K (.builtin "object.__class__") "__get__" = some (some (.builtin "getset_descriptor.__get__")) ∧ PySem.W.takesIn K (.builtin "object.__class__") = some true ∧ PySem.W.mroIn K (He.ga K x) (.type "object") = some true
  ob : ∀ (c : Nat) (x : Str), T.classes[c]? = some x → ∀ n ∈ tyNames, PySem.W.kitOne K (.ref (He.ga K x)) (.type n) = some false
  bo : ∀ (c : Nat) (x : Str), T.classes[c]? = some x → ∀ n ∈ tyNames, PySem.W.kitOne K (.type n) (.ref (He.ga K x)) = some false
  oo : ∀ (c c' : Nat) (x x' : Str), T.classes[c]? = some x → T.classes[c']? = some x' → PySem.W.kitOne K (.ref (He.ga K x)) (.ref (He.ga K x')) = some (c == c')
def clsN : Ty → String
  | .int => "int"
  | .bool => "bool"
  | .str => "str"
  | .tuple => "tuple"
  | .list => "list"
  | .dict => "dict"
  | .none_ => "NoneType"
  | .own _ => ""
theorem clsN_mem {c : Ty} (h : ∀ k, c ≠ .own k) : clsN c ∈ tyNames := by
  cases c <;> first | exact absurd rfl (h _) | simp [clsN, tyNames]
/-- a class as the machine has it -/
def clsU (K : PySem.W.Frag) (T : Names) (c : Ty) (u : Value) : Prop := match c with
  | .own k => ∃ x, T.classes[k]? = some x ∧ u = .ref (He.ga K x)
  | c => u = .type (clsN c)
theorem clsU_blt {K : PySem.W.Frag} {T : Names} {c : Ty} (h : ∀ k, c ≠ .own k) : clsU K T c (.type (clsN c)) := by
  cases c <;> first | exact absurd rfl (h _) | rfl
theorem blt_u {K : PySem.W.Frag} {T : Names} {c : Ty} {u : Value} (h : ∀ k, c ≠ .own k) (hu : clsU K T c u) : u = .type (clsN c) := by
  cases c <;> first | exact absurd rfl (h _) | exact hu
section
variable {X : Cx} {T : Names}
theorem kit_bb {K : PySem.W.Frag} : ∀ a ∈ tyNames, ∀ b ∈ tyNames, PySem.W.kitOne K (.type a) (.type b) = some (a == b || (a == "bool" && b == "int")) := by
  intro a ha b hb
  simp only [tyNames, List.mem_cons, List.not_mem_nil, or_false] at ha hb
  rcases ha with rfl | rfl | rfl | rfl | rfl | rfl | rfl <;> rcases hb with rfl | rfl | rfl | rfl | rfl | rfl | rfl <;> exact kit_ty (by decide +kernel)
theorem ty_answer {K : PySem.W.Frag} (F : IsiF K T) {c t : Ty} {cu tu : Value} (hc : clsU K T c cu) (ht : clsU K T t tu) : PySem.W.kitOne K tu cu = some (tyIs c t) := by
  by_cases h1 : ∃ k, c = .own k
  · obtain ⟨k, rfl⟩ := h1
    obtain ⟨x, hx, rfl⟩ := hc
    by_cases h2 : ∃ j, t = .own j
    · obtain ⟨j, rfl⟩ := h2
      obtain ⟨y, hy, rfl⟩ := ht
      rw [F.oo j k y x hy hx]
      congr 1
      unfold tyIs
      by_cases e : j = k
      · subst e; simp
      · rw [decide_eq_false (by intro z; cases z; exact e rfl)]; simp [e]
    · have h3 : ∀ j, t ≠ .own j := fun j e => h2 ⟨j, e⟩
      cases blt_u h3 ht
      rw [F.bo k x hx _ (clsN_mem h3)]
      unfold tyIs
      rw [decide_eq_false fun e => h3 k e.symm]
      rfl
  · have h3 : ∀ j, c ≠ .own j := fun j e => h1 ⟨j, e⟩
    cases blt_u h3 hc
    by_cases h2 : ∃ j, t = .own j
    · obtain ⟨j, rfl⟩ := h2
      obtain ⟨y, hy, rfl⟩ := ht
      rw [F.ob j y hy _ (clsN_mem h3)]
      unfold tyIs
      rw [decide_eq_false (h3 j)]
      simp
    · have h4 : ∀ j, t ≠ .own j := fun j e => h2 ⟨j, e⟩
      cases blt_u h4 ht
      rw [kit_bb _ (clsN_mem h4) _ (clsN_mem h3)]
      congr 1
      cases c <;> first | exact absurd rfl (h3 _) | (cases t <;> first | exact absurd rfl (h4 _) | decide)
theorem kit_D {pins : List (Addr × Obj)} {σ : L2.St} {H : Hp} {s : Shared} {ρ : List Addr} {st : Sto} {d : D} {t : Ty} {v : V} {u : Value} (F : IsiF X.K T) (I : Inv X pins σ H s) (r : RelS X.prog X.w X.K T ρ st H) (rd : RelD X.K ρ H d v) (rv : RelV v u) (ok : tagOf st d = some t) :
    ∃ tu P, clsU X.K T t tu ∧ PySem.W.KitX X.K u tu P ∧ P s.heap ∧ u ≠ .builtin "__main__.__loader__#opaque" := by
  have base : ∀ {n : Value}, TyX X.K H v n → clsU X.K T t n → ∃ tu P, clsU X.K T t tu ∧ PySem.W.KitX X.K u tu P ∧ P s.heap ∧ u ≠ .builtin "__main__.__loader__#opaque" := fun {n} h1 h2 => by
    obtain ⟨P, a, b, c⟩ := kit_of I rv h1
    exact ⟨_, P, h2, a, b, c⟩
  cases d with
  | non => cases ok; cases rd.non_; exact base (.base .non) rfl
  | bl b => cases ok; cases rd.bl_; exact base (.base (.bl b)) rfl
  | int b => cases ok; cases rd.int_; exact base (.base (.int b)) rfl
  | str b => cases ok; cases rd.str_; exact base (.base (.str b)) rfl
  | tup l =>
    cases ok
    obtain ⟨a, vs, rfl, h1, h2⟩ := rd.tup_
    rcases h1 with (h | ⟨o, h⟩) | ⟨o, its, n, hk, hc, _⟩
    · exact base (.base (.tup h)) rfl
    · exact base (.fTuple h) rfl
    · exact base (.kTuple hk hc) rfl
  | fro l =>
    cases ok
    obtain ⟨a, vs, rfl, h1, h2⟩ := rd.fro_
    rcases h1 with ⟨o, h⟩ | ⟨o, its, n, hk, hc, _⟩
    · exact base (.base (.frz h)) rfl
    · exact base (.kList hk hc) rfl
  | ref i =>
    unfold tagOf at ok
    simp only at ok
    obtain ⟨a, ha, rfl⟩ := rd.ref_
    split at ok
    · rename_i l hl
      cases ok
      obtain ⟨vs, h1, h2⟩ := r.obj i _ a hl ha
      exact base (.base (.lst h1)) rfl
    · rename_i l hl
      cases ok
      cases rv
      obtain ⟨⟨o, e, c⟩, _, _⟩ := dic_type I (r.obj i _ a hl ha)
      exact ⟨_, _, rfl, PySem.W.kitx_dict, ⟨o, e, c⟩, fun z => nomatch z⟩
    · rename_i c fs hl
      cases ok
      obtain ⟨x, dx, vs, h1, h2, h3⟩ := r.obj i _ a hl ha
      obtain ⟨f1, f2, f3, f4, f5⟩ := F.ins c x h1
      exact base (.base (.ins h2 f1 f2 f3 f4 f5)) ⟨x, h1, rfl⟩
    · cases ok
    · cases ok
/-- isinstance(x, c) -/
theorem z_isi (F : IsiF X.K T) (c : Ty) {cv : V} {cu : Value} (hcu : clsU X.K T c cu) (hr : ∀ z, RelV cv z → z = cu) : CallR X (.builtin "isinstance") (fun vs H Q => ∃ v, vs = [v, cv] ∧ rX X T (.isi c) [v] H Q) := by
  intro pins s σ H xs us Q I rx p
  obtain ⟨v, rfl, ρ, st, ds, r, rd, p⟩ := p
  obtain ⟨d, st', hp, p⟩ := prim_some p
  obtain ⟨u1, u2, rfl, r1, r2⟩ := vals2 rx
  cases hr _ r2
  unfold primF pIsi at hp
  simp only at hp
  split at hp
  · rename_i d
    cases ht : tagOf st d with
    | none => rw [ht] at hp; cases hp
    | some t =>
      rw [ht] at hp
      cases hp
      obtain ⟨v', e, rd'⟩ := rd.one
      cases e
      obtain ⟨tu, Pz, h1, h2, h3, h4⟩ := kit_D F I r rd' r1 ht
      exact PySem.W.kia_one h2 I.kIn h3 (ty_answer F hcu h1) h4 fun tk => ⟨.bl _, H, I.tok tk, rfl, p.now r (.bl _)⟩
  · cases hp
end
end Z
end
section
set_option linter.all false
set_option maxRecDepth 100000
set_option maxHeartbeats 4000000
namespace Z
open PySem PySem.Spec PyProof.Rows L2

/-! ## from the program's text to the small language -/
def slot (N : List Str) (sc : Scope) (x : Str) : Option Nat := match sc.names.lookup x with
  | some .local => N.idxOf? x
  | some .cell => N.idxOf? x
  | some .free => N.idxOf? x
  | _ => none
def isGl (sc : Scope) (x : Str) : Bool := match sc.names.lookup x with
  | some .globalImplicit => x != "__debug__" && x != "__name__"
  | _ => false
def binOp : Operator → Option Op
  | .Add => some .add
  | .Sub => some .sub
  | .Mult => some .mul
  | .Mod => some .mod
  | .FloorDiv => some .fdiv
  | .Pow => some .pow
  | _ => none
def cmpOp : CmpOp → Option Op
  | .Eq => some .eq
  | .NotEq => some .ne
  | .Lt => some .lt
  | .LtE => some .le
  | .Gt => some .gt
  | .GtE => some .ge
  | .Is => some .isN
  | .IsNot => some .notN
  | .In => some .isin
  | .NotIn => some .notin
def bltNames : List Str := ["len", "abs", "int", "min", "max", "all", "any", "sum", "tuple", "list", "isinstance", "range", "enumerate", "zip", "bool", "str", "dict", "set", "sorted", "reversed", "repr", "ValueError"]
def blt (x : Str) (n : Nat) : Option Op :=
  if x = "len" ∧ n = 1 then some .len else if x = "abs" ∧ n = 1 then some .abs else if x = "int" ∧ n = 1 then some .int else if x = "min" ∧ n = 2 then some .min2
  else if x = "max" ∧ n = 2 then some .max2 else if x = "all" ∧ n = 1 then some .all_ else if x = "any" ∧ n = 1 then some .any_ else if x = "sum" ∧ n = 1 then some .sum
  else if x = "tuple" ∧ n = 1 then some .tupOf else if x = "list" ∧ n = 1 then some .lstOf else none
def mth (x : Str) (n : Nat) : Option Op :=
  if x = "append" ∧ n = 1 then some .append else if x = "extend" ∧ n = 1 then some .extend else if x = "pop" ∧ n = 0 then some .pop else if x = "pop" ∧ n = 1 then some .popAt
  else if x = "get" ∧ n = 1 then some .get1 else if x = "get" ∧ n = 2 then some .get2 else if x = "join" ∧ n = 1 then some .join else none
def tyOf (T : Tab) (sc : Scope) : Expr → Option Ty
  | .Name x _ => if isGl sc x = true then
      (if x = "int" then some .int else if x = "bool" then some .bool else if x = "str" then some .str else if x = "tuple" then some .tuple else if x = "list" then some .list else if x = "dict" then some .dict
       else (T.classes.idxOf? x).map .own) else none
  | _ => none
/-- a plain receiver: no super() -/
def plainRecv : Expr → Bool
  | .Call (.Name _ _) [] [] _ => false
  | _ => true
def notSet : Expr → Bool
  | .Set _ _ _ => false
  | _ => true
def isSlice : Expr → Bool
  | .Slice _ _ _ _ => true
  | _ => false
def isCell (scope : Scope) (x : Str) : Bool := scope.names.lookup x == some .cell
mutual
def cTg (N : List Str) (sc : Scope) (fl : Str → Bool) : Expr → Option Tg
  | .Name x _ => (match sc.names.lookup x with
    | some .local => (N.idxOf? x).map .name
    | some .cell => if fl x = true then (N.idxOf? x).map .name else none
    | _ => none)
  | .Tuple es _ _ => (cTgs N sc fl es).map .tup
  | _ => none
def cTgs (N : List Str) (sc : Scope) (fl : Str → Bool) : List Expr → Option (List Tg)
  | [] => some []
  | e :: es => match cTg N sc fl e, cTgs N sc fl es with
    | some t, some ts => some (t :: ts)
    | _, _ => none
end
mutual
def tgSlots : Tg → List Nat
  | .name i => [i]
  | .tup l => tgsSlots l
def tgsSlots : List Tg → List Nat
  | [] => []
  | t :: ts => tgSlots t ++ tgsSlots ts
end
/-- that the arguments suit -/
def arOk (T : Tab) (f n : Nat) : Bool := match T.funs[f]? with
  | some fi => decide (n ≤ fi.np) && decide (fi.np - n ≤ fi.dfl.length)
  | none => false
def newOk (T : Tab) (c n : Nat) : Bool := match T.inits.lookup c with
  | some f => arOk T f (n + 1)
  | none => false
def methOk (T : Tab) (m n : Nat) : Bool := T.meths.all fun p => p.1.2 != m || arOk T p.2 (n + 1)
def propOk (T : Tab) (m : Nat) : Bool := T.props.all fun p => p.1.2 != m || arOk T p.2 1
def isTupE : Expr → Bool
  | .Tuple _ _ _ => true
  | _ => false
def ownOf (N : List Str) (l : List Nat) : List (Str × Nat) := l.map fun i => (N.getD i "", i)
def cEs (f : Expr → Option E) : List Expr → Option (List E)
  | [] => some []
  | e :: es => (match f e, cEs f es with
    | some a, some b => some (a :: b)
    | _, _ => none)
def cAnd (f : Expr → Option E) : List Expr → Option E
  | [] => none
  | e :: es => (match f e with
    | none => none
    | some a => (match es with
      | [] => some a
      | _ :: _ => (cAnd f es).map fun b => .and a b))
def cOr (f : Expr → Option E) : List Expr → Option E
  | [] => none
  | e :: es => (match f e with
    | none => none
    | some a => (match es with
      | [] => some a
      | _ :: _ => (cOr f es).map fun b => .or a b))
def cConst : Const → Option D
  | .none => some .non
  | .bool b => some (.bl b)
  | .int i => some (.int i)
  | .str x => some (.str x)
  | _ => none
def cName (T : Tab) (N : List Str) (sc : Scope) (x : Str) : Option E := if x = "__debug__" ∨ x = "__classdict__" then none else (match slot N sc x with
    | some i => some (.var i)
    | none => if isGl sc x = true then (T.consts.lookup x).map .cst else none)
def cCmp (f : Expr → Option E) (a : Expr) : List CmpOp → List Expr → Option E
  | [o], [b] => if notSet b = true then (match cmpOp o, f a, f b with
    | some o', some a', some b' => some (.op o' [a', b'])
    | _, _, _ => none) else none
  | [o1, o2], [b, c] => if notSet c = true then (match cmpOp o1, cmpOp o2, f a, f b, f c with
    | some o1', some o2', some a', some b', some c' => some (.chain o1' o2' a' b' c')
    | _, _, _, _, _ => none) else none
  | _, _ => none
def cSub (f : Expr → Option E) (a : Expr) : Expr → Option E
  | .Slice none none none _ => (f a).map fun a' => .op (.sl false false) [a']
  | .Slice (some b) none none _ => (match f a, f b with
    | some a', some b' => some (.op (.sl true false) [a', b'])
    | _, _ => none)
  | .Slice none (some b) none _ => (match f a, f b with
    | some a', some b' => some (.op (.sl false true) [a', b'])
    | _, _ => none)
  | .Slice (some b) (some c) none _ => (match f a, f b, f c with
    | some a', some b', some c' => some (.slB a' b' c')
    | _, _, _ => none)
  | b => if isSlice b = true then none else (match f a, f b with
    | some a', some b' => some (.op .ix [a', b'])
    | _, _ => none)
def cAttr (T : Tab) (f : Expr → Option E) (o : Expr) (x : Str) : Option E := if plainRecv o = true then (match f o, T.names.idxOf? x with
    | some o', some m => if propOk T m = true then some (.attr o' m) else none
    | _, _ => none) else none
def xnewOk (T : Tab) (c n : Nat) : Bool := match T.excs[c]? with
  | some (_, none) => decide (n = 1) && (T.xinits.lookup c).isNone
  | some (_, some _) => decide (n ≤ 100) && (match T.xinits.lookup c with
    | some f => arOk T f (n + 1)
    | none => false)
  | none => false
def excIx (T : Tab) (x : Str) : Option Nat := T.excs.findIdx? fun p => p.1 == x
def cCall (T : Tab) (f : Str) (es' : List E) : Option E := match T.classes.idxOf? f with
    | some c => if newOk T c es'.length = true then some (.new c es') else none
    | none => match excIx T f with
    | some c => if xnewOk T c es'.length = true then some (.xnew c es') else none
    | none => (match T.funs.findIdx? (fun fi => fi.place == (f, none)) with
      | some i => if arOk T i es'.length = true then some (.call i es') else none
      | none => (blt f es'.length).map fun o => .op o es')
/-- a class of exceptions, by its name -/
def xcOf (T : Tab) (sc : Scope) : Expr → Option (Option Nat)
  | .Name x _ => if isGl sc x = false then none else (match excIx T x with
    | some i => some (some i)
    | none => if x = "ValueError" then some none else none)
  | _ => none
def cIsi (T : Tab) (sc : Scope) (f : Expr → Option E) : List Expr → Option E
  | [e, t] => (match f e with
    | none => none
    | some e' => (match tyOf T sc t with
      | some c => some (.op (.isi c) [e'])
      | none => (xcOf T sc t).map fun c => .op (.isx c) [e']))
  | _ => none
def flatE : List (E × E) → List E
  | [] => []
  | p :: r => p.1 :: p.2 :: flatE r
def cPairs (f : Expr → Option E) : List (Option Expr) → List Expr → Option (List (E × E))
  | [], [] => some []
  | some k :: ks, v :: vs => (match f k, f v, cPairs f ks vs with
    | some a, some b, some r => some ((a, b) :: r)
    | _, _, _ => none)
  | _, _ => none
def cDict (f : Expr → Option E) (ks : List (Option Expr)) (vs : List Expr) : Option E := if ks.length ≤ 15 then (cPairs f ks vs).map fun ps => .ddisp (flatE ps) else none
def cMeth (T : Tab) (m : Str) (o' : E) (es' : List E) : Option E := match mth m es'.length with
    | some q => some (.bm q o' es')
    | none => (match T.names.idxOf? m with
        | some i => if methOk T i es'.length = true then some (.meth i o' es') else none
        | none => none)
/-- a call -/
def cCallE (T : Tab) (sc : Scope) (f : Expr → Option E) (es : List Expr) (pos : Pos) : Expr → Option E
  | .Name x _ => if isGl sc x = false then none else
      (match es with
      | [] => none
      | e :: r => if x = "isinstance" then cIsi T sc f (e :: r) else (match cEs f (e :: r) with
        | some es' => cCall T x es'
        | none => none))
  | .Attribute o m apos => if plainRecv o = true ∧ apos.endLine = pos.line ∧ es.length < 20 then (match f o, cEs f es with
    | some o', some es' => cMeth T m o' es'
    | _, _ => none) else none
  | _ => none
/-- X(k = e): a class of exceptions by keyword -/
def cKw (T : Tab) (sc : Scope) (f : Expr → Option E) (fn : Expr) (es : List Expr) (kws : List Keyword) : Option E := match fn, es, kws with
  | .Name x _, [], [⟨some k, e, _⟩] => if isGl sc x = false then none else (match excIx T x with
    | some c => (match T.excs[c]?, T.xinits.lookup c with
      | some (_, some _), some g => (match T.funs[g]? with
        | some fi => if fi.np = 2 ∧ fi.dfl = [] ∧ fi.ps.drop 1 = [k] then (f e).map fun e' => .xnew c [e'] else none
        | none => none)
      | _, _ => none)
    | none => none)
  | _, _, _ => none
def cIc (sc : Scope) (f : Expr → Option E) (tt : Bool) (x : Str) : List Expr → Option It
  | [e] => if isGl sc x = false then none else
    if x = "range" then (f e).map .rng1 else if x = "enumerate" ∧ tt = true then (f e).map .enum else none
  | [e, e2] => if isGl sc x = false then none else (match f e, f e2 with
    | some a, some b => if x = "range" then some (.rng2 a b) else if x = "zip" ∧ tt = true then some (.zip a b) else none
    | _, _ => none)
  | _ => none
def itName : Expr → Option (Str × List Expr)
  | .Call (.Name x _) es [] _ => if x = "range" ∨ x = "enumerate" ∨ x = "zip" then some (x, es) else none
  | _ => none
def cI (sc : Scope) (f : Expr → Option E) (tt : Bool) (e : Expr) : Option It := match itName e with
  | some (x, es) => cIc sc f tt x es
  | none => if notSet e = true then (f e).map .seq else none
def cLc (N : List Str) (sc scope : Scope) (f f' : Expr → Option E) (elt : Expr) : List Comprehension → Option E
  | [⟨tg, it, ifs, 0⟩] => (match cTg N (relS scope sc) (isCell scope) tg, cI sc f (isTupE tg) it, f' elt with
    | some tg', some it', some elt' => if blkC N sc scope (ownOf N (tgSlots tg')) = true then (match ifs with
      | [] => some (.lc (tgSlots tg') tg' it' elt')
      | [t] => (f' t).map fun t' => .lcif (tgSlots tg') tg' it' t' elt'
      | _ => none) else none
    | _, _, _ => none)
  | _ => none
def cE (T : Tab) (N : List Str) : Nat → Scope → Expr → Option E
  | 0, _, _ => none
  | n + 1, sc, e => match e with
    | .Name x _ => cName T N sc x
    | .Constant c _ _ => (cConst c).map .cst
    | .BinOp a o b _ => (match binOp o, cE T N n sc a, cE T N n sc b with
      | some o', some a', some b' => some (.op o' [a', b'])
      | _, _, _ => none)
    | .UnaryOp o a _ => (match o with
      | .Not => (cE T N n sc a).map .not
      | .USub => (cE T N n sc a).map fun a' => .op .neg [a']
      | _ => none)
    | .BoolOp o es _ => (match o with
      | .And => if 2 ≤ es.length then cAnd (cE T N n sc) es else none
      | .Or => if 2 ≤ es.length then cOr (cE T N n sc) es else none)
    | .IfExp t a b _ => (match cE T N n sc t, cE T N n sc a, cE T N n sc b with
      | some t', some a', some b' => some (.ifx t' a' b')
      | _, _, _ => none)
    | .Compare a os bs _ => cCmp (cE T N n sc) a os bs
    | .Tuple es _ _ => (cEs (cE T N n sc) es).map fun es' => .op .tup es'
    | .Dict ks vs _ => cDict (cE T N n sc) ks vs
    | .List es _ => (cEs (cE T N n sc) es).map fun es' => .op .lst es'
    | .Subscript a b _ => cSub (cE T N n sc) a b
    | .Attribute o x _ => cAttr T (cE T N n sc) o x
    | .Call fn es kws pos => if kws.isEmpty = true then cCallE T sc (cE T N n sc) es pos fn else cKw T sc (cE T N n sc) fn es kws
    | .ListComp elt gs scope _ => cLc N sc scope (cE T N n sc) (cE T N n (relS scope sc)) elt gs
    | _ => none
end Z
end
section
set_option linter.all false
set_option maxRecDepth 100000
set_option maxHeartbeats 4000000
namespace Z
open PySem PySem.Spec PyProof.Rows L2

/-! ## what the head tells of a program -/
def PoEx (P : Program) (w : World) (K : PySem.W.Frag) (T : Names) (ρ : List Addr) (H : Hp) (E : XK) : XP := fun x st' => ∀ ρ' H' c dd, Ext ρ ρ' H H' → RelS P w K T ρ' st' H' → RelX K T ρ' H' x c dd → E c dd H'
/-- the promise of the f-th def -/
def spF (P : Program) (w : World) (K : PySem.W.Frag) (T : Names) (C : CallS) (np f : Nat) : Sp := fun vs H Q E => vs.length = np ∧ ∃ ρ ds st, RelS P w K T ρ st H ∧ RelDs K ρ H ds vs ∧ C f ds st (PoE P w K T ρ H Q) (PoEx P w K T ρ H E)
/-- a class of exceptions without fields -/
structure ExcP (K : PySem.W.Frag) (mg : Str → Option Value) (nm : Str) : Prop where
  glo : mg nm = some (.ref (He.ga K nm))
  exc : PySem.W.excIn K (He.ga K nm) He.veBase "ValueError.__new__" = true
  keep : PySem.W.keepIn K (.ref (He.ga K nm)) = true
  sub : PySem.W.subIn K (.ref (He.ga K nm)) (.type "BaseException") = some true
  ty : PySem.W.typeIn K (.ref (He.ga K nm)) = some (.type "type")
/-- a class of exceptions: how its instances are asked -/
structure XcP (K : PySem.W.Frag) (mg : Str → Option Value) (nm : Str) : Prop where
  glo : mg nm = some (.ref (He.ga K nm))
  exc : ExcC K (He.ga K nm)
  xf : XfC K (He.ga K nm)
/-- .. with a field -/
structure XfP (K : PySem.W.Frag) (nm f : Str) : Prop where
  oex : OexC K (He.ga K nm)
  no : PySem.W.findIn K (.ref (He.ga K nm)) f = some none
structure Prog (P : Program) (w : World) (K : PySem.W.Frag) (mg : Str → Option Value) (base : Heap) (T : Tab) (C : CallS) (lev : Nat) : Prop where
  mon : MonC C
  nd : T.names.Nodup
  fn : ∀ (f : Nat) (fi : FunInfo), T.funs[f]? = some fi → ∃ fd, FnOk P w K mg base (L2.CX P w) lev (zAd K fi.place) fd fi.ps (spF P w K T.toNames C fi.np f) ∧
    (∀ n, n ≤ fi.np → fi.np - n ≤ fi.dfl.length → ∃ dvs ds, (∀ ρ H, RelDs K ρ H (fi.dfl.drop (fi.dfl.length - (fi.np - n))) dvs) ∧ Vals dvs ds ∧ Binds K fd fi.ps ds) ∧
    (fi.np = 2 → fi.dfl = [] → KBn K fd fi.ps 1 (fi.ps.drop 1) (fun us ws => us ++ ws) (fun vs zs => vs ++ zs))
  kp : ∀ (f : Nat) (fi : FunInfo), T.funs[f]? = some fi → PySem.W.keepIn K (.ref (zAd K fi.place)) = true
  len : ∀ (f : Nat) (fi : FunInfo), T.funs[f]? = some fi → fi.ps.length = fi.np
  fnG : ∀ (f : Nat) (fi : FunInfo) (x : Str), T.funs[f]? = some fi → fi.place = (x, none) → mg x = some (.ref (zAd K fi.place))
  meth : ∀ (c m f : Nat) (fi : FunInfo) (x nm : Str), T.meths.lookup (c, m) = some f → T.funs[f]? = some fi → T.classes[c]? = some x → T.names[m]? = some nm → Meth K (He.ga K x) nm (zAd K fi.place)
  prop : ∀ (c m f : Nat) (fi : FunInfo) (x nm : Str), T.props.lookup (c, m) = some f → T.funs[f]? = some fi → T.classes[c]? = some x → T.names[m]? = some nm → ∃ p, PropOf K (He.ga K x) nm p (zAd K fi.place)
  init : ∀ (c f : Nat) (fi : FunInfo) (x : Str), T.inits.lookup c = some f → T.funs[f]? = some fi → T.classes[c]? = some x → Mk K (He.ga K x) (zAd K fi.place)
  clsG : ∀ (c : Nat) (x : Str), T.classes[c]? = some x → mg x = some (.ref (He.ga K x)) ∧ Cls K (He.ga K x)
  noat : ∀ (c m : Nat) (x nm : Str), T.classes[c]? = some x → T.names[m]? = some nm → T.props.lookup (c, m) = none → T.meths.lookup (c, m) = none → NoAttr K (He.ga K x) nm
  blt : ∀ x ∈ bltNames, mg x = none
  isi : IsiF K T.toNames
  exc : ∀ (i : Nat) (nm : Str), T.excs[i]? = some (nm, none) → ExcP K mg nm
  exm : ∀ (i j : Nat) (x y : Str × Option Str), T.excs[i]? = some x → T.excs[j]? = some y → PySem.W.exmOne K (.ref (He.ga K x.1)) (.ref (He.ga K y.1)) = some (decide (i = j ∨ j = 0)) ∧ mg y.1 = some (.ref (He.ga K y.1))
  xcl : ∀ (i : Nat) (nm : Str) (fld : Option Str), T.excs[i]? = some (nm, fld) → XcP K mg nm
  xfd : ∀ (i : Nat) (nm f : Str), T.excs[i]? = some (nm, some f) → XfP K nm f
  xin : ∀ (c f : Nat) (fi : FunInfo), T.xinits.lookup c = some f → T.funs[f]? = some fi → ∃ nm fld, T.excs[c]? = some (nm, some fld) ∧ PySem.W.findIn K (.ref (He.ga K nm)) "__init__" = some (some (.ref (zAd K fi.place))) ∧ PySem.W.typeIn K (.ref (zAd K fi.place)) = some (.type "function")
  kox : ∀ (i j : Nat) (x y : Str × Option Str), T.excs[i]? = some x → T.excs[j]? = some y → PySem.W.kitOne K (.ref (He.ga K x.1)) (.ref (He.ga K y.1)) = some (decide (i = j ∨ j = 0))
  kov : ∀ (i : Nat) (x : Str × Option Str), T.excs[i]? = some x → PySem.W.kitOne K (.ref (He.ga K x.1)) (.type "ValueError") = some true
  cst : ∀ (x : Str) (d : D), T.consts.lookup x = some d → ∃ v u, mg x = some u ∧ RelV v u ∧ ∀ ρ H, RelD K ρ H d v
/-- a context of the program -/
structure Gd (X : Cx) (T : Tab) (C : CallS) (N : List Str) (sc : Scope) (W : WX) (lev : Nat) : Prop where
  nm : X.N = N
  sc : X.env.scope = sc
  nd : X.N.Nodup
  calm : X.calm = true
  room : Room (lev + 1) X.A
  tk : Takes X W
  pr : Prog X.prog X.w X.K X.mg X.base T C lev
abbrev TE' (X : Cx) (T : Tab) (C : CallS) (W : WX) (e : E) : TE := tOf X.prog X.w X.K T.toNames W (wE T C e)
abbrev TT' (X : Cx) (T : Tab) (C : CallS) (W : WX) (e : E) : TT := tOfT X.prog X.w X.K T.toNames W (wE T C e)
abbrev TA' (X : Cx) (T : Tab) (C : CallS) (W : WX) (es : List E) : TA := tOfA X.prog X.w X.K T.toNames W (wEs T C es)
section
variable {X : Cx} {T : Tab} {C : CallS} {N : List Str} {sc : Scope} {W : WX} {lev : Nat}
theorem Gd.hu (g : Gd X T C N sc W lev) : X.A.units + 65 < cLine := by have := g.room.un; omega
theorem Gd.hu64 (g : Gd X T C N sc W lev) : X.A.units + 64 < cLine := by have := g.room.un; omega
theorem Gd.mE (g : Gd X T C N sc W lev) (e : E) : MonE (wE T C e) := fun σ st Q Q' X X' h1 h2 p => Z.mE g.pr.mon e σ st Q Q' X X' h1 h2 p
theorem Gd.mEs (g : Gd X T C N sc W lev) (es : List E) : MonA (wEs T C es) := fun σ st Q Q' X X' h1 h2 p => Z.mEs g.pr.mon es σ st Q Q' X X' h1 h2 p
/-- a part, the exceptions told from further up -/
theorem step1 (g : Gd X T C N sc W lev) {ρ ρ0 : List Addr} {H H0 : Hp} {st : Sto} {σD : Loc} {σ : L2.St} {a : E} (r : RelS X.prog X.w X.K T.toNames ρ st H) (s : Sl X.K ρ H σD σ) (e0 : Ext ρ0 ρ H0 H) {R : QE} (p : wE T C a σD st R (PoX X.prog X.w X.K T.toNames ρ0 H0 σ W)) {Q : VK}
    (h : ∀ ρ1 H1 d st1 x, Ext ρ ρ1 H H1 → RelS X.prog X.w X.K T.toNames ρ1 st1 H1 → Sl X.K ρ1 H1 σD σ → RelD X.K ρ1 H1 d x → R d st1 → Q x H1) : TE' X T C W a σ H Q :=
  tOf.step (g.mE a) r s (g.mE a _ _ _ _ _ _ (fun _ _ z => z) (fun x st' z => z.ext e0) p) h
theorem stepT (g : Gd X T C N sc W lev) {ρ ρ0 : List Addr} {H H0 : Hp} {st : Sto} {σD : Loc} {σ : L2.St} {a : E} (r : RelS X.prog X.w X.K T.toNames ρ st H) (s : Sl X.K ρ H σD σ) (e0 : Ext ρ0 ρ H0 H) {Rt Rf : Sto → Prop} (p : wE T C a σD st (fun d st' => bl2 d (Rt st') (Rf st')) (PoX X.prog X.w X.K T.toNames ρ0 H0 σ W)) {Q : Bool → Hp → Prop}
    (h : ∀ ρ1 H1 st1 b, Ext ρ ρ1 H H1 → RelS X.prog X.w X.K T.toNames ρ1 st1 H1 → Sl X.K ρ1 H1 σD σ → (if b = true then Rt st1 else Rf st1) → Q b H1) : TT' X T C W a σ H Q := by
  refine ⟨ρ, σD, st, r, s, g.mE a _ _ _ _ _ _ (fun d st1 hR => ?_) (fun x st' z => z.ext e0) p⟩
  unfold bl2 at hR
  split at hR
  · exact ⟨true, rfl, fun ρ1 H1 e r1 => h ρ1 H1 st1 true e r1 (s.ext e) hR⟩
  · exact ⟨false, rfl, fun ρ1 H1 e r1 => h ρ1 H1 st1 false e r1 (s.ext e) hR⟩
  · exact hR.elim
theorem stepA (g : Gd X T C N sc W lev) {ρ ρ0 : List Addr} {H H0 : Hp} {st : Sto} {σD : Loc} {σ : L2.St} {as : List E} (r : RelS X.prog X.w X.K T.toNames ρ st H) (s : Sl X.K ρ H σD σ) (e0 : Ext ρ0 ρ H0 H) {R : List D → Sto → Prop} (p : wEs T C as σD st R (PoX X.prog X.w X.K T.toNames ρ0 H0 σ W)) {Q : List V → Hp → Prop}
    (h : ∀ ρ1 H1 d st1 x, Ext ρ ρ1 H H1 → RelS X.prog X.w X.K T.toNames ρ1 st1 H1 → Sl X.K ρ1 H1 σD σ → RelDs X.K ρ1 H1 d x → R d st1 → Q x H1) : TA' X T C W as σ H Q :=
  tOfA.step (g.mEs as) r s (g.mEs as _ _ _ _ _ _ (fun _ _ z => z) (fun x st' z => z.ext e0) p) h

/-! ## expressions -/
theorem slot_ok {x : Str} {i : Nat} (h : slot N sc x = some i) : N[i]? = some x ∧ Vis sc x := by
  unfold slot at h
  have key : ∀ {j : Nat}, N.idxOf? x = some j → N[j]? = some x := fun {j} e => by
    have := List.findIdx?_eq_some_iff_getElem.mp (show N.findIdx? (· == x) = some j from e)
    obtain ⟨hj, e2, _⟩ := this
    rw [List.getElem?_eq_getElem hj]
    exact congrArg some (eq_of_beq e2)
  split at h
  · rename_i e; exact ⟨key h, .inl e⟩
  · rename_i e; exact ⟨key h, .inr (.inl e)⟩
  · rename_i e; exact ⟨key h, .inr (.inr e)⟩
  · cases h
theorem gl_ok (g : Gd X T C N sc W lev) {x : Str} (h : isGl sc x = true) : Gl X x ∧ (x == ("__debug__" : Str)) = false ∧ x ≠ "__name__" := by
  unfold isGl at h
  split at h
  · rename_i e
    rw [Bool.and_eq_true] at h
    refine ⟨by show X.env.scope.names.lookup x = _; rw [g.sc]; exact e, ?_, ?_⟩
    · have h1 := h.1
      simpa [bne] using h1
    · have h2 := h.2
      simpa [bne] using h2
  · cases h
theorem q_var (g : Gd X T C N sc W lev) {x : Str} {p : Pos} {i : Nat} (h : slot N sc x = some i) (hd : ¬ (x = "__debug__" ∨ x = "__classdict__")) : PE X (.Name x p) (TE' X T C W (.var i)) := by
  obtain ⟨h1, h2⟩ := slot_ok h
  refine PE.imp (pe_var (i := i) (by rw [g.nm]; exact h1) (by rw [g.sc]; exact h2) (by simpa using fun e => hd (.inl e)) (by simpa using fun e => hd (.inr e))) fun σ H Q q => ?_
  obtain ⟨ρ, σD, st, r, s, q⟩ := q
  unfold wE at q
  split at q
  · rename_i d hs
    obtain ⟨v, h1, h2⟩ := s.at_ i d hs
    exact ⟨v, h1, q.now r h2⟩
  · exact q.elim
theorem q_cst {e : Expr} {d : D} {v : V} (h : PE X e (tC v)) (hv : ∀ ρ H, RelD X.K ρ H d v) : PE X e (TE' X T C W (.cst d)) := by
  refine PE.imp h fun σ H Q q => ?_
  obtain ⟨ρ, σD, st, r, s, q⟩ := q
  unfold wE at q
  exact q.now r (hv ρ H)
/-- two parts, then an operation -/
theorem two_op (g : Gd X T C N sc W lev) {o : Op} {a b : E} {σ : L2.St} {H : Hp} {Q : VK} (q : TE' X T C W (.op o [a, b]) σ H Q) : TE' X T C W a σ H fun x H1 => TE' X T C W b σ H1 fun y H2 => rX2 X T.toNames o x y H2 Q := by
  obtain ⟨ρ, σD, st, r, s, q⟩ := q
  unfold wE wEs wEs wEs at q
  refine step1 g r s .refl q fun ρ1 H1 d st1 x e1 r1 s1 rd q1 => ?_
  refine step1 g r1 s1 e1 q1 fun ρ2 H2 d2 st2 y e2 r2 s2 rd2 q2 => ?_
  exact ⟨ρ2, st2, [d, d2], r2, .cons (rd.ext e2) (.cons rd2 .nil), prim_mono (fun d s z => z.ext (e1.trans e2)) q2⟩
theorem one_op (g : Gd X T C N sc W lev) {o : Op} {a : E} {σ : L2.St} {H : Hp} {Q : VK} (q : TE' X T C W (.op o [a]) σ H Q) : TE' X T C W a σ H fun x H1 => rX X T.toNames o [x] H1 Q := by
  obtain ⟨ρ, σD, st, r, s, q⟩ := q
  unfold wE wEs wEs at q
  refine step1 g r s .refl q fun ρ1 H1 d st1 x e1 r1 s1 rd q1 => ?_
  exact ⟨ρ1, st1, [d], r1, .cons rd .nil, prim_mono (fun d s z => z.ext e1) q1⟩
theorem many_op (g : Gd X T C N sc W lev) {o : Op} {as : List E} {σ : L2.St} {H : Hp} {Q : VK} (q : TE' X T C W (.op o as) σ H Q) : TA' X T C W as σ H fun xs H1 => rX X T.toNames o xs H1 Q := by
  obtain ⟨ρ, σD, st, r, s, q⟩ := q
  unfold wE at q
  refine stepA g r s .refl q fun ρ1 H1 ds st1 xs e1 r1 s1 rd q1 => ?_
  exact ⟨ρ1, st1, ds, r1, rd, prim_mono (fun d s z => z.ext e1) q1⟩
theorem q_bin (g : Gd X T C N sc W lev) {a b : Expr} {a' b' : E} {o : Operator} {o' : Op} {p : Pos} (ho : binOp o = some o') (ha : PE X a (TE' X T C W a')) (hb : PE X b (TE' X T C W b')) : PE X (.BinOp a o b p) (TE' X T C W (.op o' [a', b'])) := by
  cases o <;> cases ho
  · exact PE.imp (pe_op (z_add (T := T.toNames)) ha hb) fun σ H Q q => two_op g q
  · exact PE.imp (pe_op (z_sub (T := T.toNames)) ha hb) fun σ H Q q => two_op g q
  · exact PE.imp (pe_op (z_mul (T := T.toNames)) ha hb) fun σ H Q q => two_op g q
  · exact PE.imp (pe_op (z_mod (T := T.toNames)) ha hb) fun σ H Q q => two_op g q
  · exact PE.imp (pe_op (z_pow (T := T.toNames)) ha hb) fun σ H Q q => two_op g q
  · exact PE.imp (pe_op (z_fdiv (T := T.toNames)) ha hb) fun σ H Q q => two_op g q
theorem notSet_marks {b : Expr} (h : notSet b = true) (op : CmpOp) : behindInMarks op b = false := by
  cases b <;> first | rfl | cases h
theorem cmp_rule (g : Gd X T C N sc W lev) {o : CmpOp} {o' : Op} (ho : cmpOp o = some o') : OpR X (compareOp o) (rX2 X T.toNames o') := by
  cases o <;> cases ho
  · exact z_eq g.hu64
  · exact z_ne g.hu64
  · exact z_lt
  · exact z_le
  · exact z_gt
  · exact z_ge
  · exact z_isN
  · exact z_notN
  · exact z_in g.hu
  · exact z_notin g.hu
theorem q_cmp (g : Gd X T C N sc W lev) {a b : Expr} {a' b' : E} {o : CmpOp} {o' : Op} {p : Pos} (ho : cmpOp o = some o') (hs : notSet b = true) (ha : PE X a (TE' X T C W a')) (hb : PE X b (TE' X T C W b')) : PE X (.Compare a [o] [b] p) (TE' X T C W (.op o' [a', b'])) :=
  PE.imp (pe_cmpR (cmp_rule g ho) ha hb (notSet_marks hs _)) fun σ H Q q => two_op g q
/-- a test's answer -/
theorem two_opT (g : Gd X T C N sc W lev) {o : Op} {a b : E} {σ : L2.St} {H : Hp} {Q : Bool → Hp → Prop} (q : TT' X T C W (.op o [a, b]) σ H Q) : TE' X T C W a σ H fun x H1 => TE' X T C W b σ H1 fun y H2 => rX2 X T.toNames o x y H2 fun v H' => ∃ k, v = .bl k ∧ Q k H' := by
  obtain ⟨ρ, σD, st, r, s, q⟩ := q
  unfold wE wEs wEs wEs at q
  refine step1 g r s .refl q fun ρ1 H1 d st1 x e1 r1 s1 rd q1 => ?_
  refine step1 g r1 s1 e1 q1 fun ρ2 H2 d2 st2 y e2 r2 s2 rd2 q2 => ?_
  refine ⟨ρ2, st2, [d, d2], r2, .cons (rd.ext e2) (.cons rd2 .nil), prim_mono (fun d s z => ?_) q2⟩
  obtain ⟨k, rfl, z⟩ := z
  exact fun ρ3 H3 v e3 r3 rd3 => ⟨k, rd3.bl_, z ρ3 H3 ((e1.trans e2).trans e3) r3⟩
theorem q_cmpT (g : Gd X T C N sc W lev) {a b : Expr} {a' b' : E} {o : CmpOp} {o' : Op} {p : Pos} (ho : cmpOp o = some o') (hs : notSet b = true) (ha : PE X a (TE' X T C W a')) (hb : PE X b (TE' X T C W b')) : PT X (.Compare a [o] [b] p) (TT' X T C W (.op o' [a', b'])) :=
  PT.imp (pt_cmpR (cmp_rule g ho) ha hb (notSet_marks hs _)) fun σ H Q q => two_opT g q
/-- an expression with a bool, as a test -/
theorem val_T {a : E} {σ : L2.St} {H : Hp} {Q : Bool → Hp → Prop} (q : TT' X T C W a σ H Q) (g : Gd X T C N sc W lev) : TE' X T C W a σ H fun x H1 => ∃ k, x = .bl k ∧ Q k H1 := by
  obtain ⟨ρ, σD, st, r, s, q⟩ := q
  refine step1 g r s .refl q fun ρ1 H1 d st1 x e1 r1 s1 rd q1 => ?_
  obtain ⟨k, rfl, z⟩ := q1
  exact ⟨k, rd.bl_, z ρ1 H1 e1 r1⟩
end
end Z
end
section
set_option linter.all false
set_option maxRecDepth 100000
set_option maxHeartbeats 4000000
namespace Z
open PySem PySem.Spec PyProof.Rows L2
section
variable {X : Cx} {T : Tab} {C : CallS} {N : List Str} {sc : Scope} {W : WX} {lev : Nat}
theorem tOf.mono {m : WE} {P : Program} {w : World} {K : PySem.W.Frag} {T : Names} (hm : MonE m) {σ : L2.St} {H : Hp} {Q Q' : VK} (h : ∀ v H', Q v H' → Q' v H') (q : tOf P w K T W m σ H Q) : tOf P w K T W m σ H Q' := by
  obtain ⟨ρ, σD, st, r, s, q⟩ := q
  exact ⟨ρ, σD, st, r, s, hm _ _ _ _ _ _ (fun d st1 z ρ1 H1 v e r1 rd => h _ _ (z ρ1 H1 v e r1 rd)) (fun _ _ z => z) q⟩
theorem bl2_bl {d : D} {t f : Prop} (h : bl2 d t f) : ∃ b, d = .bl b ∧ if b = true then t else f := by
  unfold bl2 at h
  split at h
  · exact ⟨true, rfl, h⟩
  · exact ⟨false, rfl, h⟩
  · exact h.elim
/-- go on in the state as it is -/
theorem contE (g : Gd X T C N sc W lev) {ρ ρ0 : List Addr} {H H0 : Hp} {st : Sto} {σD : Loc} {σ : L2.St} {a : E} (r : RelS X.prog X.w X.K T.toNames ρ st H) (s : Sl X.K ρ H σD σ) (e0 : Ext ρ0 ρ H0 H) {Q : VK}
    (p : wE T C a σD st (PoE X.prog X.w X.K T.toNames ρ0 H0 Q) (PoX X.prog X.w X.K T.toNames ρ0 H0 σ W)) : TE' X T C W a σ H Q :=
  ⟨ρ, σD, st, r, s, g.mE a _ _ _ _ _ _ (fun d st1 z => z.ext e0) (fun x st' z => z.ext e0) p⟩
theorem contT (g : Gd X T C N sc W lev) {ρ ρ0 : List Addr} {H H0 : Hp} {st : Sto} {σD : Loc} {σ : L2.St} {a : E} (r : RelS X.prog X.w X.K T.toNames ρ st H) (s : Sl X.K ρ H σD σ) (e0 : Ext ρ0 ρ H0 H) {Q : Bool → Hp → Prop}
    (p : wE T C a σD st (fun d st' => ∃ b, d = .bl b ∧ ∀ ρ' H', Ext ρ0 ρ' H0 H' → RelS X.prog X.w X.K T.toNames ρ' st' H' → Q b H') (PoX X.prog X.w X.K T.toNames ρ0 H0 σ W)) : TT' X T C W a σ H Q :=
  ⟨ρ, σD, st, r, s, g.mE a _ _ _ _ _ _ (fun d st1 ⟨b, e, z⟩ => ⟨b, e, fun ρ1 H1 e1 => z ρ1 H1 (e0.trans e1)⟩) (fun x st' z => z.ext e0) p⟩
theorem q_and (g : Gd X T C N sc W lev) {a b : Expr} {r : List Expr} {a' b' : E} {p : Pos} (ha : PE X a (TE' X T C W a')) (hb : PE X (.BoolOp .And (b :: r) p) (TE' X T C W b')) : PE X (.BoolOp .And (a :: b :: r) p) (TE' X T C W (.and a' b')) := by
  refine PE.imp (pe_and ha hb) fun σ H Q q => ?_
  obtain ⟨ρ, σD, st, r, s, q⟩ := q
  unfold wE at q
  refine step1 g r s .refl q fun ρ1 H1 d st1 x e1 r1 s1 rd q1 => ?_
  replace q1 := bl2_bl q1; obtain ⟨k, rfl, q1⟩ := q1
  refine ⟨k, rd.bl_, ?_⟩
  cases k with
  | true => rw [if_pos rfl] at q1 ⊢; exact contE g r1 s1 e1 q1
  | false => rw [if_neg Bool.false_ne_true] at q1 ⊢; exact q1 ρ1 H1 _ e1 r1 (.bl _)
theorem q_or (g : Gd X T C N sc W lev) {a b : Expr} {r : List Expr} {a' b' : E} {p : Pos} (ha : PE X a (TE' X T C W a')) (hb : PE X (.BoolOp .Or (b :: r) p) (TE' X T C W b')) : PE X (.BoolOp .Or (a :: b :: r) p) (TE' X T C W (.or a' b')) := by
  refine PE.imp (pe_or ha hb) fun σ H Q q => ?_
  obtain ⟨ρ, σD, st, r, s, q⟩ := q
  unfold wE at q
  refine step1 g r s .refl q fun ρ1 H1 d st1 x e1 r1 s1 rd q1 => ?_
  replace q1 := bl2_bl q1; obtain ⟨k, rfl, q1⟩ := q1
  refine ⟨k, rd.bl_, ?_⟩
  cases k with
  | true => rw [if_pos rfl] at q1 ⊢; exact q1 ρ1 H1 _ e1 r1 (.bl _)
  | false => rw [if_neg Bool.false_ne_true] at q1 ⊢; exact contE g r1 s1 e1 q1
theorem q_not (g : Gd X T C N sc W lev) {a : Expr} {a' : E} {p : Pos} (ha : PE X a (TE' X T C W a')) : PE X (.UnaryOp .Not a p) (TE' X T C W (.not a')) := by
  refine PE.imp (pe_not ha) fun σ H Q q => ?_
  obtain ⟨ρ, σD, st, r, s, q⟩ := q
  unfold wE at q
  refine step1 g r s .refl q fun ρ1 H1 d st1 x e1 r1 s1 rd q1 => ?_
  replace q1 := bl2_bl q1; obtain ⟨k, rfl, q1⟩ := q1
  refine ⟨k, rd.bl_, ?_⟩
  cases k with
  | true => rw [if_pos rfl] at q1; exact q1 ρ1 H1 _ e1 r1 (.bl _)
  | false => rw [if_neg Bool.false_ne_true] at q1; exact q1 ρ1 H1 _ e1 r1 (.bl _)
theorem q_ifx (g : Gd X T C N sc W lev) {t a b : Expr} {t' a' b' : E} {p : Pos} (ht : PT X t (TT' X T C W t')) (ha : PE X a (TE' X T C W a')) (hb : PE X b (TE' X T C W b')) : PE X (.IfExp t a b p) (TE' X T C W (.ifx t' a' b')) := by
  refine PE.imp (pe_ifExp ht ha hb) fun σ H Q q => ?_
  obtain ⟨ρ, σD, st, r, s, q⟩ := q
  unfold wE at q
  refine stepT g r s .refl q fun ρ1 H1 st1 k e1 r1 s1 q1 => ?_
  cases k with
  | true => rw [if_pos rfl] at q1 ⊢; exact contE g r1 s1 e1 q1
  | false => rw [if_neg Bool.false_ne_true] at q1 ⊢; exact contE g r1 s1 e1 q1
theorem notSet_last {b c : Expr} (h : notSet c = true) (o1 o2 : CmpOp) : lastMarks [o1, o2] [b, c] = false := by
  show lastMarks [o2] [c] = false
  exact notSet_marks h o2
theorem chain_op (g : Gd X T C N sc W lev) {o1 o2 : Op} {a b c : E} {σ : L2.St} {H : Hp} {Q : VK} (q : TE' X T C W (.chain o1 o2 a b c) σ H Q) : tChain (rX2 X T.toNames o1) (rX2 X T.toNames o2) (TE' X T C W a) (TE' X T C W b) (TE' X T C W c) σ H fun v H' => ∃ k, v = .bl k ∧ Q v H' := by
  obtain ⟨ρ, σD, st, r, s, q⟩ := q
  unfold wE at q
  refine step1 g r s .refl q fun ρ1 H1 d st1 x e1 r1 s1 rd q1 => ?_
  refine step1 g r1 s1 e1 q1 fun ρ2 H2 d2 st2 y e2 r2 s2 rd2 q2 => ?_
  refine ⟨ρ2, st2, [d, d2], r2, .cons (rd.ext e2) (.cons rd2 .nil), prim_mono (fun z st3 q3 => ?_) q2⟩
  replace q3 := bl2_bl q3; obtain ⟨k, rfl, q3⟩ := q3
  intro ρ3 H3 v e3 r3 rd3
  refine ⟨k, rd3.bl_, ?_⟩
  have s3 := s2.ext e3
  have e13 := (e1.trans e2).trans e3
  cases k with
  | false => rw [if_neg Bool.false_ne_true] at q3 ⊢; exact ⟨false, rfl, q3 ρ3 H3 _ e13 r3 (.bl _)⟩
  | true =>
    rw [if_pos rfl] at q3 ⊢
    refine step1 g r3 s3 e13 q3 fun ρ4 H4 d4 st4 z e4 r4 s4 rd4 q4 => ?_
    refine ⟨ρ4, st4, [d2, d4], r4, .cons ((rd2.ext e3).ext e4) (.cons rd4 .nil), prim_mono (fun z st5 q5 => ?_) q4⟩
    replace q5 := bl2_bl q5; obtain ⟨k', rfl, q5⟩ := q5
    intro ρ5 H5 v5 e5 r5 rd5
    refine ⟨k', rd5.bl_, ?_⟩
    have := rd5.bl_
    subst this
    cases k' with
    | true => rw [if_pos rfl] at q5; exact q5 ρ5 H5 _ ((e13.trans e4).trans e5) r5 (.bl _)
    | false => rw [if_neg Bool.false_ne_true] at q5; exact q5 ρ5 H5 _ ((e13.trans e4).trans e5) r5 (.bl _)
theorem tChain.mono (g : Gd X T C N sc W lev) {o1 o2 : Op} {a b c : E} {σ : L2.St} {H : Hp} {Q Q' : VK} (h : ∀ v H', Q v H' → Q' v H') (q : tChain (rX2 X T.toNames o1) (rX2 X T.toNames o2) (TE' X T C W a) (TE' X T C W b) (TE' X T C W c) σ H Q) :
    tChain (rX2 X T.toNames o1) (rX2 X T.toNames o2) (TE' X T C W a) (TE' X T C W b) (TE' X T C W c) σ H Q' := by
  have rm : ∀ {o : Op} {x y : V} {H : Hp} {Q Q' : VK}, (∀ v H', Q v H' → Q' v H') → rX2 X T.toNames o x y H Q → rX2 X T.toNames o x y H Q' := fun {o x y H Q Q'} h ⟨ρ, st, ds, r, rd, p⟩ =>
    ⟨ρ, st, ds, r, rd, prim_mono (fun d s z ρ1 H1 v e r1 rd1 => h _ _ (z ρ1 H1 v e r1 rd1)) p⟩
  refine tOf.mono (g.mE a) (fun x H1 q => tOf.mono (g.mE b) (fun y H2 q => rm (fun z H3 q => ?_) q) q) q
  obtain ⟨k, e, q⟩ := q
  refine ⟨k, e, ?_⟩
  cases k with
  | false => rw [if_neg Bool.false_ne_true] at q ⊢; exact h _ _ q
  | true => rw [if_pos rfl] at q ⊢; exact tOf.mono (g.mE c) (fun w' H4 q => rm h q) q
theorem q_chain (g : Gd X T C N sc W lev) {a b c : Expr} {a' b' c' : E} {o1 o2 : CmpOp} {o1' o2' : Op} {p : Pos} (h1 : cmpOp o1 = some o1') (h2 : cmpOp o2 = some o2') (hs : notSet c = true) (ha : PE X a (TE' X T C W a')) (hb : PE X b (TE' X T C W b')) (hc : PE X c (TE' X T C W c')) :
    PE X (.Compare a [o1, o2] [b, c] p) (TE' X T C W (.chain o1' o2' a' b' c')) :=
  PE.imp (pe_chain (cmp_rule g h1) (cmp_rule g h2) ha hb hc (notSet_last hs _ _)) fun σ H Q q => tChain.mono g (fun v H' ⟨k, e, z⟩ => z) (chain_op g q)
theorem q_chainT (g : Gd X T C N sc W lev) {a b c : Expr} {a' b' c' : E} {o1 o2 : CmpOp} {o1' o2' : Op} {p : Pos} (h1 : cmpOp o1 = some o1') (h2 : cmpOp o2 = some o2') (hs : notSet c = true) (ha : PE X a (TE' X T C W a')) (hb : PE X b (TE' X T C W b')) (hc : PE X c (TE' X T C W c')) :
    PT X (.Compare a [o1, o2] [b, c] p) (TT' X T C W (.chain o1' o2' a' b' c')) := by
  refine PT.imp (pt_chain (cmp_rule g h1) (cmp_rule g h2) ha hb hc (notSet_last hs _ _)) fun σ H Q q => ?_
  have q2 : TE' X T C W (.chain o1' o2' a' b' c') σ H fun v H' => ∃ k, v = .bl k ∧ Q k H' := val_T q g
  exact tChain.mono g (fun v H' ⟨k, e, z⟩ => z) (chain_op g q2)
/-! tests -/
theorem q_andT (g : Gd X T C N sc W lev) {a b : Expr} {r : List Expr} {a' b' : E} {p : Pos} (ha : PT X a (TT' X T C W a')) (hb : PW X (.BoolOp .And (b :: r) p) (TT' X T C W b')) : PW X (.BoolOp .And (a :: b :: r) p) (TT' X T C W (.and a' b')) := by
  refine ⟨fun wh pins s σ H Q I q => (pw_and ha hb).run wh pins s σ H Q I ?_⟩
  obtain ⟨ρ, σD, st, r, s, q⟩ := q
  unfold wE at q
  refine stepT g r s .refl q fun ρ1 H1 st1 k e1 r1 s1 q1 => ?_
  cases k with
  | true => rw [if_pos rfl] at q1 ⊢; exact contT g r1 s1 e1 q1
  | false =>
    rw [if_neg Bool.false_ne_true] at q1 ⊢
    obtain ⟨b, e, z⟩ := q1
    cases e
    exact z ρ1 H1 e1 r1
theorem q_orT (g : Gd X T C N sc W lev) {a b : Expr} {r : List Expr} {a' b' : E} {p : Pos} (ha : PT X a (TT' X T C W a')) (hb : PW X (.BoolOp .Or (b :: r) p) (TT' X T C W b')) : PW X (.BoolOp .Or (a :: b :: r) p) (TT' X T C W (.or a' b')) := by
  refine ⟨fun wh pins s σ H Q I q => (pw_or ha hb).run wh pins s σ H Q I ?_⟩
  obtain ⟨ρ, σD, st, r, s, q⟩ := q
  unfold wE at q
  refine stepT g r s .refl q fun ρ1 H1 st1 k e1 r1 s1 q1 => ?_
  cases k with
  | false => rw [if_neg Bool.false_ne_true] at q1 ⊢; exact contT g r1 s1 e1 q1
  | true =>
    rw [if_pos rfl] at q1 ⊢
    obtain ⟨b, e, z⟩ := q1
    cases e
    exact z ρ1 H1 e1 r1
theorem q_notT (g : Gd X T C N sc W lev) {a : Expr} {a' : E} {p : Pos} (ha : PT X a (TT' X T C W a')) : PT X (.UnaryOp .Not a p) (TT' X T C W (.not a')) := by
  refine PT.imp (pt_not ha) fun σ H Q q => ?_
  obtain ⟨ρ, σD, st, r, s, q⟩ := q
  unfold wE at q
  refine stepT g r s .refl q fun ρ1 H1 st1 k e1 r1 s1 q1 => ?_
  cases k with
  | false =>
    rw [if_neg Bool.false_ne_true] at q1
    obtain ⟨b, e, z⟩ := q1
    cases e
    exact z ρ1 H1 e1 r1
  | true =>
    rw [if_pos rfl] at q1
    obtain ⟨b, e, z⟩ := q1
    cases e
    exact z ρ1 H1 e1 r1
theorem q_val (g : Gd X T C N sc W lev) {e : Expr} {e' : E} (h : PE X e (TE' X T C W e')) (he : ∀ whole, isTrue e X.env whole = (do let v ← whole; standAt e.pos; holding [v] (truthy v))) : PT X e (TT' X T C W e') :=
  PT.imp (pt_val h he) fun σ H Q q => val_T q g
/-! displays, subscripts, slices -/
theorem q_tup (g : Gd X T C N sc W lev) {es : List Expr} {es' : List E} {k : Nat} {p : Pos} (h : PA X es (TA' X T C W es')) : PE X (.Tuple es k p) (TE' X T C W (.op .tup es')) := by
  refine PE.imp (pe_tup h) fun σ H Q q => ?_
  obtain ⟨ρ, σD, st, r, s, q⟩ := q
  unfold wE at q
  refine stepA g r s .refl q fun ρ1 H1 ds st1 xs e1 r1 s1 rd q1 => ?_
  obtain ⟨d, st', hp, q1⟩ := prim_some q1
  unfold primF pTup tupD at hp
  simp only at hp
  split at hp
  · rename_i hz
    cases hp
    exact ⟨by rw [← rd.len]; exact hz, fun p hp => (q1.ext e1).newT r1 rd hp⟩
  · cases hp
theorem q_lst (g : Gd X T C N sc W lev) {es : List Expr} {es' : List E} {p : Pos} (h : PA X es (TA' X T C W es')) : PE X (.List es p) (TE' X T C W (.op .lst es')) := by
  refine PE.imp (pe_lst h) fun σ H Q q => ?_
  obtain ⟨ρ, σD, st, r, s, q⟩ := q
  unfold wE at q
  refine stepA g r s .refl q fun ρ1 H1 ds st1 xs e1 r1 s1 rd q1 => ?_
  obtain ⟨d, st', hp, q1⟩ := prim_some q1
  unfold primF pLst at hp
  simp only at hp
  obtain ⟨hz, rfl, rfl⟩ := newL_some hp
  exact ⟨by rw [← rd.len]; exact hz, fun p hp => (q1.ext e1).newL r1 rd hp⟩
theorem plainIx {b : Expr} (h : isSlice b = false) : PlainIx b := fun o i => by
  cases b <;> first | rfl | cases h
theorem q_ix (g : Gd X T C N sc W lev) {a b : Expr} {a' b' : E} {p : Pos} (hs : isSlice b = false) (ha : PE X a (TE' X T C W a')) (hb : PE X b (TE' X T C W b')) : PE X (.Subscript a b p) (TE' X T C W (.op .ix [a', b'])) :=
  PE.imp (pe_ix (z_ix g.hu) ha hb (plainIx hs)) fun σ H Q q => two_op g q
theorem q_neg (g : Gd X T C N sc W lev) {a : Expr} {a' : E} {p : Pos} (ha : PE X a (TE' X T C W a')) : PE X (.UnaryOp .USub a p) (TE' X T C W (.op .neg [a'])) :=
  PE.imp (pe_un (z_neg (T := T.toNames)) ha) fun σ H Q q => one_op g q
end
end Z
end
section
set_option linter.all false
set_option maxRecDepth 100000
set_option maxHeartbeats 4000000
namespace Z
open PySem PySem.Spec PyProof.Rows L2
section
variable {X : Cx} {T : Tab} {C : CallS} {N : List Str} {sc : Scope} {W : WX} {lev : Nat}
/-! ### slices -/
def rSlZ (X : Cx) (T : Names) : V → Option Int → Option Int → Hp → VK → Prop := fun x lo hi H Q => ∃ ρ st d d' st', RelS X.prog X.w X.K T ρ st H ∧ RelD X.K ρ H d x ∧ slD d lo hi st = some (d', st') ∧ PoE X.prog X.w X.K T ρ H Q d' st'
theorem RelDs.cut {ρ : List Addr} {H : Hp} {l : List D} {vs : List V} (h : RelDs X.K ρ H l vs) (lo hi : Option Int) : RelDs X.K ρ H (cutD l lo hi) (cutV vs lo hi) := by
  unfold cutD cutV
  rw [h.len]
  exact (h.drop _).take _
theorem z_sl {T : Names} : SlR X (rSlZ X T) := by
  intro pins s σ H x v vl vu lo hi sl Q I rx hs pl pu h
  obtain ⟨ρ, st, d, d', st', r, rd, hp, q⟩ := h
  unfold slD at hp
  split at hp
  · rename_i l
    cases hp
    obtain ⟨a, vs, rfl, h1, h2⟩ := id rd.tup_
    refine sl_tupA pins s σ H _ v vl vu lo hi sl Q I rx hs pl pu ⟨a, vs, rfl, h1, fun hw => ?_, fun hw p hp => q.newT r (h2.cut lo hi) hp⟩
    have e : cutD l lo hi = l := by
      unfold cutD
      rw [h2.len, hw.1, hw.2, List.drop_zero, Nat.sub_zero, ← h2.len, List.take_length]
    rw [e] at q
    exact q.now r rd
  · rename_i l
    obtain ⟨_, rfl, rfl⟩ := newL_some hp
    obtain ⟨a, vs, rfl, h1, h2⟩ := rd.fro_
    exact sl_list pins s σ H _ v vl vu lo hi sl Q I rx hs pl pu ⟨a, vs, rfl, h1.sq, fun p hp => q.newL r (h2.cut lo hi) hp⟩
  · split at hp
    · rename_i hz
      cases hp
      cases rd.str_
      exact sl_str pins s σ H _ v vl vu lo hi sl Q I rx hs pl pu ⟨_, rfl, hz, q.now r (.str _)⟩
    · cases hp
  · split at hp
    · rename_i l hl
      obtain ⟨_, rfl, rfl⟩ := newL_some hp
      obtain ⟨a, vs, rfl, _, h1, h2⟩ := lst_at r rd (lstAt_some hl)
      exact sl_list pins s σ H _ v vl vu lo hi sl Q I rx hs pl pu ⟨a, vs, rfl, .of h1, fun p hp => q.newL r (h2.cut lo hi) hp⟩
    · cases hp
  · cases hp
theorem q_sl0 (g : Gd X T C N sc W lev) {a : Expr} {a' : E} {p p2 : Pos} (ha : PE X a (TE' X T C W a')) : PE X (.Subscript a (.Slice none none none p2) p) (TE' X T C W (.op (.sl false false) [a'])) := by
  refine PE.imp (pe_slice (z_sl (T := T.toNames)) ha po_none po_none) fun σ H Q q => ?_
  obtain ⟨ρ, σD, st, r, s, q⟩ := q
  unfold wE wEs wEs at q
  refine step1 g r s .refl q fun ρ1 H1 d st1 x e1 r1 s1 rd q1 => ?_
  obtain ⟨d', st', hp, q1⟩ := prim_some q1
  exact ⟨ρ1, st1, d, d', st', r1, rd, hp, q1.ext e1⟩
theorem slParts_int {lo hi : Bool} {ds : List D} {o : Option Int × Option Int} (h : slParts lo hi ds = some o) : ∀ d ∈ ds, ∃ i, d = .int i := by
  unfold slParts at h
  split at h <;> first | (intro d hd; simp at hd; done) | (intro d hd; simp at hd; first | exact ⟨_, hd⟩ | (rcases hd with e | e <;> exact ⟨_, e⟩)) | cases h
theorem q_slL (g : Gd X T C N sc W lev) {a b : Expr} {a' b' : E} {p p2 : Pos} (ha : PE X a (TE' X T C W a')) (hb : PE X b (TE' X T C W b')) : PE X (.Subscript a (.Slice (some b) none none p2) p) (TE' X T C W (.op (.sl true false) [a', b'])) := by
  refine PE.imp (pe_slice (z_sl (T := T.toNames)) ha (po_some hb) po_none) fun σ H Q q => ?_
  obtain ⟨ρ, σD, st, r, s, q⟩ := q
  unfold wE wEs wEs wEs at q
  refine step1 g r s .refl q fun ρ1 H1 d st1 x e1 r1 s1 rd q1 => ?_
  refine step1 g r1 s1 e1 q1 fun ρ2 H2 d2 st2 y e2 r2 s2 rd2 q2 => ?_
  obtain ⟨d', st', hp, q3⟩ := prim_some q2
  have hp : (match slParts true false [d2] with | some p => slD d p.1 p.2 st2 | none => none) = some (d', st') := hp
  cases hs : slParts true false [d2] with
  | none => rw [hs] at hp; cases hp
  | some o =>
    obtain ⟨i, rfl⟩ := slParts_int hs d2 (by simp)
    exact ⟨i, rd2.int_, ρ2, st2, d, d', st', r2, rd.ext e2, hp, q3.ext (e1.trans e2)⟩
theorem q_slR (g : Gd X T C N sc W lev) {a b : Expr} {a' b' : E} {p p2 : Pos} (ha : PE X a (TE' X T C W a')) (hb : PE X b (TE' X T C W b')) : PE X (.Subscript a (.Slice none (some b) none p2) p) (TE' X T C W (.op (.sl false true) [a', b'])) := by
  refine PE.imp (pe_slice (z_sl (T := T.toNames)) ha po_none (po_some hb)) fun σ H Q q => ?_
  obtain ⟨ρ, σD, st, r, s, q⟩ := q
  unfold wE wEs wEs wEs at q
  refine step1 g r s .refl q fun ρ1 H1 d st1 x e1 r1 s1 rd q1 => ?_
  show TE' X T C W b' σ H1 _
  refine step1 g r1 s1 e1 q1 fun ρ2 H2 d2 st2 y e2 r2 s2 rd2 q2 => ?_
  obtain ⟨d', st', hp, q3⟩ := prim_some q2
  have hp : (match slParts false true [d2] with | some p => slD d p.1 p.2 st2 | none => none) = some (d', st') := hp
  cases hs : slParts false true [d2] with
  | none => rw [hs] at hp; cases hp
  | some o =>
    obtain ⟨i, rfl⟩ := slParts_int hs d2 (by simp)
    exact ⟨i, rd2.int_, ρ2, st2, d, d', st', r2, rd.ext e2, hp, q3.ext (e1.trans e2)⟩
theorem q_slB (g : Gd X T C N sc W lev) {a b c : Expr} {a' b' c' : E} {p p2 : Pos} (ha : PE X a (TE' X T C W a')) (hb : PE X b (TE' X T C W b')) (hc : PE X c (TE' X T C W c')) : PE X (.Subscript a (.Slice (some b) (some c) none p2) p) (TE' X T C W (.slB a' b' c')) := by
  refine PE.imp (pe_slice (z_sl (T := T.toNames)) ha (po_some hb) (po_some hc)) fun σ H Q q => ?_
  obtain ⟨ρ, σD, st, r, s, q⟩ := q
  unfold wE at q
  refine step1 g r s .refl q fun ρ1 H1 d st1 x e1 r1 s1 rd q1 => ?_
  refine step1 g r1 s1 e1 q1 fun ρ2 H2 d2 st2 y e2 r2 s2 rd2 q2 => ?_
  split at q2
  · rename_i i
    refine ⟨i, rd2.int_, ?_⟩
    refine step1 g r2 s2 (e1.trans e2) q2 fun ρ3 H3 d3 st3 z e3 r3 s3 rd3 q3 => ?_
    obtain ⟨d', st', hp, q4⟩ := prim_some q3
    have hp : (match slParts true true [.int i, d3] with | some p => slD d p.1 p.2 st3 | none => none) = some (d', st') := hp
    cases hs : slParts true true [.int i, d3] with
    | none => rw [hs] at hp; cases hp
    | some o =>
      obtain ⟨j, rfl⟩ := slParts_int hs d3 (by simp)
      exact ⟨j, rd3.int_, ρ3, st3, d, d', st', r3, (rd.ext e2).ext e3, hp, q4.ext ((e1.trans e2).trans e3)⟩
  · exact q2.elim
/-! ### arguments -/
theorem q_nil : PA X [] (TA' X T C W []) := by
  refine PA.imp pa_nil fun σ H Q q => ?_
  obtain ⟨ρ, σD, st, r, s, q⟩ := q
  unfold wEs at q
  exact q ρ H [] .refl r .nil
theorem q_cons (g : Gd X T C N sc W lev) {e : Expr} {es : List Expr} {e' : E} {es' : List E} (h : PE X e (TE' X T C W e')) (t : PA X es (TA' X T C W es')) (hs : starEach (e :: es) X.env = (false, eval e X.env) :: starEach es X.env) : PA X (e :: es) (TA' X T C W (e' :: es')) := by
  refine PA.imp (pa_cons h t hs) fun σ H Q q => ?_
  obtain ⟨ρ, σD, st, r, s, q⟩ := q
  unfold wEs at q
  refine step1 g r s .refl q fun ρ1 H1 d st1 x e1 r1 s1 rd q1 => ?_
  refine stepA g r1 s1 e1 q1 fun ρ2 H2 ds st2 xs e2 r2 s2 rds q2 => ?_
  exact q2 ρ2 H2 _ (e1.trans e2) r2 (.cons (rd.ext e2) rds)
/-! ### calls -/
theorem boot_rules (g : Gd X T C N sc W lev) {x : Str} {n : Nat} {o : Op} (h : blt x n = some o) :
    (∃ id, bootBuiltins x = some (.builtin id) ∧ CallR X (.builtin id) (rX X T.toNames o)) ∨ (∃ y, bootBuiltins x = some (.type y) ∧ CallR X (.type y) (rX X T.toNames o)) := by
  unfold blt at h
  split at h
  · rename_i e; cases h; rw [e.1]; exact .inl ⟨"len", by decide +kernel, z_len⟩
  split at h
  · rename_i e; cases h; rw [e.1]; exact .inl ⟨"abs", by decide +kernel, z_abs⟩
  split at h
  · rename_i e; cases h; rw [e.1]; exact .inr ⟨"int", by decide +kernel, z_int⟩
  split at h
  · rename_i e; cases h; rw [e.1]; exact .inl ⟨"min", by decide +kernel, z_min2 g.calm⟩
  split at h
  · rename_i e; cases h; rw [e.1]; exact .inl ⟨"max", by decide +kernel, z_max2 g.calm⟩
  split at h
  · rename_i e; cases h; rw [e.1]; exact .inl ⟨"all", by decide +kernel, z_all g.calm⟩
  split at h
  · rename_i e; cases h; rw [e.1]; exact .inl ⟨"any", by decide +kernel, z_any g.calm⟩
  split at h
  · rename_i e; cases h; rw [e.1]; exact .inl ⟨"sum", by decide +kernel, z_sum g.calm⟩
  split at h
  · rename_i e; cases h; rw [e.1]; exact .inr ⟨"tuple", by decide +kernel, z_tupOf⟩
  split at h
  · rename_i e; cases h; rw [e.1]; exact .inr ⟨"list", by decide +kernel, z_lstOf⟩
  cases h
theorem blt_mem {x : Str} {n : Nat} {o : Op} (h : blt x n = some o) : x ∈ bltNames := by
  unfold blt at h
  iterate 10 (split at h; (rename_i e; rw [e.1]; decide +kernel))
  cases h
theorem noStar {es : List Expr} {env : Env} (h : ∀ e ∈ es, (match e with | .Starred _ _ => false | _ => true) = true) : starEach es env = es.map fun e => (false, eval e env) := by
  induction es with
  | nil => rfl
  | cons e es ih =>
    have h1 := h e (List.mem_cons_self ..)
    have h2 := ih fun x hx => h x (List.mem_cons_of_mem _ hx)
    rw [List.map_cons, ← h2]
    cases e <;> first | rfl | cases h1
theorem back_plain {es : List Expr} {env : Env} {p : Pos} (h : ∀ e ∈ es, (match e with | .Starred _ _ => false | _ => true) = true) : (backTo p (starEach es env)).any (·.1) = false := by
  rw [noStar h]
  unfold backTo
  rw [List.map_map, List.any_map]
  exact List.any_eq_false.mpr fun x _ => by simp
theorem q_blt (g : Gd X T C N sc W lev) {x : Str} {e : Expr} {es : List Expr} {es' : List E} {o : Op} {p pos : Pos} (hg : isGl sc x = true) (ho : blt x es'.length = some o) (hst : ∀ y ∈ e :: es, (match y with | .Starred _ _ => false | _ => true) = true) (ha : PA X (e :: es) (TA' X T C W es')) :
    PE X (.Call (.Name x p) (e :: es) [] pos) (TE' X T C W (.op o es')) := by
  obtain ⟨h1, h2, h3⟩ := gl_ok g hg
  have hs : starEach (e :: es) X.env = (false, eval e X.env) :: starEach es X.env := by rw [noStar hst, noStar fun y hy => hst y (List.mem_cons_of_mem _ hy)]; rfl
  have hp : (backTo pos (starEach es X.env)).any (·.1) = false := back_plain fun y hy => hst y (List.mem_cons_of_mem _ hy)
  rcases boot_rules g ho with ⟨id, hb, hc⟩ | ⟨y, hb, hc⟩
  · exact PE.imp (pe_callB hc h1 (g.pr.blt x (blt_mem ho)) hb ha h3 h2 hs hp) fun σ H Q q => many_op g q
  · exact PE.imp (pe_callTy hc h1 (g.pr.blt x (blt_mem ho)) hb ha h3 h2 hs hp) fun σ H Q q => many_op g q
end
end Z
end
section
set_option linter.all false
set_option maxRecDepth 100000
set_option maxHeartbeats 4000000
namespace Z
open PySem PySem.Spec PyProof.Rows L2
abbrev plainArgs (es : List Expr) : Prop := ∀ y ∈ es, (match y with | .Starred _ _ => false | _ => true) = true
theorem plain_base {o : Expr} (h : plainRecv o = true) (m : Str) (env : Env) : attributeBase o m env (eval o env) = eval o env := by
  cases o with
  | Call f args kws pos =>
    cases f with
    | Name x p =>
      cases args with
      | nil => cases kws with
        | nil => cases h
        | cons _ _ => rfl
      | cons _ _ => cases kws <;> rfl
    | _ => rfl
  | _ => rfl
theorem plain_cons {e : Expr} {es : List Expr} (h : plainArgs (e :: es)) (env : Env) : starEach (e :: es) env = (false, eval e env) :: starEach es env := by
  rw [noStar h, noStar fun y hy => h y (List.mem_cons_of_mem _ hy)]
  rfl
theorem meth_form {es : List Expr} (h : plainArgs es) (hl : es.length < 20) (env : Env) (p : Pos) : ((backTo p (starEach es env)).all (fun x => !x.1) && (backToKw p (keywordEach [] env)).all (fun x => x.1.isSome) && decide (es.length + ([] : List Keyword).length + (if ([] : List Keyword).isEmpty then 0 else 1) < 30)) = true := by
  rw [noStar h]
  unfold backTo
  rw [List.map_map]
  have h1 : (es.map ((fun x : Bool × Sem Value => (x.1, if x.1 = true then do let v ← x.2; standAt p; pure v else x.2)) ∘ fun e => (false, eval e env))).all (fun x => !x.1) = true := by
    rw [List.all_map]
    exact List.all_eq_true.mpr fun x _ => rfl
  have h2 : decide (es.length + ([] : List Keyword).length + (if ([] : List Keyword).isEmpty then 0 else 1) < 30) = true := decide_eq_true (by simp; omega)
  rw [Bool.and_eq_true, Bool.and_eq_true]
  exact ⟨⟨h1, rfl⟩, h2⟩
theorem meth_eval {o : Expr} {m : Str} {apos pos : Pos} {es : List Expr} {env : Env} (hr : plainRecv o = true) (h : plainArgs es) (hl : es.length < 20) (hline : apos.endLine = pos.line) :
    eval (.Call (.Attribute o m apos) es [] pos) env = (do
      let ov ← eval o env
      standAt apos.atName
      let (f, first) ← holding [ov] (getMethod ov m (do return (← importBound o env).getD true))
      callWith pos f first (backTo pos (starEach es env)) (backToKw pos (keywordEach [] env))) := by
  rw [arm_eval_Call, plain_base hr]
  have hf : methodCallForm (es.length + ([] : List Keyword).length) (backTo pos (starEach es env)) (backToKw pos (keywordEach [] env)) = true := meth_form h hl env pos
  congr 1
  funext ov
  congr 1
  funext _
  unfold methodCall
  rw [hf]
  unfold calleeOf methodCallPos
  simp only [if_true, Bool.not_true, Bool.false_or, hline, beq_self_eq_true]
  congr 1
section
variable {X : Cx} {T : Tab} {C : CallS} {N : List Str} {sc : Scope} {W : WX} {lev : Nat}
/-- isinstance(e, c) -/
theorem ty_ok (g : Gd X T C N sc W lev) {t : Expr} {c : Ty} (h : tyOf T sc t = some c) : ∃ cv cu, PE X t (tC cv) ∧ clsU X.K T.toNames c cu ∧ ∀ z, RelV cv z → z = cu := by
  unfold tyOf at h
  split at h
  · rename_i x p
    split at h
    · rename_i hg
      obtain ⟨h1, h2, h3⟩ := gl_ok g hg
      have mem : ∀ y : Str, y ∈ bltNames → X.mg y = none := g.pr.blt
      split at h
      · rename_i e; cases h; subst e; exact ⟨.ty "int", .type "int", pe_bltn h1 (mem _ (by decide +kernel)) (by decide +kernel) rfl h3 h2, rfl, fun z r => r⟩
      split at h
      · rename_i e; cases h; subst e; exact ⟨.ty "bool", .type "bool", pe_bltn h1 (mem _ (by decide +kernel)) (by decide +kernel) rfl h3 h2, rfl, fun z r => r⟩
      split at h
      · rename_i e; cases h; subst e; exact ⟨.ty "str", .type "str", pe_bltn h1 (mem _ (by decide +kernel)) (by decide +kernel) rfl h3 h2, rfl, fun z r => r⟩
      split at h
      · rename_i e; cases h; subst e; exact ⟨.ty "tuple", .type "tuple", pe_bltn h1 (mem _ (by decide +kernel)) (by decide +kernel) rfl h3 h2, rfl, fun z r => r⟩
      split at h
      · rename_i e; cases h; subst e; exact ⟨.ty "list", .type "list", pe_bltn h1 (mem _ (by decide +kernel)) (by decide +kernel) rfl h3 h2, rfl, fun z r => r⟩
      split at h
      · rename_i e; cases h; subst e; exact ⟨.ty "dict", .type "dict", pe_bltn h1 (mem _ (by decide +kernel)) (by decide +kernel) rfl h3 h2, rfl, fun z r => r⟩
      cases hi : T.classes.idxOf? x with
      | none => rw [hi] at h; cases h
      | some k =>
        rw [hi] at h
        cases h
        have hk : T.classes[k]? = some x := by
          obtain ⟨hj, e2, _⟩ := List.findIdx?_eq_some_iff_getElem.mp (show T.classes.findIdx? (· == x) = some k from hi)
          rw [List.getElem?_eq_getElem hj]
          exact congrArg some (eq_of_beq e2)
        exact ⟨.ref (He.ga X.K x), .ref (He.ga X.K x), pe_glob h1 (g.pr.clsG k x hk).1 rfl h2, ⟨x, hk, rfl⟩, fun z r => r⟩
    · cases h
  · cases h
theorem q_isi (g : Gd X T C N sc W lev) {e t : Expr} {e' : E} {c : Ty} {p pos : Pos} (hg : isGl sc "isinstance" = true) (hc : tyOf T sc t = some c) (hst : plainArgs [e, t]) (he : PE X e (TE' X T C W e')) : PE X (.Call (.Name "isinstance" p) [e, t] [] pos) (TE' X T C W (.op (.isi c) [e'])) := by
  obtain ⟨h1, h2, h3⟩ := gl_ok g hg
  obtain ⟨cv, cu, h4, h5, h6⟩ := ty_ok g hc
  have hst2 : plainArgs [t] := fun y hy => hst y (List.mem_cons_of_mem _ hy)
  refine PE.imp (pe_callB (z_isi g.pr.isi c h5 h6) h1 (g.pr.blt _ (by decide +kernel)) (by decide +kernel) (pa_cons he (pa_cons h4 pa_nil (plain_cons hst2 _)) (plain_cons hst _)) h3 h2 (plain_cons hst _) (back_plain hst2)) fun σ H Q q => ?_
  exact tOf.mono (g.mE e') (fun x H1 q => ⟨x, rfl, q⟩) (one_op g q)
/-! ### methods of built-in types -/
def TyOk (X : Cx) (T' : String) (x : V) (H : Hp) : Prop := ∀ (pins : List (Addr × Obj)) (s : Shared) (σ : L2.St) (v : Value), Inv X pins σ H s → RelV x v → s.TypeIs v T' ∧ ∀ a, v = .ref a → ∃ ob, s.heap.get? a = some ob ∧ ob.dict = none
theorem pe_bmG {T' id : String} {name : Str} {r : V → List V → Hp → VK → Prop} {o e : Expr} {es : List Expr} {apos cpos : Pos} {to : TE} {t : TA} (pa : PlainAttrs T') (slot : PySem.Slot T' name id) (hty : typeOf (.builtin id) = pure (.type "method_descriptor")) (hm : MtM X id r) (ho : PE X o to) (ha : PA X (e :: es) t)
    (hr : plainRecv o = true) (hst : plainArgs (e :: es)) (hl : (e :: es).length < 20) (hline : apos.endLine = cpos.line) : PE X (.Call (.Attribute o name apos) (e :: es) [] cpos) (fun σ H Q => to σ H fun x H1 => TyOk X T' x H1 ∧ t σ H1 fun xs H2 => r x xs H2 Q) := by
  refine ⟨fun pins s σ H Q I h => ?_⟩
  refine wpAny_Call_method_late (plain_base hr _ _) (meth_form hst hl _ _) (by simpa using hline) rfl (thn (ho.run pins s σ H _ I h) fun v s1 ⟨x, H1, I1, r1, ty, q1⟩ => ?_)
  obtain ⟨h1, h2⟩ := ty pins s1 σ v I1 r1
  refine ⟨T', id, pa, slot, hty, h1, h2, ?_⟩
  have hA := ha.run cpos pins s1 σ H1 _ I1 q1
  have hs := plain_cons hst X.env
  have hplain : (backTo cpos (starEach es X.env)).any (·.1) = false := back_plain fun y hy => hst y (List.mem_cons_of_mem _ hy)
  rw [hs] at hA ⊢
  refine Calls.callWith_builtin (by show (false || (backTo cpos (starEach es X.env)).any (·.1)) = false; rw [hplain] <;> rfl) (Calls.evalArgs_plain ?_)
  exact thn hA fun us s2 ⟨vs, H2, I2, r2, q2⟩ => hm pins s2 σ H2 x vs v us Q I2 r1 r2 q2
theorem pe_bmG0 {T' id : String} {name : Str} {r : V → List V → Hp → VK → Prop} {o : Expr} {apos cpos : Pos} {to : TE} (pa : PlainAttrs T') (slot : PySem.Slot T' name id) (hty : typeOf (.builtin id) = pure (.type "method_descriptor")) (hm : MtM X id r) (ho : PE X o to)
    (hr : plainRecv o = true) (hline : apos.endLine = cpos.line) : PE X (.Call (.Attribute o name apos) [] [] cpos) (fun σ H Q => to σ H fun x H1 => TyOk X T' x H1 ∧ r x [] H1 Q) := by
  refine ⟨fun pins s σ H Q I h => ?_⟩
  refine wpAny_Call_method0_late (plain_base hr _ _) (by simpa using hline) (thn (ho.run pins s σ H _ I h) fun v s1 ⟨x, H1, I1, r1, ty, q1⟩ => ?_)
  obtain ⟨h1, h2⟩ := ty pins s1 σ v I1 r1
  exact ⟨T', id, pa, slot, hty, h1, h2, Calls.callWith_builtin rfl (PySem.evalArgs_none (hm pins s1 σ H1 x [] v [] Q I1 r1 .nil q1))⟩
theorem lst_tyOk {ρ : List Addr} {st : Sto} {H : Hp} {i : Nat} {l : List D} {v : V} (r : RelS X.prog X.w X.K T.toNames ρ st H) (h : st[i]? = some (.lst l)) (rd : RelD X.K ρ H (.ref i) v) : TyOk X "list" v H := by
  obtain ⟨a, vs, rfl, _, h1, _⟩ := lst_at r rd h
  exact fun pins s σ v I rv => tyV_is (T := "list") (x := V.ref a) I rv (.inl ⟨rfl, vs, .of h1⟩)
theorem dic_tyOk {ρ : List Addr} {st : Sto} {H : Hp} {i : Nat} {l : List (D × D)} {v : V} (r : RelS X.prog X.w X.K T.toNames ρ st H) (h : st[i]? = some (.dic l)) (rd : RelD X.K ρ H (.ref i) v) : TyOk X "dict" v H := by
  obtain ⟨a, ha, rfl⟩ := rd.ref_
  intro pins s σ u I rv
  cases rv
  obtain ⟨h1, h2, _⟩ := dic_type I (r.obj i _ a h ha)
  exact ⟨h1, h2⟩
theorem bm_op (g : Gd X T C N sc W lev) {o : Op} {a : E} {es : List E} {T' : String} {σ : L2.St} {H : Hp} {Q : VK} (ht : ∀ ρ st H d v, RelS X.prog X.w X.K T.toNames ρ st H → RelD X.K ρ H d v → recvOk o d st = true → TyOk X T' v H)
    (q : TE' X T C W (.bm o a es) σ H Q) : TE' X T C W a σ H fun x H1 => TyOk X T' x H1 ∧ TA' X T C W es σ H1 fun xs H2 => rM X T.toNames o x xs H2 Q := by
  obtain ⟨ρ, σD, st, r, s, q⟩ := q
  unfold wE at q
  refine step1 g r s .refl q fun ρ1 H1 d st1 x e1 r1 s1 rd q1 => ?_
  refine ⟨ht ρ1 st1 H1 d x r1 rd q1.1, ?_⟩
  refine stepA g r1 s1 e1 q1.2 fun ρ2 H2 ds st2 xs e2 r2 s2 rds q2 => ?_
  exact ⟨ρ2, st2, d :: ds, r2, .cons (rd.ext e2) rds, prim_mono (fun d s z => z.ext (e1.trans e2)) q2⟩
theorem isLst_ok {ρ : List Addr} {st : Sto} {H : Hp} {d : D} {v : V} (r : RelS X.prog X.w X.K T.toNames ρ st H) (rd : RelD X.K ρ H d v) (h : isLst d st = true) : TyOk X "list" v H := by
  cases d with
  | ref i =>
    unfold isLst at h
    simp only at h
    split at h
    · rename_i l hl
      exact lst_tyOk r hl rd
    · cases h
  | _ => cases h
theorem isDic_ok {ρ : List Addr} {st : Sto} {H : Hp} {d : D} {v : V} (r : RelS X.prog X.w X.K T.toNames ρ st H) (rd : RelD X.K ρ H d v) (h : isDic d st = true) : TyOk X "dict" v H := by
  cases d with
  | ref i =>
    unfold isDic at h
    simp only at h
    split at h
    · rename_i l hl
      exact dic_tyOk r hl rd
    · cases h
  | _ => cases h
theorem recv_str : ∀ ρ st H d v, RelS X.prog X.w X.K T.toNames ρ st H → RelD X.K ρ H d v → recvOk .join d st = true → TyOk X "str" v H := by
  intro ρ st H d v r rd h
  cases d with
  | str z =>
    cases rd.str_
    intro pins s σ u I rv
    exact tyV_is (T := "str") (x := V.str z) I rv rfl
  | _ => cases h
/-- no arguments -/
theorem bm_op0 (g : Gd X T C N sc W lev) {o : Op} {a : E} {T' : String} {σ : L2.St} {H : Hp} {Q : VK} (ht : ∀ ρ st H d v, RelS X.prog X.w X.K T.toNames ρ st H → RelD X.K ρ H d v → recvOk o d st = true → TyOk X T' v H)
    (q : TE' X T C W (.bm o a []) σ H Q) : TE' X T C W a σ H fun x H1 => TyOk X T' x H1 ∧ rM X T.toNames o x [] H1 Q := by
  obtain ⟨ρ, σD, st, r, s, q⟩ := q
  unfold wE wEs at q
  refine step1 g r s .refl q fun ρ1 H1 d st1 x e1 r1 s1 rd q1 => ?_
  exact ⟨ht ρ1 st1 H1 d x r1 rd q1.1, ρ1, st1, [d], r1, .cons rd .nil, prim_mono (fun d s z => z.ext e1) q1.2⟩
theorem len1 {es' : List E} {n : Nat} {es : List Expr} (h : es'.length = n + 1) (hl : es.length = es'.length) : ∃ e t, es = e :: t := by
  cases es with
  | nil => rw [h] at hl; cases hl
  | cons e t => exact ⟨e, t, rfl⟩
theorem q_bm (g : Gd X T C N sc W lev) {m : Str} {o : Expr} {es : List Expr} {o' : E} {es' : List E} {q : Op} {apos cpos : Pos} (hq : mth m es'.length = some q) (hlen : es.length = es'.length) (ho : PE X o (TE' X T C W o')) (ha : PA X es (TA' X T C W es')) (hr : plainRecv o = true) (hst : plainArgs es) (hl : es.length < 20) (hline : apos.endLine = cpos.line) :
    PE X (.Call (.Attribute o m apos) es [] cpos) (TE' X T C W (.bm q o' es')) := by
  unfold mth at hq
  split at hq
  · rename_i e; cases hq; rw [e.1]
    obtain ⟨e1, t1, rfl⟩ := len1 e.2 hlen
    exact PE.imp (pe_bmG PySem.F.plainAttrs_list PySem.F.slot_list_append PySem.F.type_list_append z_append ho ha hr hst hl hline) fun σ H Q p => bm_op g (fun ρ st H d v r rd h => isLst_ok r rd h) p
  split at hq
  · rename_i e; cases hq; rw [e.1]
    obtain ⟨e1, t1, rfl⟩ := len1 e.2 hlen
    exact PE.imp (pe_bmG PySem.F.plainAttrs_list PySem.F.slot_list_extend PySem.F.type_list_extend z_extend ho ha hr hst hl hline) fun σ H Q p => bm_op g (fun ρ st H d v r rd h => isLst_ok r rd h) p
  split at hq
  · rename_i e; cases hq; rw [e.1]
    cases es' with
    | nil =>
      cases es with
      | nil => exact PE.imp (pe_bmG0 PySem.F.plainAttrs_list PySem.F.slot_list_pop PySem.F.type_list_pop z_pop ho hr hline) fun σ H Q p => bm_op0 g (fun ρ st H d v r rd h => isLst_ok r rd h) p
      | cons _ _ => cases hlen
    | cons _ _ => cases e.2
  split at hq
  · rename_i e; cases hq; rw [e.1]
    obtain ⟨e1, t1, rfl⟩ := len1 e.2 hlen
    exact PE.imp (pe_bmG PySem.F.plainAttrs_list PySem.F.slot_list_pop PySem.F.type_list_pop z_popAt ho ha hr hst hl hline) fun σ H Q p => bm_op g (fun ρ st H d v r rd h => isLst_ok r rd h) p
  split at hq
  · rename_i e; cases hq; rw [e.1]
    obtain ⟨e1, t1, rfl⟩ := len1 e.2 hlen
    exact PE.imp (pe_bmG PySem.F.plainAttrs_dict PySem.F.slot_dict_get PySem.F.type_dict_get (z_get1 g.hu) ho ha hr hst hl hline) fun σ H Q p => bm_op g (fun ρ st H d v r rd h => isDic_ok r rd h) p
  split at hq
  · rename_i e; cases hq; rw [e.1]
    obtain ⟨e1, t1, rfl⟩ := len1 e.2 hlen
    exact PE.imp (pe_bmG PySem.F.plainAttrs_dict PySem.F.slot_dict_get PySem.F.type_dict_get (z_get2 g.hu) ho ha hr hst hl hline) fun σ H Q p => bm_op g (fun ρ st H d v r rd h => isDic_ok r rd h) p
  split at hq
  · rename_i e; cases hq; rw [e.1]
    obtain ⟨e1, t1, rfl⟩ := len1 e.2 hlen
    exact PE.imp (pe_bmG PySem.F.plainAttrs_str PySem.F.slot_str_join PySem.F.type_str_join z_join ho ha hr hst hl hline) fun σ H Q p => bm_op g recv_str p
  cases hq
end
end Z
end
section
set_option linter.all false
set_option maxRecDepth 100000
set_option maxHeartbeats 4000000
namespace Z
open PySem PySem.Spec PyProof.Rows L2
section
variable {X : Cx} {T : Tab} {C : CallS} {N : List Str} {sc : Scope} {W : WX} {lev : Nat}
/-! ### attributes by name -/
theorem names_inj {T : Names} (nd : T.names.Nodup) {i j : Nat} {x : Str} (h1 : T.names[i]? = some x) (h2 : T.names[j]? = some x) : i = j := by
  obtain ⟨l1, e1⟩ := List.getElem?_eq_some_iff.mp h1
  obtain ⟨l2, e2⟩ := List.getElem?_eq_some_iff.mp h2
  exact (List.getElem_inj nd).mp (e1.trans e2.symm)
theorem relF_lookup {K : PySem.W.Frag} {T : Names} (nd : T.names.Nodup) {ρ : List Addr} {H : Hp} {m : Nat} {nm : Str} (hm : T.names[m]? = some nm) : ∀ {fs : List (Nat × D)} {vs : List (Str × V)}, RelF K T ρ H fs vs → match fs.lookup m with
    | some d => ∃ v, vs.lookup nm = some v ∧ RelD K ρ H d v
    | none => vs.lookup nm = none
  | _, _, .nil => rfl
  | p :: fs, q :: vs, .cons h t => by
    obtain ⟨a, b⟩ := p
    obtain ⟨c, d⟩ := q
    have h1 : T.names[a]? = some c := h.1
    by_cases e : m = a
    · subst e
      rw [hm] at h1
      cases h1
      rw [List.lookup_cons, List.lookup_cons, beq_self_eq_true, beq_self_eq_true]
      exact ⟨d, rfl, h.2⟩
    · have e2 : (m == a) = false := beq_eq_false_iff_ne.mpr e
      have e3 : (nm == c) = false := beq_eq_false_iff_ne.mpr fun z => e (names_inj nd hm (z ▸ h1))
      rw [List.lookup_cons, List.lookup_cons, e2, e3]
      exact relF_lookup nd hm t
theorem relF_put {K : PySem.W.Frag} {T : Names} (nd : T.names.Nodup) {ρ : List Addr} {H : Hp} {m : Nat} {nm : Str} {d : D} {v : V} (hm : T.names[m]? = some nm) (rd : RelD K ρ H d v) : ∀ {fs : List (Nat × D)} {vs : List (Str × V)}, RelF K T ρ H fs vs → RelF K T ρ H (putN m d fs) (putF nm v vs)
  | _, _, .nil => .cons ⟨hm, rd⟩ .nil
  | p :: fs, q :: vs, .cons h t => by
    obtain ⟨a, b⟩ := p
    obtain ⟨c, e⟩ := q
    have h1 : T.names[a]? = some c := h.1
    unfold putN putF
    by_cases e1 : a = m
    · subst e1
      rw [hm] at h1
      cases h1
      rw [if_pos rfl, if_pos rfl]
      exact .cons ⟨hm, rd⟩ t
    · have e2 : ¬ c = nm := fun z => e1 (names_inj nd h1 (by rw [z]; exact hm))
      rw [if_neg e1, if_neg e2]
      exact .cons h (relF_put nd hm rd t)
theorem ins_at {P : Program} {w : World} {K : PySem.W.Frag} {T : Names} {ρ : List Addr} {st : Sto} {H : Hp} {i c : Nat} {fs : List (Nat × D)} {v : V} (r : RelS P w K T ρ st H) (h : st[i]? = some (.ins c fs)) (rd : RelD K ρ H (.ref i) v) :
    ∃ a x dx vs, v = .ref a ∧ ρ[i]? = some a ∧ T.classes[c]? = some x ∧ H a = some (.ins (He.ga K x) dx vs) ∧ RelF K T ρ H fs vs := by
  obtain ⟨a, ha, rfl⟩ := rd.ref_
  obtain ⟨x, dx, vs, h1, h2, h3⟩ := r.obj i _ a h ha
  exact ⟨a, x, dx, vs, rfl, ha, h1, h2, h3⟩
/-! ### calls of the program's own -/
/-- the promise, from the meaning of a call -/
theorem call_sp (g : Gd X T C N sc W lev) {f : Nat} {fi : FunInfo} (hf : T.funs[f]? = some fi) {ρ ρ0 : List Addr} {H H0 : Hp} {st : Sto} {ds : List D} {vs : List V} (r : RelS X.prog X.w X.K T.toNames ρ st H) (rds : RelDs X.K ρ H ds vs) (e0 : Ext ρ0 ρ H0 H) {Q : VK} {E' : XK} {Xp : XP}
    (hX : ∀ x s, Xp x s → PoEx X.prog X.w X.K T.toNames ρ0 H0 E' x s) (hl : ds.length ≤ fi.np) (hd : fi.np - ds.length ≤ fi.dfl.length) (p : callF T C f ds st (PoE X.prog X.w X.K T.toNames ρ0 H0 Q) Xp) {dvs : List V}
    (rd : ∀ ρ H, RelDs X.K ρ H (fi.dfl.drop (fi.dfl.length - (fi.np - ds.length))) dvs) : spF X.prog X.w X.K T.toNames C fi.np f (vs ++ dvs) H Q E' := by
  unfold callF at p
  rw [hf] at p
  refine ⟨?_, ρ, fi.full ds, st, r, rds.append (rd ρ H), g.pr.mon _ _ _ _ _ _ _ (fun d s z => z.ext e0) (fun x s z => ?_) p⟩
  · have h1 := (rd ρ H).len
    rw [List.length_drop] at h1
    rw [List.length_append, ← rds.len]
    omega
  · exact fun ρ1 H1 c dd e1 => hX x s z ρ1 H1 c dd (e0.trans e1)
theorem arOk_ok {f n : Nat} (h : arOk T f n = true) : ∃ fi, T.funs[f]? = some fi ∧ n ≤ fi.np ∧ fi.np - n ≤ fi.dfl.length := by
  unfold arOk at h
  split at h
  · rename_i fi hf
    rw [Bool.and_eq_true, decide_eq_true_eq, decide_eq_true_eq] at h
    exact ⟨fi, hf, h.1, h.2⟩
  · cases h
/-- a def is called; what it raises is wished for here -/
theorem run_own (g : Gd X T C N sc W lev) {f : Nat} (n : Nat) (hn : arOk T f n = true) {ρ ρ0 : List Addr} {H H0 : Hp} {st : Sto} {ds : List D} {vs : List V} {us : List Value} {pins : List (Addr × Obj)} {σ : L2.St} {s : Shared} (I : Inv X pins σ H s) (rv : Vals vs us) (hlen : ds.length = n)
    (r : RelS X.prog X.w X.K T.toNames ρ st H) (rds : RelDs X.K ρ H ds vs) (e0 : Ext ρ0 ρ H0 H) {Q : VK} (p : callF T C f ds st (PoE X.prog X.w X.K T.toNames ρ0 H0 Q) (PoX X.prog X.w X.K T.toNames ρ0 H0 σ W)) :
    ∃ fi, T.funs[f]? = some fi ∧ wpAny (model X.prog X.w) X.A (call (.ref (zAd X.K fi.place)) us) (EP X pins σ Q) X.xe s := by
  obtain ⟨fi, hf, h1, h2⟩ := arOk_ok hn
  obtain ⟨fd, F, B, _⟩ := g.pr.fn f fi hf
  subst hlen
  obtain ⟨dvs, dus, rd, rdv, hb⟩ := B _ h1 h2
  exact ⟨fi, hf, run_fnSD (E := L2.WE W) F (g.room.mono (Nat.le_succ _)) hb rdv (passAt g.tk σ) I rv (call_sp g hf r rds e0 (fun x s z => z) h1 h2 p rd)⟩
theorem wEs_len {es : List E} {σ : Loc} {st : Sto} {Q : List D → Sto → Prop} {Xp : XP} (hC : MonC C) (p : wEs T C es σ st Q Xp) : wEs T C es σ st (fun ds s => ds.length = es.length ∧ Q ds s) Xp := by
  induction es generalizing st Q with
  | nil => unfold wEs at p ⊢; exact ⟨rfl, p⟩
  | cons e es ih =>
    unfold wEs at p ⊢
    exact Z.mE hC e σ st _ _ _ _ (fun d s q => Z.mEs hC es σ s _ _ _ _ (fun ds s2 z => ⟨by rw [List.length_cons, List.length_cons, z.1], z.2⟩) (fun _ _ z => z) (ih q)) (fun _ _ z => z) p
theorem q_call (g : Gd X T C N sc W lev) {x : Str} {e : Expr} {es : List Expr} {es' : List E} {f : Nat} {fi : FunInfo} {p pos : Pos} (hg : isGl sc x = true) (hf : T.funs[f]? = some fi) (hp : fi.place = (x, none)) (har : arOk T f es'.length = true) (hst : plainArgs (e :: es)) (ha : PA X (e :: es) (TA' X T C W es')) :
    PE X (.Call (.Name x p) (e :: es) [] pos) (TE' X T C W (.call f es')) := by
  obtain ⟨h1, h2, h3⟩ := gl_ok g hg
  refine ⟨fun pins s σ H Q I q => ?_⟩
  refine wpAny_Call_Name_kw (ld_glob I h1 (g.pr.fnG f fi x hf hp) ?_ h2)
  obtain ⟨ρ, σD, st, r, s0, q⟩ := q
  unfold wE at q
  have q := wEs_len g.pr.mon q
  have hA : TA' X T C W es' σ H fun vs H1 => ∃ ρ1 ds st1, Ext ρ ρ1 H H1 ∧ RelS X.prog X.w X.K T.toNames ρ1 st1 H1 ∧ RelDs X.K ρ1 H1 ds vs ∧ ds.length = es'.length ∧ callF T C f ds st1 (PoE X.prog X.w X.K T.toNames ρ H Q) (PoX X.prog X.w X.K T.toNames ρ H σ W) :=
    stepA g r s0 .refl q fun ρ1 H1 ds st1 xs e1 r1 s1 rds q1 => ⟨ρ1, ds, st1, e1, r1, rds, q1.1, q1.2⟩
  refine PySem.W.callWith_K (h₀ := X.base) I.ok.mod.kin (g.pr.kp f fi hf) (thn (ha.run pos pins s σ H _ I hA) fun us s1 ⟨vs, H1, I1, rv, ρ1, ds, st1, e1, r1, rds, hl, q1⟩ => ⟨I1.kIn, ?_⟩) (plain_cons hst _) (back_plain fun y hy => hst y (List.mem_cons_of_mem _ hy))
  obtain ⟨fi', hf', h⟩ := run_own g _ har I1 rv hl r1 rds e1 q1
  rw [hf] at hf'
  cases hf'
  exact h
theorem q_meth (g : Gd X T C N sc W lev) {m : Str} {mi : Nat} {o : Expr} {es : List Expr} {o' : E} {es' : List E} {apos cpos : Pos} (hm : T.names[mi]? = some m) (hlen0 : es.length = es'.length) (har : ∀ c f, T.meths.lookup (c, mi) = some f → arOk T f (es'.length + 1) = true) (ho : PE X o (TE' X T C W o')) (ha : PA X es (TA' X T C W es')) (hr : plainRecv o = true) (hst : plainArgs es) (hl : es.length < 20) (hline : apos.endLine = cpos.line) :
    PE X (.Call (.Attribute o m apos) es [] cpos) (TE' X T C W (.meth mi o' es')) := by
  refine ⟨fun pins s σ H Q I q => ?_⟩
  obtain ⟨ρ, σD, st, r, s0, q⟩ := q
  unfold wE at q
  have hO : TE' X T C W o' σ H fun x H1 => ∃ ρ1 i st1 c fs f, Ext ρ ρ1 H H1 ∧ RelS X.prog X.w X.K T.toNames ρ1 st1 H1 ∧ Sl X.K ρ1 H1 σD σ ∧ RelD X.K ρ1 H1 (.ref i) x ∧ st1[i]? = some (.ins c fs) ∧ T.meths.lookup (c, mi) = some f ∧ fs.lookup mi = none ∧
      wEs T C es' σD st1 (fun ds st2 => callF T C f (.ref i :: ds) st2 (PoE X.prog X.w X.K T.toNames ρ H Q) (PoX X.prog X.w X.K T.toNames ρ H σ W)) (PoX X.prog X.w X.K T.toNames ρ H σ W) := by
    refine step1 g r s0 .refl q fun ρ1 H1 d st1 x e1 r1 s1 rd q1 => ?_
    split at q1
    · split at q1
      · split at q1
        · rename_i i _ c fs hi _ f hf
          exact ⟨ρ1, i, st1, c, fs, f, e1, r1, s1, rd, hi, hf, q1.1, q1.2⟩
        · exact q1.elim
      · exact q1.elim
    · exact q1.elim
  refine PySem.W.methodCall_KW (thn (ho.run pins s σ H _ I hO) fun u s1 ⟨x, H1, I1, rx, ρ1, i, st1, c, fs, f, e1, r1, s1', rd, hi, hf, hno, q1⟩ => ?_) (meth_eval hr hst hl hline)
  obtain ⟨a, nx, dx, vs, rfl, ha', hc, hH, rf⟩ := ins_at r1 hi rd
  obtain rfl : u = Value.ref a := rx
  have har' := har c f hf
  obtain ⟨fi, hfi, har2⟩ := arOk_ok har'
  have hM := g.pr.meth c mi f fi nx m hf hfi hc hm
  have hln : vs.lookup m = none := by have z := relF_lookup g.pr.nd hm rf; rw [hno] at z; exact z
  refine getmeth_ok I1 hH (g.pr.clsG c nx hc).2 hM hln ?_
  have fin : ∀ {us : List Value} {s2 : Shared} {ws : List V} {H2 : Hp} {ρ2 : List Addr} {ds : List D} {st2 : Sto}, Inv X pins σ H2 s2 → Vals ws us → Ext ρ1 ρ2 H1 H2 → RelS X.prog X.w X.K T.toNames ρ2 st2 H2 → RelDs X.K ρ2 H2 ds ws → ds.length = es'.length →
      callF T C f (.ref i :: ds) st2 (PoE X.prog X.w X.K T.toNames ρ H Q) (PoX X.prog X.w X.K T.toNames ρ H σ W) → wpAny (model X.prog X.w) X.A (call (.ref (zAd X.K fi.place)) (.ref a :: us)) (EP X pins σ Q) X.xe s2 := by
    intro us s2 ws H2 ρ2 ds st2 I2 rw' e2 r2 rds hlen q2
    obtain ⟨fi', hf', h⟩ := run_own g _ har' (vs := .ref a :: ws) (us := .ref a :: us) I2 (.cons rfl rw') (by rw [List.length_cons, hlen]) r2 (.cons (rd.ext e2) rds) (e1.trans e2) q2
    rw [hfi] at hf'
    cases hf'
    exact h
  have q1 := wEs_len g.pr.mon q1
  have hA : TA' X T C W es' σ H1 fun ws H2 => ∃ ρ2 ds st2, Ext ρ1 ρ2 H1 H2 ∧ RelS X.prog X.w X.K T.toNames ρ2 st2 H2 ∧ RelDs X.K ρ2 H2 ds ws ∧ ds.length = es'.length ∧ callF T C f (.ref i :: ds) st2 (PoE X.prog X.w X.K T.toNames ρ H Q) (PoX X.prog X.w X.K T.toNames ρ H σ W) :=
    stepA g r1 s1' e1 q1 fun ρ2 H2 ds st2 xs e2 r2 s2 rds q2 => ⟨ρ2, ds, st2, e2, r2, rds, q2.1, q2.2⟩
  cases es with
  | nil =>
    have hz := ha.run cpos pins s1 σ H1 _ I1 hA
    refine PySem.W.callWith_K0 (first := [.ref a]) I1.kIn hM.kp ?_
    cases es' with
    | nil =>
      obtain ⟨ρ3, σD3, st3, r3, s3, z⟩ := hA
      unfold wEs at z
      obtain ⟨ρ2, ds, st2, e2, r2, rds, hlen, q2⟩ := z ρ3 H1 [] .refl r3 .nil
      exact fin I1 .nil e2 r2 rds hlen q2
    | cons _ _ => cases hlen0
  | cons e es =>
    refine PySem.W.callWith_K (first := [.ref a]) (h₀ := X.base) I.ok.mod.kin hM.kp (thn (ha.run cpos pins s1 σ H1 _ I1 hA) fun us s2 ⟨ws, H2, I2, rw', ρ2, ds, st2, e2, r2, rds, hlen, q2⟩ => ⟨I2.kIn, ?_⟩) (plain_cons hst _) (back_plain fun y hy => hst y (List.mem_cons_of_mem _ hy))
    exact fin I2 rw' e2 r2 rds hlen q2
end
end Z
end
section
set_option linter.all false
set_option maxRecDepth 100000
set_option maxHeartbeats 4000000
namespace Z
open PySem PySem.Spec PyProof.Rows L2
section
variable {X : Cx} {T : Tab} {C : CallS} {N : List Str} {sc : Scope} {W : WX} {lev : Nat}
theorem run_makeS {CX : CXT} {k : Nat} {f C : Addr} {fd : FuncData} {ps : List Str} {sp : Sp} {dvs : List V} {ds : List Value} {E : XK} {pins : List (Addr × Obj)} {σ : L2.St} {H : Hp} {s : Shared} {Q : VK} {us : List Value} {vs : List V} (M : Mk X.K C f) (F : FnOk X.prog X.w X.K X.mg X.base CX k f fd ps sp) (hr : Room (k + 1) X.A) (hb : Binds X.K fd ps ds) (hd : Vals dvs ds)
    (hx : PassesAt CX X σ E) (I : Inv X pins σ H s) (r : Vals vs us)
    (h : ∀ x dx, H x = none → H dx = none → dx ≠ x → sp (.ref x :: (vs ++ dvs)) (upd (upd H dx (.own x)) x (.ins C dx [])) (fun v H2 => v = .non ∧ Q (.ref x) H2) E) :
    wpAny (model X.prog X.w) X.A (call (.ref C) us) (EP X pins σ Q) X.xe s := by
  have hq := h (s.heap.objs.size + 1) s.heap.objs.size (I.hok.fresh (Nat.le_succ _)) (I.hok.fresh (Nat.le_refl _)) (Nat.ne_of_lt (Nat.lt_succ_self _))
  have I2 := Inv.made (C := C) I
  have r2 : Vals (V.ref (s.heap.objs.size + 1) :: (vs ++ dvs)) (Value.ref (s.heap.objs.size + 1) :: (us ++ ds)) := .cons rfl (r.append hd)
  have hl : (Value.ref (s.heap.objs.size + 1) :: us ++ ds).length = ps.length := by
    have e := r2.length
    rw [F.len _ _ _ _ hq] at e
    exact e.symm
  refine wpAny_call (make_map (f := f) I.kIn M.makes M.init (beq_iff_eq.mp M.fn) (codeAny_mono (F.run _ X.stack _ _ ⟨Value.ref (s.heap.objs.size + 1) :: us, []⟩ (Value.ref (s.heap.objs.size + 1) :: (us ++ ds)) _ _ E (hr.make C us [])
    (I2.env0.make C us []) (hb _ (Value.ref (s.heap.objs.size + 1) :: us) I2.kIn hl) r2 hq) fun r s' hq' => ?_))
  cases r with
  | error e => exact hx pins _ _ e s' I2 hq'
  | ok fl =>
    cases fl with
    | ret u =>
      obtain ⟨v, H', I3, rv, ev, q3⟩ := I2.after hq'
      subst ev
      exact ⟨rv, ⟨V.ref (s.heap.objs.size + 1), H', I3, rfl, q3⟩⟩
    | next => exact False.elim hq'
    | brk => exact False.elim hq'
    | cont => exact False.elim hq'
theorem q_new (g : Gd X T C N sc W lev) {x : Str} {e : Expr} {es : List Expr} {es' : List E} {c : Nat} {p pos : Pos} (hg : isGl sc x = true) {f : Nat} (hc : T.classes[c]? = some x) (hf : T.inits.lookup c = some f) (har : arOk T f (es'.length + 1) = true) (hst : plainArgs (e :: es)) (ha : PA X (e :: es) (TA' X T C W es')) :
    PE X (.Call (.Name x p) (e :: es) [] pos) (TE' X T C W (.new c es')) := by
  obtain ⟨h1, h2, h3⟩ := gl_ok g hg
  refine ⟨fun pins s σ H Q I q => ?_⟩
  refine wpAny_Call_Name_kw (ld_glob I h1 (g.pr.clsG c x hc).1 ?_ h2)
  obtain ⟨ρ, σD, st, r, s0, q⟩ := q
  unfold wE at q
  have q := wEs_len g.pr.mon q
  have hA : TA' X T C W es' σ H fun vs H1 => ∃ ρ1 ds st1, Ext ρ ρ1 H H1 ∧ RelS X.prog X.w X.K T.toNames ρ1 st1 H1 ∧ RelDs X.K ρ1 H1 ds vs ∧ ds.length = es'.length ∧
      callF T C f (.ref st1.length :: ds) (st1 ++ [.ins c []]) (fun d st2 => d = .non ∧ PoE X.prog X.w X.K T.toNames ρ H Q (.ref st1.length) st2) (PoX X.prog X.w X.K T.toNames ρ H σ W) :=
    stepA g r s0 .refl q fun ρ1 H1 ds st1 xs e1 r1 s1 rds q1 => by
      obtain ⟨hl, q1⟩ := q1
      rw [hf] at q1
      exact ⟨ρ1, ds, st1, e1, r1, rds, hl, q1⟩
  obtain ⟨fi, hfi, ha1, ha2⟩ := arOk_ok har
  have hM := g.pr.init c f fi x hf hfi hc
  refine PySem.W.callWith_K (h₀ := X.base) I.ok.mod.kin hM.kp (thn (ha.run pos pins s σ H _ I hA) fun us s1 ⟨vs, H1, I1, rv, ρ1, ds, st1, e1, r1, rds, hl, q1⟩ => ⟨I1.kIn, ?_⟩) (plain_cons hst _) (back_plain fun y hy => hst y (List.mem_cons_of_mem _ hy))
  obtain ⟨fd, F, B, _⟩ := g.pr.fn f fi hfi
  obtain ⟨dvs, dus, rd, rdv, hb⟩ := B _ ha1 ha2
  refine run_makeS (E := L2.WE W σ) hM F g.room hb rdv (passAt g.tk σ) I1 rv fun y dx hy hdx hne => ?_
  have hy2 : (upd H1 dx (.own y)) y = none := by rw [upd_ne (Ne.symm hne)]; exact hy
  have r2 := r1.tmp (o := .own y) hdx
  have e2 : Ext ρ1 ρ1 H1 (upd H1 dx (.own y)) := .tmp hdx
  have e3 : Ext ρ1 (ρ1 ++ [y]) (upd H1 dx (.own y)) (upd (upd H1 dx (.own y)) y (.ins (He.ga X.K x) dx [])) := .new hy2
  have r3 := r2.push (u := .ins (He.ga X.K x) dx []) (o := .ins c []) hy2 ⟨x, dx, [], hc, upd_same, .nil⟩
  have e13 := (e1.trans e2).trans e3
  have hn : (ρ1 ++ [y])[st1.length]? = some y := by rw [← r1.len, List.getElem?_append_right (Nat.le_refl _), Nat.sub_self]; rfl
  refine call_sp g (Q := fun v H2 => v = .non ∧ Q (.ref y) H2) (E' := L2.WE W σ) (Xp := PoX X.prog X.w X.K T.toNames ρ H σ W) hfi r3 (vs := .ref y :: vs) (ds := .ref st1.length :: ds) (.cons (.ref hn) (rds.ext (e2.trans e3))) .refl (fun x s z => z.ext e13) (by rw [List.length_cons, hl]; exact ha1) (by rw [List.length_cons, hl]; exact ha2) ?_ (dvs := dvs) (by rw [List.length_cons, hl]; exact rd)
  refine callF_mono g.pr.mon (fun d s z => ?_) (fun _ _ z => z) q1
  obtain ⟨rfl, z⟩ := z
  exact fun ρ4 H4 v e4 r4 rd4 => ⟨rd4.non_, z ρ4 H4 _ (e13.trans e4) r4 (.ref (e4.pre _ _ hn))⟩
/-- an exception of the store, its field set -/
theorem exn_at {P : Program} {w : World} {K : PySem.W.Frag} {T : Names} {ρ : List Addr} {st : Sto} {H : Hp} {i c m : Nat} {fs : List (Nat × D)} {d : D} {v : V} (r : RelS P w K T ρ st H) (h : st[i]? = some (.exn c fs)) (hl : fs.lookup m = some d) (rd : RelD K ρ H (.ref i) v) :
    ∃ a nm f dx y, v = .ref a ∧ T.excs[c]? = some (nm, some f) ∧ T.names[m]? = some f ∧ H a = some (exo a (He.ga K nm) (some dx)) ∧ H dx = some (exd dx [(f, y)]) ∧ RelD K ρ H d y := by
  obtain ⟨a, ha, rfl⟩ := rd.ref_
  obtain ⟨nm, fld, h1, h2⟩ := r.obj i _ a h ha
  cases fld with
  | none => rw [h2.1] at hl; cases hl
  | some f =>
    rcases h2 with ⟨h2, _⟩ | ⟨m', d', dx, y, h2, h3, h4, h5, _, h7⟩
    · rw [h2] at hl; cases hl
    · subst h2
      rw [List.lookup_cons] at hl
      split at hl
      · rename_i e
        cases hl
        have e := eq_of_beq e
        subst e
        exact ⟨a, nm, f, dx, y, rfl, h1, h3, h4, h5, h7⟩
      · cases hl
theorem exn_get {pins : List (Addr × Obj)} {σ : L2.St} {H : Hp} {s : Shared} {a C dx : Addr} {f : Str} {y : V} {Q : Value → Shared → Prop} {E : Value → Shared → Prop} {A : Around} (I : Inv X pins σ H s) (T' : XfC X.K C) (hno : PySem.W.findIn X.K (.ref C) f = some none) (h1 : H a = some (exo a C (some dx))) (h2 : H dx = some (exd dx [(f, y)]))
    (q : ∀ u s', Inv X pins σ H s' → RelV y u → Q u s') : wpAny (model X.prog X.w) A (getAttr (.ref a) f true) Q E s := by
  obtain ⟨t1, ho⟩ := exo_at I.hok h1
  obtain ⟨mA, hns, hr⟩ := exd_at I.hok h2
  obtain ⟨od, hod, hl⟩ := lookIn_ns hns
  obtain ⟨u, hu, ru⟩ := RelO.some_of (v := y) (o := mA f) (by
    have z := hr f
    rw [List.lookup_cons, beq_self_eq_true] at z
    exact z)
  have J : PySem.W.InstAt s.heap a { cls := .ref C, dict := some dx, data := .fields #[.ref t1, .none, .none, .none, .bool false, .none] } C (some od) := ⟨ho, rfl, rfl, hod⟩
  exact HandSPX.exc_get I.kIn J T'.ga T'.gg T'.exC (PySem.W.findObj_own T'.hdC hno rfl (by rw [hl, hu])) (handed_of ru) (q u _ (I.tok _) ru)
theorem q_attr (g : Gd X T C N sc W lev) {o : Expr} {o' : E} {m : Str} {mi : Nat} {p : Pos} (hm : T.names[mi]? = some m) (har : ∀ c f, T.props.lookup (c, mi) = some f → arOk T f 1 = true) (hr : plainRecv o = true) (ho : PE X o (TE' X T C W o')) : PE X (.Attribute o m p) (TE' X T C W (.attr o' mi)) := by
  refine ⟨fun pins s σ H Q I q => ?_⟩
  obtain ⟨ρ, σD, st, r, s0, q⟩ := q
  unfold wE at q
  have hO : TE' X T C W o' σ H fun x H1 => ∃ ρ1 i st1, Ext ρ ρ1 H H1 ∧ RelS X.prog X.w X.K T.toNames ρ1 st1 H1 ∧ RelD X.K ρ1 H1 (.ref i) x ∧
      ((∃ c fs d, st1[i]? = some (.exn c fs) ∧ fs.lookup mi = some d ∧ PoE X.prog X.w X.K T.toNames ρ H Q d st1) ∨ ∃ c fs, st1[i]? = some (.ins c fs) ∧
      ((∃ f, T.props.lookup (c, mi) = some f ∧ callF T C f [.ref i] st1 (PoE X.prog X.w X.K T.toNames ρ H Q) (fun _ _ => False)) ∨ (T.props.lookup (c, mi) = none ∧ T.meths.lookup (c, mi) = none ∧ ∃ d, fs.lookup mi = some d ∧ PoE X.prog X.w X.K T.toNames ρ H Q d st1))) := by
    refine step1 g r s0 .refl q fun ρ1 H1 d st1 x e1 r1 s1 rd q1 => ?_
    split at q1
    · split at q1
      · split at q1
        · rename_i i _ c fs hi _ d hd
          exact ⟨ρ1, i, st1, e1, r1, rd, .inl ⟨c, fs, d, hi, hd, q1⟩⟩
        · exact q1.elim
      · split at q1
        · rename_i i _ c fs hi _ f hf
          exact ⟨ρ1, i, st1, e1, r1, rd, .inr ⟨c, fs, hi, .inl ⟨f, hf, q1⟩⟩⟩
        · rename_i i _ c fs hi _ hf
          obtain ⟨q2, q3⟩ := q1
          split at q3
          · rename_i d hd
            exact ⟨ρ1, i, st1, e1, r1, rd, .inr ⟨c, fs, hi, .inr ⟨hf, q2, d, hd, q3⟩⟩⟩
          · exact q3.elim
      · exact q1.elim
    · exact q1.elim
  refine attr_of (plain_base hr _ _) (thn (ho.run pins s σ H _ I hO) fun u s1 ⟨x, H1, I1, rx, ρ1, i, st1, e1, r1, rd, q1⟩ => ?_)
  rcases q1 with ⟨c, fs, d, hi, hd, q1⟩ | ⟨c, fs, hi, q1⟩
  · obtain ⟨a, nm, f, dx, y, rfl, h1, h2, h3, h4, h5⟩ := exn_at r1 hi hd rd
    obtain rfl : u = Value.ref a := rx
    rw [hm] at h2
    cases h2
    exact exn_get I1 (g.pr.xcl c nm _ h1).xf (g.pr.xfd c nm _ h1).no h3 h4 fun u' s2 I2 ru => ⟨y, H1, I2, ru, q1 ρ1 H1 y e1 r1 h5⟩
  · obtain ⟨a, nx, dx, vs, rfl, ha', hc, hH, rf⟩ := ins_at r1 hi rd
    obtain rfl : u = Value.ref a := rx
    rcases q1 with ⟨f, hf, q1⟩ | ⟨h1, h2, d, hd, q1⟩
    · obtain ⟨fi, hfi, ha1, ha2⟩ := arOk_ok (har c f hf)
      obtain ⟨pp, hP⟩ := g.pr.prop c mi f fi nx m hf hfi hc hm
      obtain ⟨fd, F, B, _⟩ := g.pr.fn f fi hfi
      obtain ⟨dvs, dus, rdd, rdv, hb⟩ := B _ ha1 ha2
      refine getprop_ok (E := E0) I1 hH (g.pr.clsG c nx hc).2 hP F g.room hb rdv passL ?_
      exact call_sp g (E' := E0) (vs := [.ref a]) (ds := [.ref i]) (Xp := fun _ _ => False) hfi r1 (.cons rd .nil) e1 (fun x s z => z.elim) ha1 ha2 q1 rdd
    · have z := relF_lookup g.pr.nd hm rf
      rw [hd] at z
      obtain ⟨v, hv, rv⟩ := z
      exact getattr_ok I1 hH (g.pr.clsG c nx hc).2 (g.pr.noat c mi nx m hc hm h1 h2) hv fun u' s2 I2 ru => ⟨v, H1, I2, ru, q1 ρ1 H1 v e1 r1 rv⟩
end
end Z
end
section
set_option linter.all false
set_option maxRecDepth 100000
set_option maxHeartbeats 4000000
namespace PySem
open Sem (wp)
open AutoSeq1 (wpAny_loadPart')
set_option maxHeartbeats 1000000 in
theorem meets_enumerate_new1B {v : Value} {o : Obj} {H : Heap → Prop} (B : Begins v o H) :
    Meets (Builtin.«enumerate.__new__» ⟨[.type "enumerate", v], []⟩) (fun _ R s => H s.heap ∧
      R (.ok (.ret (.ref (s.heap.push o).objs.size))) { s with heap := (s.heap.push o).push { cls := .type "enumerate", data := .fields #[.none, .bool false, .ref s.heap.objs.size, rawInt 0, .none, .none] } }) :=
  .of_wp fun prog w A R s h => by
    obtain ⟨hp, g, d, tk, os⟩ := s; obtain ⟨h1, h⟩ := h
    have hsub := sub_enumerate
    have q1 : ∀ {A' : Around} {E : Value → Shared → Prop} {Q : Value → Shared → Prop}, Q (.ref hp.objs.size) ⟨hp.push o, g, d, tk, os⟩ → wpAny (model prog w) A' (pyIter v) Q E ⟨hp, g, d, tk, os⟩ :=
      fun q => B.iter prog w _ _ ⟨hp, g, d, tk, os⟩ _ h1 q
    wp_walk using q1
    refine wpAny_stack_any fun st => wpAny_pure ?_
    split
    · rename_i c _ _ _ _ _
      cases (c == Value.type "enumerate")
      · wp_walk using q1
        exact ⟨_, rfl, h⟩
      · wp_walk using q1
        exact ⟨_, rfl, h⟩
    · wp_walk using q1
      exact ⟨_, rfl, h⟩
theorem enum_begins1 {prog : Program} {w : World} {A : Around} {E : Value → Shared → Prop} {s : Shared} {v : Value} {o : Obj} {H : Heap → Prop} {Q : Value → Shared → Prop} (B : Begins v o H) (h1 : H s.heap)
    (h : ∀ h', IsEnum h' (s.heap.objs.size + 1) s.heap.objs.size 0 .none → h'.get? s.heap.objs.size = some o → h'.objs.size = s.heap.objs.size + 2 →
      (∀ b o, s.heap.get? b = some o → h'.get? b = some o) → Q (.ref (s.heap.objs.size + 1)) { s with heap := h' }) :
    wpAny (model prog w) A (call (.type "enumerate") [v]) Q E s := by
  refine callType_new F.called_enumerate (by decide) (F.typeCall_enumerate_1 _) (F.newCall_enumerate_1 _) (fun obj => F.args_object_init_2 obj _) F.entry_enumerate_new
    (meets_enumerate_new1B B) ⟨h1, ?_⟩
  have hz : (s.heap.push o).objs.size = s.heap.objs.size + 1 := Heap.size_push ..
  show _ ∧ _
  rw [hz]
  have he : IsEnum ((s.heap.push o).push { cls := .type "enumerate", data := .fields #[.none, .bool false, .ref s.heap.objs.size, rawInt 0, .none, .none] }) (s.heap.objs.size + 1) s.heap.objs.size 0 .none := by
    have := Heap.get?_push_size (s.heap.push o) (o := { cls := .type "enumerate", data := .fields #[.none, .bool false, .ref s.heap.objs.size, rawInt 0, .none, .none] }) rfl
    rw [hz] at this
    exact this
  refine ⟨⟨_, he, rfl⟩, h _ he (Heap.get?_push_of_some _ (Heap.get?_push_size _ B.free)) (by rw [Heap.size_push, hz]) fun b o x => Heap.get?_push_of_some _ (Heap.get?_push_of_some _ x)⟩
end PySem

namespace Z
open PySem PySem.Spec PyProof.Rows L2
/-! ## what is walked -/
/-- the tuple at a, each item in a new pair -/
def Itet (K : PySem.W.Frag) (a : Addr) : L2.It :=
  ⟨fun i H => ∃ (xs : List V) (x : V), SqT K H a xs ∧ xs[i]? = some x, fun i H v H' => ∃ T x, v = .ref T ∧ H T = none ∧ H' = upd H T (.tup [.int (i : Nat), x]) ∧ ∀ xs, SqT K H a xs → xs[i]? = some x, fun i H => ∃ xs : List V, SqT K H a xs ∧ xs.length ≤ i⟩
theorem turn_enumT {P : Program} {w : World} {K : PySem.W.Frag} {elts : List Expr} {kk : Nat} {tpos : Pos} (a e it : Addr) (hai : a ≠ it) :
    Turn P w K (.Tuple elts kk tpos) (Itet K a) [e, it] e (fun i h => (∃ old, IsEnum h e it ((i : Nat) : Int) old) ∧ h.IsTupleIter it a i ∧ e ≠ it ∧ a ≠ e) where
  mem := by simp
  obj := fun i h st b hb => by
    obtain ⟨⟨old, he⟩, ⟨o, ho, hc, hd⟩, _⟩ := st
    have e' : b = e ∨ b = it := by simpa using hb
    rcases e' with z | z
    · rw [z]; exact ⟨_, he, fun v q => nomatch q⟩
    · rw [z]; exact ⟨o, ho, fun v q => by rw [hd] at q; cases q⟩
  keep := fun i h h' st k => let ⟨⟨old, he⟩, hi, hne⟩ := st; ⟨⟨old, k e (by simp) _ he⟩, hi.at fun o q => k it (by simp) o q, hne⟩
  item := by
    intro X hP hw hK hc i pins s σ H E I hf st hg
    subst hP hw hK
    obtain ⟨⟨old, he⟩, hit, hne, hae⟩ := st
    obtain ⟨xs, x, hq, hx⟩ := hg
    obtain ⟨its, rv, p, hz⟩ := I.tuple hq
    obtain ⟨u, hu, ru⟩ := rv.get hx
    have hel : e < s.heap.objs.size := Heap.lt_size he
    have hil : it < s.heap.objs.size := by obtain ⟨_, q, _⟩ := hit; exact Heap.lt_size q
    have hlt : i < its.toArray.size := by have := (List.getElem?_eq_some_iff.mp hu).1; simpa using this
    refine wpAny_pyNext_enum_itemD (Draws.tuple (A := X.A.in1) (I.ok.hd hc) it a hai its.toArray) he ⟨hit, p⟩ hlt hne (by simp [hne, Ne.symm hae]) fun u' h' tk hu' ho hst hT hsz hk => ?_
    have eu : u' = u := by
      have h1 : its.toArray[i]? = some u' := hu'
      have h2 : its[i]? = some u' := by simpa using h1
      rw [hu] at h2
      exact (Option.some.inj h2).symm
    subst eu
    refine ⟨_, rfl, wpAny_letOwnedTupleGo_enum (s := { s with heap := h', toks := tk + 1 }) ho fun h'' he' sb => ?_⟩
    have hT2 : h''.get? s.heap.objs.size = some { cls := .type "tuple", data := .seq #[.int i tk, u'] } := (sb.2 _ (Nat.ne_of_gt hel)).trans hT
    have new : ObjOk X.prog X.w (upd H s.heap.objs.size (.tup [.int (i : Nat), x])) h'' s.heap.objs.size (.tup [.int (i : Nat), x]) :=
      ⟨by show 2 ≤ sizeLine; decide, [.int i tk, u'], .cons ⟨_, rfl⟩ (.cons ru .nil), ⟨_, hT2, rfl, _, rfl⟩⟩
    have I1 : Inv X pins σ (upd H s.heap.objs.size (.tup [.int (i : Nat), x])) { s with heap := h'', toks := tk + 1 } :=
      I.turnedNew (ch := [e, it]) (fun b ob hb q => (sb.2 b (fun z => hb (by simp [z]))).trans (hk b ob (fun z => hb (by simp [z])) (fun z => hb (by simp [z])) q)) hf (Nat.le_refl _) new
    refine ⟨.ref s.heap.objs.size, _, I1, rfl, ⟨_, x, rfl, I.hok.fresh (Nat.le_refl _), rfl, fun ys hy => by rw [I.tuple_inj hy hq]; exact hx⟩, ⟨⟨u', ?_⟩, hst.1.at fun o q => (sb.2 it (Ne.symm hne)).trans q, hne, hae⟩, fun b hb => ?_⟩
    · have e1 : ((i + 1 : Nat) : Int) = (i : Int) + 1 := by omega
      rw [e1]; exact he'
    · have hb' : b < s.heap.objs.size := by
        have e' : b = e ∨ b = it := by simpa using hb
        rcases e' with z | z
        · rw [z]; exact hel
        · rw [z]; exact hil
      rw [upd_ne (Nat.ne_of_lt hb')]
      exact (hf b hb).1
  done := by
    intro X hP hw hK hc i pins s σ H E I hf st hg
    subst hP hw hK
    obtain ⟨⟨old, he⟩, hit, hne, hae⟩ := st
    obtain ⟨xs, hq, hx⟩ := hg
    obtain ⟨its, rv, p, hz⟩ := I.tuple hq
    obtain ⟨f0, f1, f2, f3, f4, f5⟩ := hf it (by simp)
    have hl := rv.length
    have hT : s.TypeIs (.ref e) "enumerate" := ⟨_, he, rfl⟩
    unfold pyNext
    refine wpAny_bind (wpAny_attempt (wpAny_callSpecial?_slot (name := Str.ofString "__next__") hT F.slot_enumerate_next
      (wpAny_call_entry F.slot_enumerate_next hT F.entry_enumerate_next ?_ (F.args_enumerate_next_1 _))))
    show wpAny _ _ (field (.ref e) 2 >>= _) _ _ _
    refine wpAny_bind (wpAny_field he rfl (x := .ref it) rfl ?_)
    refine wpAny_bind (wpAny_nextOf_tuple_end (I.ok.hd hc) hit p (by simp; omega) fun h' x he' hx' => ?_)
    obtain ⟨o, ho, hcc⟩ := hx'
    refine wpAny_bind (wpAny_isInstance (T := "StopIteration") (b := true) ⟨o, ho, hcc⟩ isSubtype_stop ?_)
    exact wpAny_pure ⟨rfl, I.turned (t' := s.toks) (fun b o hb q => he' b o hb q) f0 f1 f3 f4 f5⟩
  self := fun A i s Q E st h => let ⟨⟨_, he⟩, _⟩ := st; wpAny_pyIter_enum he h
def iEnumT (K : PySem.W.Frag) (ta : TA) : TI := fun σ H R => ta σ H fun vs H1 => ∃ a, vs = [.ref a] ∧ ((∃ xs, SqL K H1 a xs ∧ R (Ite K a) H1) ∨ ∃ xs, SqT K H1 a xs ∧ R (Itet K a) H1)
theorem pi_enumA {X : Cx} {e : Expr} {ta : TA} {p pos tpos : Pos} {elts : List Expr} {kk : Nat} (hg : Gl X "enumerate") (hm : X.mg "enumerate" = none) (ha : PA X [e] ta) (hs : starEach [e] X.env = [(false, eval e X.env)]) :
    PI X (.Tuple elts kk tpos) (.Call (.Name "enumerate" p) [e] [] pos) (iEnumT X.K ta) := by
  refine ⟨fun pins s σ H R I h => ?_⟩
  refine Call_ (ld_blt I hg hm boot_enumerate (PyProof.Rows.callWith_type1 (thn (ha.run pos pins s σ H _ I h) fun us s1 ⟨vs, H1, I1, r1, q1⟩ => ?_) hs rfl))
  obtain ⟨a, ex, q⟩ := q1
  subst ex
  cases r1 with
  | cons r rr =>
    cases rr
    cases r
    rcases q with ⟨xs, hq, q⟩ | ⟨xs, hq, q⟩
    · obtain ⟨its, rv, p', hz⟩ := I1.list hq
      refine call_enumerate_list p'.isList fun h' he hit hsz hk => wpAny_pyIter_enum he ?_
      have I2 : Inv X pins σ H1 { s1 with heap := h' } := I1.kept (t' := s1.toks) hk
      refine ⟨s1.heap.objs.size + 1, [s1.heap.objs.size + 1, s1.heap.objs.size], _, _, H1, rfl, I2, turn_enum a (s1.heap.objs.size + 1) s1.heap.objs.size, ⟨⟨.none, he⟩, hit, Nat.succ_ne_self _⟩, fun b hb => ?_, q⟩
      have e' : b = s1.heap.objs.size + 1 ∨ b = s1.heap.objs.size := by simpa using hb
      have hle : s1.heap.objs.size ≤ b := by
        rcases e' with z | z
        · rw [z]; exact Nat.le_add_right _ _
        · rw [z]; exact Nat.le_refl _
      exact I1.fpOk hle (I1.hok.fresh hle)
    · obtain ⟨its, rv, p', hz⟩ := I1.tuple hq
      have halt : a < s1.heap.objs.size := p'.lt
      refine enum_begins1 (begins_tuple a its.toArray) (show s1.heap.IsTuple a its.toArray from p') fun h' he hit hsz hk => wpAny_pyIter_enum he ?_
      have I2 : Inv X pins σ H1 { s1 with heap := h' } := I1.kept (t' := s1.toks) hk
      refine ⟨s1.heap.objs.size + 1, [s1.heap.objs.size + 1, s1.heap.objs.size], _, _, H1, rfl, I2, turn_enumT a (s1.heap.objs.size + 1) s1.heap.objs.size (Nat.ne_of_lt halt), ⟨⟨.none, he⟩, ⟨_, hit, rfl, rfl⟩, Nat.succ_ne_self _, Nat.ne_of_lt (Nat.lt_succ_of_lt halt)⟩, fun b hb => ?_, q⟩
      have e' : b = s1.heap.objs.size + 1 ∨ b = s1.heap.objs.size := by simpa using hb
      have hle : s1.heap.objs.size ≤ b := by
        rcases e' with z | z
        · rw [z]; exact Nat.le_add_right _ _
        · rw [z]; exact Nat.le_refl _
      exact I1.fpOk hle (I1.hok.fresh hle)
/-- a list, a tuple, a text -/
def iSeqA (K : PySem.W.Frag) (te : TE) : TI := fun σ H R => te σ H fun v H1 => (∃ a xs, v = .ref a ∧ SqL K H1 a xs ∧ R (Itl K a) H1) ∨ (∃ a xs, v = .ref a ∧ SqT K H1 a xs ∧ R (Itt K a) H1) ∨ ∃ z, v = .str z ∧ R (Its z) H1
theorem pi_seqA {X : Cx} {tg l : Expr} {tl : TE} (hl : PE X l tl) : PI X tg l (iSeqA X.K tl) := by
  refine ⟨fun pins s σ H R I h => ?_⟩
  refine thn (hl.run pins s σ H _ I h) fun v s1 ⟨x, H1, I1, r1, q1⟩ => ?_
  rcases q1 with ⟨a, xs, e, hq, q⟩ | ⟨a, xs, e, hq, q⟩ | ⟨z, e, q⟩
  · subst e
    cases r1
    obtain ⟨its, rv, p, hz⟩ := I1.list hq
    refine wpAny_pyIter_list p.isList ?_
    refine ⟨s1.heap.objs.size, [s1.heap.objs.size], _, _, H1, rfl, I1.kept (t' := s1.toks) fun b o e => Heap.get?_push_of_some _ e, turn_list a _, ⟨_, Heap.get?_push_size _ rfl, rfl, rfl⟩, fun b hb => ?_, q⟩
    have e : b = s1.heap.objs.size := by simpa using hb
    subst e
    exact I1.fpOk (Nat.le_refl _) (I1.hok.fresh (Nat.le_refl _))
  · subst e
    cases r1
    obtain ⟨its, rv, p, hz⟩ := I1.tuple hq
    refine wpAny_pyIter_tuple (show s1.heap.IsTuple a its.toArray from p) ?_
    refine ⟨s1.heap.objs.size, [s1.heap.objs.size], _, _, H1, rfl, I1.kept (t' := s1.toks) fun b o e => Heap.get?_push_of_some _ e, turn_tuple a _, ⟨_, Heap.get?_push_size _ rfl, rfl, rfl⟩, fun b hb => ?_, q⟩
    have e : b = s1.heap.objs.size := by simpa using hb
    subst e
    exact I1.fpOk (Nat.le_refl _) (I1.hok.fresh (Nat.le_refl _))
  · subst e
    obtain ⟨t, rfl⟩ := r1
    cases ha : z.cps.all (· < 128)
    · exact wpAny_pyIter_wide ha (pi_one (tk := s1.toks) I1 _ (turn_str _ z t "str_iterator" (.inr rfl)) ⟨_, Heap.get?_push_size _ rfl, rfl, rfl⟩ q)
    · exact wpAny_pyIter_ascii ha (pi_one (tk := s1.toks) I1 _ (turn_str _ z t "str_ascii_iterator" (.inl rfl)) ⟨_, Heap.get?_push_size _ rfl, rfl, rfl⟩ q)
end Z
end
section
set_option linter.all false
set_option maxRecDepth 100000
set_option maxHeartbeats 4000000
namespace Z
open PySem PySem.Spec PyProof.Rows L2
/-! ## targets -/
/-- only the slots of l differ -/
def Off (l : List Nat) (σ σ' : L2.St) : Prop := σ'.length = σ.length ∧ ∀ j, j ∉ l → σ'[j]? = σ[j]?
theorem Off.refl {l : List Nat} {σ : L2.St} : Off l σ σ := ⟨rfl, fun _ _ => rfl⟩
theorem wipe_get {σ : L2.St} : ∀ (l : List Nat) (j : Nat), (wipe σ l)[j]? = if j ∈ l ∧ j < σ.length then some none else σ[j]?
  | [], j => by unfold wipe; rw [if_neg (by simp)]
  | v :: vs, j => by
    unfold wipe
    by_cases h : v = j
    · subst h
      by_cases hl : v < σ.length
      · rw [List.getElem?_set_self (by rw [wipe_length]; exact hl), if_pos ⟨List.mem_cons_self .., hl⟩]
      · rw [List.getElem?_eq_none (by rw [List.length_set, wipe_length]; omega), if_neg (fun z => hl z.2), List.getElem?_eq_none (by omega)]
    · rw [List.getElem?_set_ne h, wipe_get vs j]
      by_cases hm : j ∈ vs ∧ j < σ.length
      · rw [if_pos hm, if_pos ⟨List.mem_cons_of_mem _ hm.1, hm.2⟩]
      · rw [if_neg hm, if_neg fun z => hm ⟨(List.mem_cons.mp z.1).resolve_left (fun e => h e.symm), z.2⟩]
theorem Off.wipe {l : List Nat} {σ σ' : L2.St} (h : Off l σ σ') : L2.wipe σ' l = L2.wipe σ l := by
  apply List.ext_getElem?
  intro j
  rw [wipe_get, wipe_get, h.1]
  by_cases hm : j ∈ l ∧ j < σ.length
  · rw [if_pos hm, if_pos hm]
  · rw [if_neg hm, if_neg hm]
    by_cases hj : j ∈ l
    · have hl : ¬ j < σ.length := fun z => hm ⟨hj, z⟩
      rw [List.getElem?_eq_none (by rw [h.1]; omega), List.getElem?_eq_none (by omega)]
    · exact h.2 j hj
theorem wipe_wipe {l : List Nat} {σ : L2.St} : wipe (wipe σ l) l = wipe σ l := by
  apply List.ext_getElem?
  intro j
  rw [wipe_get, wipe_length]
  by_cases hm : j ∈ l ∧ j < σ.length
  · rw [if_pos hm, wipe_get, if_pos hm]
  · rw [if_neg hm]
def gOf (P : Program) (w : World) (K : PySem.W.Frag) (T : Names) (t : Tg) : TG := fun v σ H Q => ∃ ρ σD st d σD', RelS P w K T ρ st H ∧ Sl K ρ H σD σ ∧ RelD K ρ H d v ∧ wTg t d σD = some σD' ∧ ∀ σ', Sl K ρ H σD' σ' → Off (tgSlots t) σ σ' → Q σ' H
def gsOf (P : Program) (w : World) (K : PySem.W.Frag) (T : Names) (ts : List Tg) : TGs := fun vs σ H Q => ∃ ρ σD st ds σD', RelS P w K T ρ st H ∧ Sl K ρ H σD σ ∧ RelDs K ρ H ds vs ∧ wTgs ts ds σD = some σD' ∧ ∀ σ', Sl K ρ H σD' σ' → Off (tgsSlots ts) σ σ' → Q σ' H
section
variable {X : Cx} {T : Tab} {C : CallS} {N : List Str} {sc : Scope} {W : WX} {lev : Nat}
theorem PG.imp {e : Expr} {t t' : TG} (h : PG X e t) (hi : ∀ v σ H Q, t' v σ H Q → t v σ H Q) : PG X e t' := ⟨fun pins s σ H v u Q I r p => h.run pins s σ H v u Q I r (hi v σ H Q p)⟩
theorem PGs.imp {e : List Expr} {t t' : TGs} (h : PGs X e t) (hi : ∀ v σ H Q, t' v σ H Q → t v σ H Q) : PGs X e t' := ⟨fun pins s σ H v u Q I r p => h.run pins s σ H v u Q I r (hi v σ H Q p)⟩
theorem idx_ok {x : Str} {i : Nat} (h : N.idxOf? x = some i) : N[i]? = some x := by
  obtain ⟨hj, e2, _⟩ := List.findIdx?_eq_some_iff_getElem.mp (show N.findIdx? (· == x) = some i from h)
  rw [List.getElem?_eq_getElem hj]
  exact congrArg some (eq_of_beq e2)
theorem g_name {i : Nat} {e : Expr} (h : PG X e (gName i)) : PG X e (gOf X.prog X.w X.K T.toNames (.name i)) := by
  refine PG.imp h fun v σ H Q q => ?_
  obtain ⟨ρ, σD, st, d, σD', r, s, rd, hw, q⟩ := q
  unfold wTg at hw
  cases hw
  refine q _ (s.set rd i) ⟨List.length_set .., fun j hj => ?_⟩
  have : i ≠ j := fun e => hj (by unfold tgSlots; simp [e])
  exact List.getElem?_set_ne this
theorem wTgs_len : ∀ {ts : List Tg} {ds : List D} {σ σ' : Z.Loc}, wTgs ts ds σ = some σ' → ts.length = ds.length
  | [], [], _, _, _ => rfl
  | [], _ :: _, _, _, h => by unfold wTgs at h; cases h
  | _ :: _, [], _, _, h => by unfold wTgs at h; cases h
  | t :: ts, d :: ds, σ, σ', h => by
    unfold wTgs at h
    split at h
    · rw [List.length_cons, List.length_cons, wTgs_len h]
    · cases h
mutual
theorem q_tg (g : Gd X T C N sc W lev) {fl : Str → Bool} (hfl : ∀ x, fl x = true → X.fn x = true) : ∀ (e : Expr) (t : Tg), cTg N sc fl e = some t → PG X e (gOf X.prog X.w X.K T.toNames t)
  | .Name x p, t, h => by
    unfold cTg at h
    split at h
    · rename_i hk
      cases hi : N.idxOf? x with
      | none => rw [hi] at h; cases h
      | some i =>
        rw [hi] at h
        cases h
        exact g_name (pg_name (i := i) g.nd (by rw [g.nm]; exact idx_ok hi) (.inl (by rw [g.sc]; exact hk)) (.inr (by rw [g.sc]; exact hk)))
    · rename_i hk
      split at h
      · rename_i hf
        cases hi : N.idxOf? x with
        | none => rw [hi] at h; cases h
        | some i =>
          rw [hi] at h
          cases h
          exact g_name (pg_name (i := i) g.nd (by rw [g.nm]; exact idx_ok hi) (.inr (by rw [g.sc]; exact hk)) (.inl (hfl x hf)))
      · cases h
    · cases h
  | .Tuple es k p, t, h => by
    unfold cTg at h
    cases hi : cTgs N sc fl es with
    | none => rw [hi] at h; cases h
    | some ts =>
      rw [hi] at h
      cases h
      obtain ⟨h1, h2, h3, h4⟩ := q_tgs g hfl es ts hi
      refine PG.imp (pg_tup (n := es.length) g.calm h1 h2 h3) fun v σ H Q q => ?_
      obtain ⟨ρ, σD, st, d, σD', r, s, rd, hw, q⟩ := q
      cases d with
      | tup ds =>
        unfold wTg at hw
        obtain ⟨a, vs, rfl, h5, h6⟩ := rd.tup_
        exact ⟨a, vs, rfl, h5, by rw [← h6.len, ← wTgs_len hw, h4], ρ, σD, st, ds, σD', r, s, h6, hw, fun σ' s' o => q σ' s' (by unfold tgSlots; exact o)⟩
      | _ => unfold wTg at hw; cases hw
  | .BoolOp .., _, h => by unfold cTg at h; cases h
  | .NamedExpr .., _, h => by unfold cTg at h; cases h
  | .BinOp .., _, h => by unfold cTg at h; cases h
  | .UnaryOp .., _, h => by unfold cTg at h; cases h
  | .Lambda .., _, h => by unfold cTg at h; cases h
  | .IfExp .., _, h => by unfold cTg at h; cases h
  | .Dict .., _, h => by unfold cTg at h; cases h
  | .Set .., _, h => by unfold cTg at h; cases h
  | .ListComp .., _, h => by unfold cTg at h; cases h
  | .SetComp .., _, h => by unfold cTg at h; cases h
  | .DictComp .., _, h => by unfold cTg at h; cases h
  | .GeneratorExp .., _, h => by unfold cTg at h; cases h
  | .Await .., _, h => by unfold cTg at h; cases h
  | .Yield .., _, h => by unfold cTg at h; cases h
  | .YieldFrom .., _, h => by unfold cTg at h; cases h
  | .Compare .., _, h => by unfold cTg at h; cases h
  | .Call .., _, h => by unfold cTg at h; cases h
  | .FormattedValue .., _, h => by unfold cTg at h; cases h
  | .JoinedStr .., _, h => by unfold cTg at h; cases h
  | .Constant .., _, h => by unfold cTg at h; cases h
  | .Attribute .., _, h => by unfold cTg at h; cases h
  | .Subscript .., _, h => by unfold cTg at h; cases h
  | .Starred .., _, h => by unfold cTg at h; cases h
  | .List .., _, h => by unfold cTg at h; cases h
  | .Slice .., _, h => by unfold cTg at h; cases h
theorem q_tgs (g : Gd X T C N sc W lev) {fl : Str → Bool} (hfl : ∀ x, fl x = true → X.fn x = true) : ∀ (es : List Expr) (ts : List Tg), cTgs N sc fl es = some ts → PGs X es (gsOf X.prog X.w X.K T.toNames ts) ∧ (assignEach es X.env).length = es.length ∧ (assignEach es X.env).findIdx? (·.1) = none ∧ ts.length = es.length
  | [], ts, h => by
    unfold cTgs at h
    cases h
    refine ⟨PGs.imp pgs_nil fun v σ H Q q => ?_, rfl, rfl, rfl⟩
    obtain ⟨ρ, σD, st, ds, σD', r, s, rd, hw, q⟩ := q
    cases ds with
    | nil =>
      unfold wTgs at hw
      cases hw
      unfold RelDs at rd
      exact ⟨rd, q σ s .refl⟩
    | cons _ _ => unfold wTgs at hw; cases hw
  | e :: es, ts, h => by
    unfold cTgs at h
    split at h
    · rename_i t ts' h1 h2
      cases h
      obtain ⟨g1, g2, g3, g4⟩ := q_tgs g hfl es ts' h2
      have hstep : assignEach (e :: es) X.env = (false, assign e X.env) :: assignEach es X.env := by
        cases e <;> first | rfl | (unfold cTg at h1; cases h1)
      refine ⟨PGs.imp (pgs_cons (q_tg g hfl e t h1) g1 (by rw [hstep]; rfl)) fun v σ H Q q => ?_, by rw [hstep, List.length_cons, List.length_cons, g2], by rw [hstep, List.findIdx?_cons]; simp [g3], by rw [List.length_cons, List.length_cons, g4]⟩
      obtain ⟨ρ, σD, st, ds, σD', r, s, rd, hw, q⟩ := q
      cases ds with
      | nil => unfold wTgs at hw; cases hw
      | cons d ds =>
        unfold wTgs at hw
        split at hw
        · rename_i σD1 hw1
          unfold RelDs at rd
          obtain ⟨v1, vs, rfl, rd1, rds⟩ := rd
          refine ⟨v1, vs, rfl, ρ, σD, st, d, σD1, r, s, rd1, hw1, fun σ1 s1 o1 => ⟨ρ, σD1, st, ds, σD', r, s1, rds, hw, fun σ2 s2 o2 => q σ2 s2 ?_⟩⟩
          refine ⟨o2.1.trans o1.1, fun j hj => ?_⟩
          unfold tgsSlots at hj
          rw [List.mem_append, not_or] at hj
          rw [o2.2 j hj.2, o1.2 j hj.1]
        · cases hw
    · cases h
end
end
end Z
end
section
set_option linter.all false
set_option maxRecDepth 100000
set_option maxHeartbeats 4000000
namespace Z
open PySem PySem.Spec PyProof.Rows L2
/-! ## what is walked, by items -/
structure SimJ (P : Program) (w : World) (K : PySem.W.Frag) (T : Names) (J : L2.It) (ds : List D) (G : Sto → Prop) (ρ0 : List Addr) (H0 : Hp) : Prop where
  go : ∀ i d st ρ H, RelS P w K T ρ st H → Ext ρ0 ρ H0 H → G st → ds[i]? = some d → J.go i H ∧ ∀ x H', J.yld i H x H' → Ext ρ ρ H H' ∧ RelS P w K T ρ st H' ∧ RelD K ρ H' d x
  stop : ∀ i st ρ H, RelS P w K T ρ st H → Ext ρ0 ρ H0 H → G st → ds.length ≤ i → J.stop i H
section
variable (P : Program) (w : World) (K : PySem.W.Frag) (T : Names)
def tOfI (W : WX) (m : Loc → Sto → IQ → XP → Prop) : TI := fun σ H R => ∃ ρ σD st, RelS P w K T ρ st H ∧ Sl K ρ H σD σ ∧
  m σD st (fun ds G st' => ∀ ρ' H' J, Ext ρ ρ' H H' → RelS P w K T ρ' st' H' → G st' → SimJ P w K T J ds G ρ' H' → R J H') (PoX P w K T ρ H σ W)
end
theorem PI.imp {X : Cx} {tg iter : Expr} {t t' : TI} (h : PI X tg iter t) (hi : ∀ σ H R, t' σ H R → t σ H R) : PI X tg iter t' := ⟨fun pins s σ H R I p => h.run pins s σ H R I (hi σ H R p)⟩
section
variable {X : Cx} {T : Tab} {C : CallS} {N : List Str} {sc : Scope} {W : WX} {lev : Nat}
abbrev TI' (X : Cx) (T : Tab) (C : CallS) (W : WX) (it : It) : TI := tOfI X.prog X.w X.K T.toNames W (wIt T C it)
theorem sim_lst {P : Program} {w : World} {K : PySem.W.Frag} {T : Names} {ρ : List Addr} {H : Hp} {i : Nat} {a : Addr} {l : List D} (ha : ρ[i]? = some a) : SimJ P w K T (Itl K a) l (fun st => st[i]? = some (.lst l)) ρ H where
  go := fun j d st ρ1 H1 r e g hd => by
    obtain ⟨vs, h1, h2⟩ := r.obj i _ a g (e.pre _ _ ha)
    obtain ⟨x, hx, rx⟩ := h2.get hd
    refine ⟨⟨vs, x, .of h1, hx⟩, fun y H' ⟨e1, hy⟩ => ?_⟩
    subst e1
    have := hy vs (.of h1)
    rw [hx] at this
    cases this
    exact ⟨.refl, r, rx⟩
  stop := fun j st ρ1 H1 r e g hd => by
    obtain ⟨vs, h1, h2⟩ := r.obj i _ a g (e.pre _ _ ha)
    exact ⟨vs, .of h1, by rw [← h2.len]; exact hd⟩
theorem sim_fro {P : Program} {w : World} {K : PySem.W.Frag} {T : Names} {ρ : List Addr} {H : Hp} {a : Addr} {l : List D} {vs : List V} (h1 : FrL K H a vs) (h2 : RelDs K ρ H l vs) : SimJ P w K T (Itl K a) l (fun _ => True) ρ H where
  go := fun j d st ρ1 H1 r e g hd => by
    obtain ⟨x, hx, rx⟩ := h2.get hd
    have h3 := (e.frL h1).sq
    refine ⟨⟨vs, x, h3, hx⟩, fun y H' ⟨e1, hy⟩ => ?_⟩
    subst e1
    have := hy vs h3
    rw [hx] at this
    cases this
    exact ⟨.refl, r, rx.ext e⟩
  stop := fun j st ρ1 H1 r e g hd => ⟨vs, (e.frL h1).sq, by rw [← h2.len]; exact hd⟩
theorem sim_tup {P : Program} {w : World} {K : PySem.W.Frag} {T : Names} {ρ : List Addr} {H : Hp} {a : Addr} {l : List D} {vs : List V} (h1 : SqT K H a vs) (h2 : RelDs K ρ H l vs) : SimJ P w K T (Itt K a) l (fun _ => True) ρ H where
  go := fun j d st ρ1 H1 r e g hd => by
    obtain ⟨x, hx, rx⟩ := h2.get hd
    have h3 := e.sqT h1
    refine ⟨⟨vs, x, h3, hx⟩, fun y H' ⟨e1, hy⟩ => ?_⟩
    subst e1
    have := hy vs h3
    rw [hx] at this
    cases this
    exact ⟨.refl, r, rx.ext e⟩
  stop := fun j st ρ1 H1 r e g hd => ⟨vs, e.sqT h1, by rw [← h2.len]; exact hd⟩
theorem sim_rng {P : Program} {w : World} {K : PySem.W.Frag} {T : Names} {ρ : List Addr} {H : Hp} {lo : Int} {n : Nat} : SimJ P w K T (Itr lo n) (rngD lo n) (fun _ => True) ρ H where
  go := fun j d st ρ1 H1 r e g hd => by
    unfold rngD at hd
    rw [List.getElem?_map] at hd
    have hj : j < n := by
      by_cases h : j < n
      · exact h
      · rw [List.getElem?_eq_none (by rw [List.length_range]; omega)] at hd
        cases hd
    rw [List.getElem?_range hj] at hd
    cases hd
    refine ⟨hj, fun y H' ⟨e1, e2⟩ => ?_⟩
    subst e1 e2
    exact ⟨.refl, r, .int _⟩
  stop := fun j st ρ1 H1 r e g hd => by
    unfold rngD at hd
    rw [List.length_map, List.length_range] at hd
    exact hd
theorem sim_str {P : Program} {w : World} {K : PySem.W.Frag} {T : Names} {ρ : List Addr} {H : Hp} {z : Str} : SimJ P w K T (Its z) (z.cps.toList.map fun c => D.str ⟨#[c]⟩) (fun _ => True) ρ H where
  go := fun j d st ρ1 H1 r e g hd => by
    rw [List.getElem?_map] at hd
    cases hc : z.cps.toList[j]? with
    | none => rw [hc] at hd; cases hd
    | some c =>
      rw [hc] at hd
      cases hd
      have hc2 : z.cps[j]? = some c := by simpa using hc
      have hj : j < z.cps.size := (Array.getElem?_eq_some_iff.mp hc2).1
      refine ⟨hj, fun y H' hy => ?_⟩
      obtain ⟨e1, c', hc', e2⟩ := hy
      rw [hc2] at hc'
      cases hc'
      subst e1 e2
      exact ⟨.refl, r, .str _⟩
  stop := fun j st ρ1 H1 r e g hd => by
    rw [List.length_map, Array.length_toList] at hd
    exact hd
theorem enumD_get {l : List D} {j : Nat} {d : D} (h : (enumD l)[j]? = some d) : ∃ y, l[j]? = some y ∧ d = .tup [.int j, y] := by
  unfold enumD at h
  rw [List.getElem?_mapIdx] at h
  cases hy : l[j]? with
  | none => rw [hy] at h; cases h
  | some y => rw [hy] at h; cases h; exact ⟨y, rfl, rfl⟩
theorem enumD_len {l : List D} : (enumD l).length = l.length := by unfold enumD; rw [List.length_mapIdx]
/-- a new pair -/
theorem new_pair {P : Program} {w : World} {K : PySem.W.Frag} {T : Names} {ρ : List Addr} {H : Hp} {st : Sto} {t : Addr} {x y : D} {u v : V} (r : RelS P w K T ρ st H) (ht : H t = none) (rx : RelD K ρ H x u) (ry : RelD K ρ H y v) :
    Ext ρ ρ H (upd H t (.tup [u, v])) ∧ RelS P w K T ρ st (upd H t (.tup [u, v])) ∧ RelD K ρ (upd H t (.tup [u, v])) (.tup [x, y]) (.ref t) := by
  have e : Ext ρ ρ H (upd H t (.tup [u, v])) := .tmp ht
  exact ⟨e, r.tmp ht, .tup (.of upd_same) (.cons (rx.ext e) (.cons (ry.ext e) .nil))⟩
theorem sim_enum {P : Program} {w : World} {K : PySem.W.Frag} {T : Names} {ρ : List Addr} {H : Hp} {a : Addr} {l : List D} {G : Sto → Prop} (s : SimJ P w K T (Itl K a) l G ρ H) : SimJ P w K T (Ite K a) (enumD l) G ρ H where
  go := fun j d st ρ1 H1 r e g hd => by
    obtain ⟨y, hy, rfl⟩ := enumD_get hd
    obtain ⟨⟨xs, x, hx1, hx2⟩, h2⟩ := s.go j y st ρ1 H1 r e g hy
    refine ⟨⟨xs, x, hx1, hx2⟩, fun v H' ⟨t, z, e1, ht, e2, hz⟩ => ?_⟩
    subst e1 e2
    obtain ⟨_, _, rz⟩ := h2 z H1 ⟨rfl, hz⟩
    exact new_pair r ht (.int _) rz
  stop := fun j st ρ1 H1 r e g hd => by
    rw [enumD_len] at hd
    exact s.stop j st ρ1 H1 r e g hd
theorem sim_enumT {P : Program} {w : World} {K : PySem.W.Frag} {T : Names} {ρ : List Addr} {H : Hp} {a : Addr} {l : List D} {G : Sto → Prop} (s : SimJ P w K T (Itt K a) l G ρ H) : SimJ P w K T (Itet K a) (enumD l) G ρ H where
  go := fun j d st ρ1 H1 r e g hd => by
    obtain ⟨y, hy, rfl⟩ := enumD_get hd
    obtain ⟨⟨xs, x, hx1, hx2⟩, h2⟩ := s.go j y st ρ1 H1 r e g hy
    refine ⟨⟨xs, x, hx1, hx2⟩, fun v H' ⟨t, z, e1, ht, e2, hz⟩ => ?_⟩
    subst e1 e2
    obtain ⟨_, _, rz⟩ := h2 z H1 ⟨rfl, hz⟩
    exact new_pair r ht (.int _) rz
  stop := fun j st ρ1 H1 r e g hd => by
    rw [enumD_len] at hd
    exact s.stop j st ρ1 H1 r e g hd
theorem i_seq (g : Gd X T C N sc W lev) {tg e : Expr} {e' : E} (h : PE X e (TE' X T C W e')) : PI X tg e (TI' X T C W (.seq e')) := by
  refine PI.imp (pi_seqA h) fun σ H R q => ?_
  obtain ⟨ρ, σD, st, r, s, q⟩ := q
  unfold wIt at q
  refine step1 g r s .refl q fun ρ1 H1 d st1 x e1 r1 s1 rd q1 => ?_
  unfold seqIt at q1
  split at q1
  · obtain ⟨a, vs, rfl, h1, h2⟩ := rd.tup_
    exact .inr (.inl ⟨a, vs, rfl, h1, q1 ρ1 H1 _ e1 r1 trivial (sim_tup h1 h2)⟩)
  · obtain ⟨a, vs, rfl, h1, h2⟩ := rd.fro_
    exact .inl ⟨a, vs, rfl, h1.sq, q1 ρ1 H1 _ e1 r1 trivial (sim_fro h1 h2)⟩
  · cases rd.str_
    exact .inr (.inr ⟨_, rfl, q1 ρ1 H1 _ e1 r1 trivial sim_str⟩)
  · split at q1
    · rename_i l hl
      obtain ⟨a, vs, rfl, ha, h1, h2⟩ := lst_at r1 rd hl
      exact .inl ⟨a, vs, rfl, .of h1, q1 ρ1 H1 _ e1 r1 hl (sim_lst ha)⟩
    · exact q1.elim
  · exact q1.elim
theorem i_rng1 (g : Gd X T C N sc W lev) {tg a : Expr} {a' : E} {p pos : Pos} (hg : isGl sc "range" = true) (hst : plainArgs [a]) (h : PE X a (TE' X T C W a')) : PI X tg (.Call (.Name "range" p) [a] [] pos) (TI' X T C W (.rng1 a')) := by
  obtain ⟨h1, h2, h3⟩ := gl_ok g hg
  refine PI.imp (pi_range1 h1 (g.pr.blt _ (by decide +kernel)) (q_cons g h q_nil (plain_cons hst _)) (plain_cons hst _)) fun σ H R q => ?_
  obtain ⟨ρ, σD, st, r, s, q⟩ := q
  unfold wIt at q
  have q' : wEs T C [a'] σD st (fun ds st' => ∃ j, ds = [.int j] ∧ -(2 ^ 62) ≤ j ∧ j < 2 ^ 62 ∧ (∀ ρ' H' J, Ext ρ ρ' H H' → RelS X.prog X.w X.K T.toNames ρ' st' H' → True → SimJ X.prog X.w X.K T.toNames J (rngD 0 j.toNat) (fun _ => True) ρ' H' → R J H')) (PoX X.prog X.w X.K T.toNames ρ H σ W) := by
    unfold wEs
    refine g.mE a' _ _ _ _ _ _ (fun d st' z => ?_) (fun _ _ z => z) q
    unfold wEs
    split at z
    · exact ⟨_, rfl, z.1, z.2.1, z.2.2⟩
    · exact z.elim
  refine stepA g r s .refl q' fun ρ1 H1 ds st1 xs e1 r1 s1 rds q1 => ?_
  obtain ⟨j, rfl, b1, b2, q1⟩ := q1
  obtain ⟨v, rfl, rd⟩ := rds.one
  cases rd.int_
  exact ⟨j, rfl, b1, b2, q1 ρ1 H1 _ e1 r1 trivial sim_rng⟩
theorem i_rng2 (g : Gd X T C N sc W lev) {tg a b : Expr} {a' b' : E} {p pos : Pos} (hg : isGl sc "range" = true) (hst : plainArgs [a, b]) (ha : PE X a (TE' X T C W a')) (hb : PE X b (TE' X T C W b')) : PI X tg (.Call (.Name "range" p) [a, b] [] pos) (TI' X T C W (.rng2 a' b')) := by
  obtain ⟨h1, h2, h3⟩ := gl_ok g hg
  have hst2 : plainArgs [b] := fun y hy => hst y (List.mem_cons_of_mem _ hy)
  refine PI.imp (pi_range2 h1 (g.pr.blt _ (by decide +kernel)) (q_cons g ha (q_cons g hb q_nil (plain_cons hst2 _)) (plain_cons hst _)) (by rw [plain_cons hst, plain_cons hst2]; rfl) (plain_cons hst2 _)) fun σ H R q => ?_
  obtain ⟨ρ, σD, st, r, s, q⟩ := q
  unfold wIt at q
  have q' : wEs T C [a', b'] σD st (fun ds st' => ∃ i j, ds = [.int i, .int j] ∧ (-(2 ^ 62) ≤ i ∧ i < 2 ^ 62 ∧ -(2 ^ 62) ≤ j ∧ j < 2 ^ 62) ∧ (∀ ρ' H' J, Ext ρ ρ' H H' → RelS X.prog X.w X.K T.toNames ρ' st' H' → True → SimJ X.prog X.w X.K T.toNames J (rngD i (j - i).toNat) (fun _ => True) ρ' H' → R J H')) (PoX X.prog X.w X.K T.toNames ρ H σ W) := by
    unfold wEs
    refine g.mE a' _ _ _ _ _ _ (fun d st' z => ?_) (fun _ _ z => z) q
    unfold wEs
    refine g.mE b' _ _ _ _ _ _ (fun d2 st2 z => ?_) (fun _ _ z => z) z
    unfold wEs
    split at z
    · exact ⟨_, _, rfl, z.1, z.2⟩
    · exact z.elim
  refine stepA g r s .refl q' fun ρ1 H1 ds st1 xs e1 r1 s1 rds q1 => ?_
  obtain ⟨i, j, rfl, b1, q1⟩ := q1
  obtain ⟨v, u, rfl, rd, rd2⟩ := rds.two
  cases rd.int_
  cases rd2.int_
  exact ⟨i, j, rfl, b1, q1 ρ1 H1 _ e1 r1 trivial sim_rng⟩
theorem i_enum (g : Gd X T C N sc W lev) {elts : List Expr} {kk : Nat} {tpos : Pos} {a : Expr} {a' : E} {p pos : Pos} (hg : isGl sc "enumerate" = true) (hst : plainArgs [a]) (h : PE X a (TE' X T C W a')) : PI X (.Tuple elts kk tpos) (.Call (.Name "enumerate" p) [a] [] pos) (TI' X T C W (.enum a')) := by
  obtain ⟨h1, h2, h3⟩ := gl_ok g hg
  refine PI.imp (pi_enumA h1 (g.pr.blt _ (by decide +kernel)) (q_cons g h q_nil (plain_cons hst _)) (plain_cons hst _)) fun σ H R q => ?_
  obtain ⟨ρ, σD, st, r, s, q⟩ := q
  unfold wIt at q
  have q' : wEs T C [a'] σD st (fun ds st' => ∃ d, ds = [d] ∧ seqIt2 d st' fun l G st2 => ∀ ρ' H' J, Ext ρ ρ' H H' → RelS X.prog X.w X.K T.toNames ρ' st2 H' → G st2 → SimJ X.prog X.w X.K T.toNames J (enumD l) G ρ' H' → R J H') (PoX X.prog X.w X.K T.toNames ρ H σ W) := by
    unfold wEs
    refine g.mE a' _ _ _ _ _ _ (fun d st' z => ?_) (fun _ _ z => z) q
    unfold wEs
    exact ⟨_, rfl, z⟩
  refine stepA g r s .refl q' fun ρ1 H1 ds st1 xs e1 r1 s1 rds q1 => ?_
  obtain ⟨d, rfl, q1⟩ := q1
  obtain ⟨v, rfl, rd⟩ := rds.one
  unfold seqIt2 at q1
  split at q1
  · obtain ⟨a, vs, rfl, h1, h2⟩ := rd.tup_
    exact ⟨a, rfl, .inr ⟨vs, h1, q1 ρ1 H1 _ e1 r1 trivial (sim_enumT (sim_tup h1 h2))⟩⟩
  · obtain ⟨a, vs, rfl, h1, h2⟩ := rd.fro_
    exact ⟨a, rfl, .inl ⟨vs, h1.sq, q1 ρ1 H1 _ e1 r1 trivial (sim_enum (sim_fro h1 h2))⟩⟩
  · split at q1
    · rename_i l hl
      obtain ⟨a, vs, rfl, ha, h1, h2⟩ := lst_at r1 rd hl
      exact ⟨a, rfl, .inl ⟨vs, .of h1, q1 ρ1 H1 _ e1 r1 hl (sim_enum (sim_lst ha))⟩⟩
    · exact q1.elim
  · exact q1.elim
end
end Z
end
section
set_option linter.all false
set_option maxRecDepth 100000
set_option maxHeartbeats 4000000
namespace Z
open PySem PySem.Spec PyProof.Rows L2
section
variable {X : Cx} {T : Tab} {C : CallS} {N : List Str} {sc : Scope} {W : WX} {lev : Nat}
/-! ### zip -/
/-- two lists side by side, by their items -/
theorem sim_zip {P : Program} {w : World} {K : PySem.W.Frag} {T : Names} {ρ : List Addr} {H : Hp} {a b : Addr} {l l' : List D} {G G' : Sto → Prop} (s : SimJ P w K T (Itl K a) l G ρ H) (s' : SimJ P w K T (Itl K b) l' G' ρ H) :
    SimJ P w K T (Itz K a b) (List.zipWith (fun x y => .tup [x, y]) l l') (fun st => G st ∧ G' st) ρ H where
  go := fun j d st ρ1 H1 r e g hd => by
    rw [List.getElem?_zipWith] at hd
    cases hx : l[j]? with
    | none => rw [hx] at hd; cases hd
    | some x =>
      cases hy : l'[j]? with
      | none => rw [hx, hy] at hd; cases hd
      | some y =>
        rw [hx, hy] at hd
        cases hd
        obtain ⟨⟨xs, u, hx1, hx2⟩, h2⟩ := s.go j x st ρ1 H1 r e g.1 hx
        obtain ⟨⟨ys, v, hy1, hy2⟩, h3⟩ := s'.go j y st ρ1 H1 r e g.2 hy
        refine ⟨⟨xs, ys, u, v, hx1, hy1, hx2, hy2⟩, fun z H' ⟨t, u', v', e1, ht, e2, hz1, hz2⟩ => ?_⟩
        subst e1 e2
        obtain ⟨_, _, ru⟩ := h2 u' H1 ⟨rfl, hz1⟩
        obtain ⟨_, _, rv⟩ := h3 v' H1 ⟨rfl, hz2⟩
        exact new_pair r ht ru rv
  stop := fun j st ρ1 H1 r e g hd => by
    rw [List.length_zipWith] at hd
    by_cases h : l.length ≤ j
    · obtain ⟨xs, hx, hl⟩ := s.stop j st ρ1 H1 r e g.1 h
      by_cases h' : l'.length ≤ j
      · obtain ⟨ys, hy, hl'⟩ := s'.stop j st ρ1 H1 r e g.2 h'
        exact ⟨xs, ys, hx, hy, .inl hl⟩
      · obtain ⟨⟨ys, v, hy, _⟩, _⟩ := s'.go j l'[j] st ρ1 H1 r e g.2 (List.getElem?_eq_getElem (by omega))
        exact ⟨xs, ys, hx, hy, .inl hl⟩
    · obtain ⟨⟨xs, v, hx, _⟩, _⟩ := s.go j l[j] st ρ1 H1 r e g.1 (List.getElem?_eq_getElem (by omega))
      obtain ⟨ys, hy, hl'⟩ := s'.stop j st ρ1 H1 r e g.2 (by omega)
      exact ⟨xs, ys, hx, hy, .inr hl'⟩
theorem lstIt_at {d : D} {st : Sto} {R : IQ} {ρ : List Addr} {H : Hp} {v : V} (r : RelS X.prog X.w X.K T.toNames ρ st H) (rd : RelD X.K ρ H d v) (p : lstIt d st R) : ∃ a vs l G, v = .ref a ∧ SqL X.K H a vs ∧ G st ∧ SimJ X.prog X.w X.K T.toNames (Itl X.K a) l G ρ H ∧ R l G st := by
  unfold lstIt at p
  split at p
  · obtain ⟨a, vs, rfl, h1, h2⟩ := rd.fro_
    exact ⟨a, vs, _, _, rfl, h1.sq, trivial, sim_fro h1 h2, p⟩
  · split at p
    · rename_i l hl
      obtain ⟨a, vs, rfl, ha, h1, h2⟩ := lst_at r rd hl
      exact ⟨a, vs, _, _, rfl, .of h1, hl, sim_lst ha, p⟩
    · exact p.elim
  · exact p.elim
theorem i_zip (g : Gd X T C N sc W lev) {elts : List Expr} {kk : Nat} {tpos : Pos} {a b : Expr} {a' b' : E} {p pos : Pos} (hg : isGl sc "zip" = true) (hst : plainArgs [a, b]) (ha : PE X a (TE' X T C W a')) (hb : PE X b (TE' X T C W b')) : PI X (.Tuple elts kk tpos) (.Call (.Name "zip" p) [a, b] [] pos) (TI' X T C W (.zip a' b')) := by
  obtain ⟨h1, h2, h3⟩ := gl_ok g hg
  have hst2 : plainArgs [b] := fun y hy => hst y (List.mem_cons_of_mem _ hy)
  refine PI.imp (pi_zip h1 (g.pr.blt _ (by decide +kernel)) (q_cons g ha (q_cons g hb q_nil (plain_cons hst2 _)) (plain_cons hst _)) (plain_cons hst _) (back_plain hst2)) fun σ H R q => ?_
  obtain ⟨ρ, σD, st, r, s, q⟩ := q
  unfold wIt at q
  have q' : wEs T C [a', b'] σD st (fun ds st' => ∃ d d', ds = [d, d'] ∧ lstIt d st' fun l G st2 => lstIt d' st2 fun l' G' st3 => ∀ ρ' H' J, Ext ρ ρ' H H' → RelS X.prog X.w X.K T.toNames ρ' st3 H' → (G st3 ∧ G' st3) → SimJ X.prog X.w X.K T.toNames J (List.zipWith (fun x y => .tup [x, y]) l l') (fun st => G st ∧ G' st) ρ' H' → R J H') (PoX X.prog X.w X.K T.toNames ρ H σ W) := by
    unfold wEs
    refine g.mE a' _ _ _ _ _ _ (fun d st' z => ?_) (fun _ _ z => z) q
    unfold wEs
    refine g.mE b' _ _ _ _ _ _ (fun d2 st2 z => ?_) (fun _ _ z => z) z
    unfold wEs
    exact ⟨_, _, rfl, z⟩
  refine stepA g r s .refl q' fun ρ1 H1 ds st1 xs e1 r1 s1 rds q1 => ?_
  obtain ⟨d, d', rfl, q1⟩ := q1
  obtain ⟨v, u, rfl, rd, rd2⟩ := rds.two
  obtain ⟨x, vs, l, G, rfl, hx, g1, sm, q2⟩ := lstIt_at r1 rd q1
  obtain ⟨y, us, l', G', rfl, hy, g2, sm', q3⟩ := lstIt_at r1 rd2 q2
  exact ⟨x, y, vs, us, rfl, hx, hy, q3 ρ1 H1 _ e1 r1 ⟨g1, g2⟩ (sim_zip sm sm')⟩

/-! ### list comprehensions -/
theorem Gd.blk (g : Gd X T C N sc W lev) (s : Shared) (H : Hp) (scope : Scope) (C' : Addr) (cl : List (Str × Addr)) (fp : List Addr) : Gd (X.blk s H scope (compEnvC scope cl C' X.env) fp) T C N (relS scope sc) (fun _ _ _ _ => False) lev where
  nm := g.nm
  sc := by
    show relS scope X.env.scope = relS scope sc
    rw [g.sc]
  nd := g.nd
  calm := g.calm
  room := g.room
  tk := takes0
  pr := g.pr
theorem own_snd (l : List Nat) : (ownOf N l).map (·.2) = l := by
  unfold ownOf
  rw [List.map_map]
  exact List.map_id'' (fun _ => rfl) l
/-- the block's meaning, turn by turn -/
theorem lc_turns (g : Gd X T C N sc W lev) {tg : Tg} {σ : L2.St} {σD : Z.Loc} {ρ ρ1 : List Addr} {H H1 : Hp} {st1 : Sto} {J : L2.It} {ds : List D} {G : Sto → Prop} {Q : VK} {tt : TT} {te : TE} {f : Z.Loc → Sto → (Option D → Sto → Prop) → Prop}
    (e1 : Ext ρ ρ1 H H1) (r1 : RelS X.prog X.w X.K T.toNames ρ1 st1 H1) (s1 : Sl X.K ρ1 H1 σD σ) (sm : SimJ X.prog X.w X.K T.toNames J ds G ρ1 H1) (hG : G (st1 ++ [.lst []]))
    (q : lcL (fun d st2 R => match wTg tg d (wipeD σD (tgSlots tg)) with
        | some σ2 => f σ2 st2 R
        | none => False) G st1.length (fun st' => PoE X.prog X.w X.K T.toNames ρ H Q (.ref st1.length) st') ds (st1 ++ [.lst []]))
    (hf : ∀ {ρc σ2D stc σ2 Hc} {R : Option D → Sto → Prop} {Q1 : V → Hp → Prop} {Q0 : Hp → Prop}, RelS X.prog X.w X.K T.toNames ρc stc Hc → Sl X.K ρc Hc σ2D σ2 → f σ2D stc R →
      (∀ ρ4 H4 y st4 v, Ext ρc ρ4 Hc H4 → RelS X.prog X.w X.K T.toNames ρ4 st4 H4 → RelD X.K ρ4 H4 y v → R (some y) st4 → Q1 v H4) → (∀ ρ4 H4 st4, Ext ρc ρ4 Hc H4 → RelS X.prog X.w X.K T.toNames ρ4 st4 H4 → R none st4 → Q0 H4) →
      tt σ2 Hc fun b H3 => if b = true then te σ2 H3 Q1 else Q0 H3) (D' : Addr) (hD : H1 D' = none) :
    ∃ Wv : Nat → Nat → Hp → Prop, (∃ m, Wv 0 m (upd H1 D' (.lst []))) ∧ ∀ i m Hc, Wv i m Hc →
      (J.stop i Hc ∧ Q (.ref D') Hc) ∨ (J.go i Hc ∧ ∃ Nx : Hp → Prop, (∀ H', Nx H' → ∃ m', m' < m ∧ Wv (i + 1) m' H') ∧ ∀ x H', J.yld i Hc x H' → gOf X.prog X.w X.K T.toNames tg x (wipe σ (tgSlots tg)) H' fun σ2 H2 => wipe σ2 (tgSlots tg) = wipe σ (tgSlots tg) ∧ tt σ2 H2 fun b H3 =>
        if b = true then te σ2 H3 fun y H4 => ∃ acc, H4 D' = some (.lst acc) ∧ acc.length < sizeLine ∧ Nx (upd H4 D' (.lst (acc ++ [y]))) else Nx H3) := by
  have r2 : RelS X.prog X.w X.K T.toNames (ρ1 ++ [D']) (st1 ++ [.lst []]) (upd H1 D' (.lst [])) := r1.push hD ⟨[], upd_same, .nil⟩
  have e2 : Ext ρ1 (ρ1 ++ [D']) H1 (upd H1 D' (.lst [])) := .new hD
  have hn : (ρ1 ++ [D'])[st1.length]? = some D' := by rw [← r1.len, List.getElem?_append_right (Nat.le_refl _), Nat.sub_self]; rfl
  generalize hff : (fun d st2 R => match wTg tg d (wipeD σD (tgSlots tg)) with
        | some σ2 => f σ2 st2 R
        | none => False) = ff at q
  refine ⟨fun i m Hc => m = ds.length - i ∧ i ≤ ds.length ∧ ∃ ρc stc, Ext (ρ1 ++ [D']) ρc (upd H1 D' (.lst [])) Hc ∧ RelS X.prog X.w X.K T.toNames ρc stc Hc ∧ G stc ∧ lcL ff G st1.length (fun st' => PoE X.prog X.w X.K T.toNames ρ H Q (.ref st1.length) st') (ds.drop i) stc,
    ⟨ds.length, by simp, Nat.zero_le _, _, _, .refl, r2, hG, by rw [List.drop_zero]; exact q⟩, ?_⟩
  rintro i m Hc ⟨rfl, hi, ρc, stc, ec, rc, gc, qc⟩
  by_cases hlt : i < ds.length
  · rw [List.drop_eq_getElem_cons hlt] at qc
    unfold lcL at qc
    obtain ⟨hgo, hy⟩ := sm.go i ds[i] stc ρc Hc rc (e2.trans ec) gc (List.getElem?_eq_getElem hlt)
    refine .inr ⟨hgo, fun Hn => ∃ ρn stn, Ext (ρ1 ++ [D']) ρn (upd H1 D' (.lst [])) Hn ∧ RelS X.prog X.w X.K T.toNames ρn stn Hn ∧ G stn ∧ lcL ff G st1.length (fun st' => PoE X.prog X.w X.K T.toNames ρ H Q (.ref st1.length) st') (ds.drop (i + 1)) stn,
      fun H' ⟨ρn, stn, en, rn, gn, qn⟩ => ⟨ds.length - (i + 1), by omega, rfl, hlt, ρn, stn, en, rn, gn, qn⟩, fun x H' hx => ?_⟩
    obtain ⟨e3, r3, rd3⟩ := hy x H' hx
    rw [← hff] at qc
    split at qc
    · rename_i σ2 hw
      have s3 := (s1.ext (e2.trans (ec.trans e3))).wipe (tgSlots tg)
      refine ⟨ρc, _, stc, _, σ2, r3, s3, rd3, hw, fun σ' s' o => ⟨by rw [o.wipe, wipe_wipe], ?_⟩⟩
      refine hf r3 s' qc (fun ρ4 H4 y st4 v e4 r4 rd4 hR => ?_) (fun ρ4 H4 st4 e4 r4 hR => ?_)
      · obtain ⟨g4, hR⟩ := hR
        simp only at hR
        split at hR
        · rename_i acc hacc
          have h4 : ρ4[st1.length]? = some D' := e4.pre _ _ (ec.pre _ _ hn)
          obtain ⟨vs, h5, h6⟩ := r4.obj _ _ D' hacc h4
          obtain ⟨r5, e5⟩ := r4.set (o' := .lst (acc ++ [y])) (u := .lst (vs ++ [v])) hacc h4 fun e => ⟨_, upd_same, (h6.append (.cons rd4 .nil)).ext e⟩
          exact ⟨vs, h5, by rw [← h6.len]; exact hR.1, ρ4, _, ((ec.trans e3).trans e4).trans e5, r5, hR.2.1, by rw [hff] at hR; exact hR.2.2⟩
        · exact hR.elim
      · obtain ⟨g4, hR⟩ := hR
        exact ⟨ρ4, st4, (ec.trans e3).trans e4, r4, g4, by rw [hff] at hR; exact hR⟩
    · exact qc.elim
  · have hi2 : i = ds.length := by omega
    subst hi2
    rw [List.drop_length] at qc
    unfold lcL at qc
    exact .inl ⟨sm.stop _ stc ρc Hc rc (e2.trans ec) gc (Nat.le_refl _), qc ρc Hc _ ((e1.trans e2).trans ec) rc (.ref (ec.pre _ _ hn))⟩
end
end Z
end
section
set_option linter.all false
set_option maxRecDepth 100000
set_option maxHeartbeats 4000000
namespace Z
open PySem PySem.Spec PyProof.Rows L2
section
variable {X : Cx} {T : Tab} {C : CallS} {N : List Str} {sc : Scope} {W : WX} {lev : Nat}
theorem fold_ok {e : Expr} (h : notSet e = true) (env : Env) (x : Value) : foldedSetIterable e env x = pure x := by
  cases e <;> first | rfl | cases h
/-- what one knows of a list comprehension, ready for either of its forms -/
def LcOk (X : Cx) (elt : Expr) (gs : List Comprehension) (scope : Scope) (T' : TE) : Prop := ∃ tg it ifs wi g tt te own, gs = [⟨tg, it, ifs, 0⟩] ∧ PI X tg it wi ∧ BlkOk X.N X.env.scope scope own ∧
  (∀ (s : Shared) (H : Hp) (C : Addr) (cl : List (Str × Addr)) (fp : List Addr), PG (X.blk s H scope (compEnvC scope cl C X.env) fp) tg g) ∧ (∀ (s : Shared) (H : Hp) (C : Addr) (cl : List (Str × Addr)) (fp : List Addr), PTs (X.blk s H scope (compEnvC scope cl C X.env) fp) ifs tt) ∧
  (∀ (s : Shared) (H : Hp) (C : Addr) (cl : List (Str × Addr)) (fp : List Addr), PE (X.blk s H scope (compEnvC scope cl C X.env) fp) elt te) ∧ (∀ x, foldedSetIterable it X.env x = pure x) ∧ ∀ σ H Q, T' σ H Q → tLc wi g tt te (own.map (·.2)) σ H Q
theorem LcOk.pe {elt : Expr} {gs : List Comprehension} {scope : Scope} {T' : TE} {pos : Pos} (h : LcOk X elt gs scope T') (hc : X.calm = true) (hN : X.N.Nodup) : PE X (.ListComp elt gs scope pos) T' := by
  obtain ⟨tg, it, ifs, wi, g, tt, te, own, rfl, h1, h2, h3, h4, h5, h6, h7⟩ := h
  exact PE.imp (pe_lc hc hN h1 h2 h3 h4 h5 h6) h7
theorem LcOk.ps {elt : Expr} {gs : List Comprehension} {scope : Scope} {T' : TE} {pos spos py : Pos} {y : Str} {i : Nat} (h : LcOk X elt gs scope T') (hc : X.calm = true) (hN : X.N.Nodup) (hy : X.N[i]? = some y) (hyl : X.env.scope.names.lookup y = some .local)
    (hsw : swapsWith (.ListComp elt gs scope pos) (some (.Name y py)) spos.line X.env = pure true) : PS X (.Assign [.Name y py] (.ListComp elt gs scope pos) spos) (tAsg T' (gName i)) := by
  obtain ⟨tg, it, ifs, wi, g, tt, te, own, rfl, h1, h2, h3, h4, h5, h6, h7⟩ := h
  exact PS.imp (ps_setLc hc hN hy hyl hsw h1 h2 h3 h4 h5 h6) fun D σ H q => h7 _ _ _ q
/-- what a block is to do -/
theorem q_lc0 (g : Gd X T C N sc W lev) {tg : Expr} {tg' : Tg} {it elt : Expr} {ifs : List Expr} {it' : It} {scope : Scope} {te : TE} {tt : TT} {f : Z.Loc → Sto → (Option D → Sto → Prop) → Prop} {T' : TE}
    (htg : cTg N (relS scope sc) (isCell scope) tg = some tg') (hb : blkC N sc scope (ownOf N (tgSlots tg')) = true) (hi : PI X tg it (TI' X T C W it')) (hs : ∀ x, foldedSetIterable it X.env x = pure x)
    (ht : ∀ (s : Shared) (H : Hp) (C' : Addr) (cl : List (Str × Addr)) (fp : List Addr), PTs (X.blk s H scope (compEnvC scope cl C' X.env) fp) ifs tt)
    (he : ∀ (s : Shared) (H : Hp) (C' : Addr) (cl : List (Str × Addr)) (fp : List Addr), PE (X.blk s H scope (compEnvC scope cl C' X.env) fp) elt te)
    (hf : ∀ {ρc σ2D stc σ2 Hc} {R : Option D → Sto → Prop} {Q1 : V → Hp → Prop} {Q0 : Hp → Prop}, RelS X.prog X.w X.K T.toNames ρc stc Hc → Sl X.K ρc Hc σ2D σ2 → f σ2D stc R →
      (∀ ρ4 H4 y st4 v, Ext ρc ρ4 Hc H4 → RelS X.prog X.w X.K T.toNames ρ4 st4 H4 → RelD X.K ρ4 H4 y v → R (some y) st4 → Q1 v H4) → (∀ ρ4 H4 st4, Ext ρc ρ4 Hc H4 → RelS X.prog X.w X.K T.toNames ρ4 st4 H4 → R none st4 → Q0 H4) →
      tt σ2 Hc fun b H3 => if b = true then te σ2 H3 Q1 else Q0 H3)
    (hT : ∀ σ H Q, T' σ H Q → ∃ ρ σD st, RelS X.prog X.w X.K T.toNames ρ st H ∧ Sl X.K ρ H σD σ ∧ wIt T C it' σD st (fun ds G st1 => G (st1 ++ [.lst []]) ∧ lcL (fun d st2 R => match wTg tg' d (wipeD σD (tgSlots tg')) with
        | some σ2 => f σ2 st2 R
        | none => False) G st1.length (fun st' => PoE X.prog X.w X.K T.toNames ρ H Q (.ref st1.length) st') ds (st1 ++ [.lst []])) (PoX X.prog X.w X.K T.toNames ρ H σ W)) :
    LcOk X elt [⟨tg, it, ifs, 0⟩] scope T' := by
  refine ⟨tg, it, ifs, _, gOf X.prog X.w X.K T.toNames tg', tt, te, ownOf N (tgSlots tg'), rfl, hi, blkOk_by (by rw [g.nm, g.sc]; exact hb), fun s H C' cl fp => q_tg (g.blk s H scope C' cl fp) (fun x hx => hx) tg tg' htg, ht, he, hs, fun σ H Q q => ?_⟩
  obtain ⟨ρ, σD, st, r, s, q⟩ := hT _ _ _ q
  rw [own_snd]
  refine ⟨ρ, σD, st, r, s, Z.mI g.pr.mon it' _ _ _ _ _ _ (fun ds G st1 z => ?_) (fun _ _ z => z) q⟩
  intro ρ1 H1 J e1 r1 hG sm D' hD
  exact lc_turns g e1 r1 (s.ext e1) sm z.1 z.2 hf D' hD
theorem q_lc (g : Gd X T C N sc W lev) {tg : Expr} {tg' : Tg} {it elt : Expr} {it' : It} {elt' : E} {scope : Scope}
    (htg : cTg N (relS scope sc) (isCell scope) tg = some tg') (hb : blkC N sc scope (ownOf N (tgSlots tg')) = true) (hi : PI X tg it (TI' X T C W it')) (hs : ∀ x, foldedSetIterable it X.env x = pure x)
    (he : ∀ (s : Shared) (H : Hp) (C' : Addr) (cl : List (Str × Addr)) (fp : List Addr), PE (X.blk s H scope (compEnvC scope cl C' X.env) fp) elt (TE' X T C (fun _ _ _ _ => False) elt')) :
    LcOk X elt [⟨tg, it, [], 0⟩] scope (TE' X T C W (.lc (tgSlots tg') tg' it' elt')) := by
  refine q_lc0 g htg hb hi hs (fun s H C' cl fp => pts_nil) he (f := fun σ2 st2 R => wE T C elt' σ2 st2 (fun y st3 => R (some y) st3) (fun _ _ => False)) (fun {ρc σ2D stc σ2 Hc R Q1 Q0} r s q h1 h0 => ?_) fun σ H Q q => ?_
  · show TE' X T C _ elt' σ2 Hc Q1
    refine ⟨ρc, σ2D, stc, r, s, g.mE elt' _ _ _ _ _ _ (fun d st' z => ?_) (fun _ _ z => z.elim) q⟩
    intro ρ4 H4 v e4 r4 rd
    exact h1 ρ4 H4 d st' v e4 r4 rd z
  · obtain ⟨ρ, σD, st, r, s, q⟩ := q
    unfold wE at q
    exact ⟨ρ, σD, st, r, s, q⟩
theorem q_lcif (g : Gd X T C N sc W lev) {tg : Expr} {tg' : Tg} {it t elt : Expr} {it' : It} {t' elt' : E} {scope : Scope}
    (htg : cTg N (relS scope sc) (isCell scope) tg = some tg') (hb : blkC N sc scope (ownOf N (tgSlots tg')) = true) (hi : PI X tg it (TI' X T C W it')) (hs : ∀ x, foldedSetIterable it X.env x = pure x)
    (ht : ∀ (s : Shared) (H : Hp) (C' : Addr) (cl : List (Str × Addr)) (fp : List Addr), PT (X.blk s H scope (compEnvC scope cl C' X.env) fp) t (TT' X T C (fun _ _ _ _ => False) t'))
    (he : ∀ (s : Shared) (H : Hp) (C' : Addr) (cl : List (Str × Addr)) (fp : List Addr), PE (X.blk s H scope (compEnvC scope cl C' X.env) fp) elt (TE' X T C (fun _ _ _ _ => False) elt')) :
    LcOk X elt [⟨tg, it, [t], 0⟩] scope (TE' X T C W (.lcif (tgSlots tg') tg' it' t' elt')) := by
  refine q_lc0 g htg hb hi hs (fun s H C' cl fp => pts_one (ht s H C' cl fp)) he (f := fun σ2 st2 R => wE T C t' σ2 st2 (fun b st3 => bl2 b (wE T C elt' σ2 st3 (fun y st4 => R (some y) st4) (fun _ _ => False)) (R none st3)) (fun _ _ => False)) (fun {ρc σ2D stc σ2 Hc R Q1 Q0} r s q h1 h0 => ?_) fun σ H Q q => ?_
  · refine ⟨ρc, σ2D, stc, r, s, g.mE t' _ _ _ _ _ _ (fun d st' z => ?_) (fun _ _ z => z.elim) q⟩
    obtain ⟨b, rfl, z⟩ := bl2_bl z
    refine ⟨b, rfl, fun ρ3 H3 e3 r3 => ?_⟩
    cases b with
    | false => exact h0 ρ3 H3 st' e3 r3 z
    | true =>
      show TE' X T C _ elt' σ2 H3 Q1
      refine ⟨ρ3, σ2D, st', r3, s.ext e3, g.mE elt' _ _ _ _ _ _ (fun d st4 z => ?_) (fun _ _ z => z.elim) z⟩
      intro ρ4 H4 v e4 r4 rd
      exact h1 ρ4 H4 d st4 v (e3.trans e4) r4 rd z
  · obtain ⟨ρ, σD, st, r, s, q⟩ := q
    unfold wE at q
    exact ⟨ρ, σD, st, r, s, q⟩
end
end Z
end
section
set_option linter.all false
set_option maxRecDepth 100000
set_option maxHeartbeats 4000000
namespace PySem.W
open PySem PySem.Calls PyProof.Rows
section
variable {prog : Program} {w : World} {A : Around} {E : Value → Shared → Prop} {s : Shared} {K : Frag} {x D : Addr} {ox : Obj} {od : Option Obj}
theorem zfind_data {C : Addr} {name : Str} {a g : Value} (hc : (clsIn K C).isSome = true) (ha : findIn K (.ref C) name = some (some a)) (hg : specialIn K a "__get__" = some (some g)) (ht : takesIn K a = some true) : findObj K C od name = some (.bind g a) := by
  obtain ⟨cd, hc⟩ := Option.isSome_iff_exists.mp hc
  unfold findObj
  rw [hc, Option.bind_some, ha, Option.bind_some]
  simp [hg, ht]
theorem zkin_class {Q : Option Value → Shared → Prop} (hga : findIn K (.ref D) "__getattribute__" = some (some (.builtin "BaseException.__getattribute__"))) (hgt : findIn K (.ref D) "__getattr__" = some none) (hsub : subIn K (.ref D) (.type "BaseException") = some true)
    (hdct : hasDictIn K D = true) (ha : findIn K (.ref D) "__class__" = some (some (.builtin "object.__class__")))
    (hn : specialIn K (.builtin "object.__class__") "__get__" = some (some (.builtin "getset_descriptor.__get__"))) (htk : takesIn K (.builtin "object.__class__") = some true) (hm : mroIn K D (.type "object") = some true)
    (X : K.In s.heap) (I : InstAt s.heap x ox D od) (h : Q (some (.ref D)) { s with toks := s.toks + 1 }) : wpAny (model prog w) A (getAttr? (.ref x) "__class__") Q E s := by
  have hf : findObj K D od "__class__" = some (.bind (.builtin "getset_descriptor.__get__") (.builtin "object.__class__")) := zfind_data (by obtain ⟨cd, hc, _⟩ := any_some hdct; rw [hc]; rfl) ha hn htk
  obtain ⟨hp, g, d, t, os⟩ := s
  have L0 := I.type (M := model prog w)
  have L1 := looks_findIn (M := model prog w) X hga
  have L2 := looks_findIn (M := model prog w) X hgt
  have L3 := looks_find (M := model prog w) X I hf
  have sub : Looks (model prog w) hp (isInstance (.ref x) (.type "BaseException")) true := L0.andThen (looks_subIn X hsub)
  have hx0 : (false && onTheHeap (Value.builtin "BaseException.__getattribute__")) = false := rfl
  have hx2 : (Value.builtin "BaseException.__getattribute__" == Value.builtin "object.__getattribute__") = false := by decide +kernel
  have hx1 : (onTheHeap (Value.ref D) && Value.builtin "BaseException.__getattribute__" == Value.builtin "object.__getattribute__") = false := by rw [hx2]; rfl
  unfold getAttr? getAttrBy? getAttrBy
  refine wpAny_bind (wpAny_mkText (wpAny_bind (wpAny_attempt (wpAny_holding (wpAny_bind (L0.at (wpAny_bind (L1.at ?_))))))))
  show wpAny _ _ (if (onTheHeap (Value.ref D) && Value.builtin "BaseException.__getattribute__" == Value.builtin "object.__getattribute__") = true then _ else _) _ _ _
  rw [hx1, if_neg Bool.false_ne_true]
  unfold getAttrByItsOwn hookBefore
  refine wpAny_bind ?_
  rw [if_pos (show onTheHeap (Value.ref D) = true from rfl)]
  refine L2.at ?_
  refine wpAny_bind (wpAny_attempt (wpAny_holding ?_))
  unfold callGetattribute
  rw [hx0, if_neg Bool.false_ne_true]
  unfold boundAndCalled
  rw [PySem.F.excAttr_ValueError.ga.bind (.ref x)]
  refine wpAny_bind (wpAny_pure ?_)
  show wpAny _ _ (call (.builtin "BaseException.__getattribute__") [.ref x, .str "__class__" t]) _ _ _
  refine wpAny_call (codeAny_call_builtin PySem.F.excAttr_ValueError.ga.plain PySem.F.entry_bexc_ga ?_)
  refine @check_slot (model prog w) _ _ ⟨hp, g, d, t + 1, os⟩ "BaseException.__getattribute__" "BaseException" "__getattribute__" (.ref x) [.str "__class__" t] [] _ (by decide +kernel) (by decide +kernel) sub (PySem.F.args_bexc_ga (.ref x) (.str "__class__" t)) ?_
  unfold Builtin.«object.__getattribute__»
  refine wpAny_bind (wpAny_of_eq (a := ((Value.ref x : Value), [Value.str "__class__" t])) (by first | rfl | (simp only [slotArgs]; rfl)) ?_)
  refine wpAny_bind (wpAny_pure (wpAny_bind (L0.at (wpAny_bind (L3.at ?_)))))
  show wpAny _ _ (holding [Value.builtin "object.__class__"] (call (.builtin "getset_descriptor.__get__") [.builtin "object.__class__", .ref x, .ref D]) >>= ret) _ _ _
  refine wpAny_bind (wpAny_holding (wpAny_call (class_get (s := ⟨hp, g, d, t + 1, os⟩) (ox := ox) (od := od) X I hm ?_)))
  refine wpAny_pure ?_
  show wpAny _ _ (handedOut (.ref D)) _ _ _
  rw [handedOut_of (v := .ref D) rfl]
  first
    | exact wpAny_pure (wpAny_pure h)
    | exact wpAny_pure h
    | exact wpAny_pure (wpAny_bind (wpAny_pure (wpAny_pure h)))
theorem zkitx (hga : findIn K (.ref D) "__getattribute__" = some (some (.builtin "BaseException.__getattribute__"))) (hgt : findIn K (.ref D) "__getattr__" = some none) (hsub : subIn K (.ref D) (.type "BaseException") = some true) (hdct : hasDictIn K D = true) (ha : findIn K (.ref D) "__class__" = some (some (.builtin "object.__class__")))
    (hn : specialIn K (.builtin "object.__class__") "__get__" = some (some (.builtin "getset_descriptor.__get__"))) (htk : takesIn K (.builtin "object.__class__") = some true) (hm : mroIn K D (.type "object") = some true) :
    KitX K (.ref x) (.ref D) (fun h => InstAt h x ox D od) where
  ty := fun _ _ _ I => I.type
  it := fun _ _ X _ => by
    obtain ⟨cdD, hcD, _⟩ := any_some hdct
    unfold clsIn at hcD
    split at hcD
    · rename_i c' d' cd' sl' ho
      intro A' Q' E' s' k q
      unfold isType loadHead
      exact wpAny_bind (wpAny_loadPart (k _ _ (X _ _ ho)) (wpAny_pure q))
    · cases hcD
  ne := fun h tp dd its n sl X htp => by
    obtain ⟨cdD, hcD, _⟩ := any_some hdct
    refine Bool.eq_false_iff.mpr fun q => ?_
    have e : D = tp := Value.ref.inj (beq_iff_eq.mp q)
    subst e
    unfold clsIn at hcD
    split at hcD
    · rename_i c' d' cd' sl' ho
      have z := (X _ _ ho).symm.trans htp
      cases z
    · cases hcD
  ca := fun X I k => zkin_class hga hgt hsub hdct ha hn htk hm X I k
end
end PySem.W
namespace Z
open PySem PySem.Spec PyProof.Rows L2
section
variable {X : Cx} {T : Tab} {C : CallS} {N : List Str} {sc : Scope} {W : WX} {lev : Nat}
/-- an exception of the store, as an instance -/
theorem exn_inst {P : Program} {w : World} {K : PySem.W.Frag} {T : Names} {ρ : List Addr} {H : Hp} {h : Heap} {a : Addr} {c : Nat} {fs : List (Nat × D)} (ok : HOk P w H h) (r : RelO P w K T ρ H a (.exn c fs)) :
    ∃ nm fld oe od, T.excs[c]? = some (nm, fld) ∧ PySem.W.InstAt h a oe (He.ga K nm) od := by
  obtain ⟨nm, fld, h1, h2⟩ := r
  cases fld with
  | none =>
    obtain ⟨⟨oe, vs, e, z, d, _⟩, _, _⟩ := (show ObjOk P w H h a (.ext _) from ok a _ h2.2)
    refine ⟨nm, none, oe, none, h1, e, z.1, ?_, ?_⟩
    · unfold PySem.W.notCls; rw [d] <;> rfl
    · rw [z.2]; trivial
  | some f =>
    rcases h2 with ⟨_, h2⟩ | ⟨m, d, dx, v, _, _, h2, h3, _, _⟩
    · obtain ⟨t1, e⟩ := exo_at ok h2
      exact ⟨nm, some f, _, none, h1, e, rfl, rfl, trivial⟩
    · obtain ⟨t1, e⟩ := exo_at ok h2
      obtain ⟨mA, hns, hr⟩ := exd_at ok h3
      obtain ⟨od, hod, hl⟩ := lookIn_ns hns
      exact ⟨nm, some f, _, some od, h1, e, rfl, rfl, hod⟩
/-- what the class of an exception is, in the heap -/
def xcU (K : PySem.W.Frag) (T : Names) (c : Option Nat) (u : Value) : Prop := match c with
  | some j => ∃ y, T.excs[j]? = some y ∧ u = .ref (He.ga K y.1)
  | none => u = .type "ValueError"
theorem z_isx (g : Gd X T C N sc W lev) {c : Option Nat} {cv : V} {cu : Value} (hcu : xcU X.K T.toNames c cu) (hr : ∀ z, RelV cv z → z = cu) : CallR X (.builtin "isinstance") (fun vs H Q => ∃ v, vs = [v, cv] ∧ rX X T.toNames (.isx c) [v] H Q) := by
  intro pins s σ H xs us Q I rx p
  obtain ⟨v, rfl, ρ, st, ds, r, rd, p⟩ := p
  obtain ⟨d, st', hp, p⟩ := prim_some p
  obtain ⟨u1, u2, rfl, r1, r2⟩ := vals2 rx
  cases hr _ r2
  unfold primF pIsx at hp
  simp only at hp
  split at hp
  · rename_i i
    split at hp
    · rename_i k fs hi
      cases hp
      obtain ⟨v', e, rd'⟩ := rd.one
      cases e
      obtain ⟨a, ha, rfl⟩ := rd'.ref_
      cases r1
      obtain ⟨nm, fld, oe, od, h1, h2⟩ := exn_inst I.hok (r.obj i _ a hi ha)
      have C' := (g.pr.xcl k nm fld h1).exc
      have hk : PySem.W.kitOne X.K (.ref (He.ga X.K nm)) cu = some (isxB c k) := by
        cases c with
        | none =>
          have e : cu = .type "ValueError" := hcu
          rw [e]
          exact g.pr.kov k _ h1
        | some j =>
          obtain ⟨y, hy, e⟩ := hcu
          rw [e]
          exact g.pr.kox k j _ _ h1 hy
      exact PySem.W.kia_one (PySem.W.zkitx C'.hg C'.hk C'.hs C'.hd C'.ha C'.hn C'.ht C'.hm) I.kIn h2 hk (fun z => nomatch z) fun tk => ⟨.bl _, H, I.tok tk, rfl, p.now r (.bl _)⟩
    · cases hp
  · cases hp
theorem q_isx (g : Gd X T C N sc W lev) {e t : Expr} {e' : E} {c : Option Nat} {cv : V} {cu : Value} {p pos : Pos} (hg : isGl sc "isinstance" = true) (hcu : xcU X.K T.toNames c cu) (hr : ∀ z, RelV cv z → z = cu) (ht : PE X t (tC cv)) (hst : plainArgs [e, t]) (he : PE X e (TE' X T C W e')) :
    PE X (.Call (.Name "isinstance" p) [e, t] [] pos) (TE' X T C W (.op (.isx c) [e'])) := by
  obtain ⟨h1, h2, h3⟩ := gl_ok g hg
  have hst2 : plainArgs [t] := fun y hy => hst y (List.mem_cons_of_mem _ hy)
  refine PE.imp (pe_callB (z_isx g hcu hr) h1 (g.pr.blt _ (by decide +kernel)) (by decide +kernel) (pa_cons he (pa_cons ht pa_nil (plain_cons hst2 _)) (plain_cons hst _)) h3 h2 (plain_cons hst _) (back_plain hst2)) fun σ H Q q => ?_
  exact tOf.mono (g.mE e') (fun x H1 q => ⟨x, rfl, q⟩) (one_op g q)
/-- X(e), no __init__ of its own -/
theorem q_xnew0 (g : Gd X T C N sc W lev) {x : Str} {e : Expr} {e' : E} {c : Nat} {p pos : Pos} (hg : isGl sc x = true) (hc : T.excs[c]? = some (x, none)) (hx : T.xinits.lookup c = none) (hst : plainArgs [e]) (he : PE X e (TE' X T C W e')) :
    PE X (.Call (.Name x p) [e] [] pos) (TE' X T C W (.xnew c [e'])) := by
  obtain ⟨h1, h2, h3⟩ := gl_ok g hg
  have k := g.pr.exc c x hc
  refine PE.imp (pe_exc1 PySem.F.excBase_ValueError k.exc k.glo k.keep h1 he (plain_cons hst _) h2) fun σ H Q q => ?_
  obtain ⟨ρ, σD, st, r, s0, q⟩ := q
  unfold wE wEs wEs at q
  refine step1 g r s0 .refl q fun ρ1 H1 d st1 v e1 r1 s1 rd q1 => ?_
  rw [hx] at q1
  intro a ha
  have e2 : Ext ρ1 (ρ1 ++ [a]) H1 (upd H1 a (ExO (.ref (He.ga X.K x)) a)) := .new ha
  have r2 := r1.push (u := ExO (.ref (He.ga X.K x)) a) (o := .exn c []) ha ⟨x, none, hc, rfl, upd_same⟩
  have hn : (ρ1 ++ [a])[st1.length]? = some a := by rw [← r1.len, List.getElem?_append_right (Nat.le_refl _), Nat.sub_self]; rfl
  exact q1.2 _ _ _ (e1.trans e2) r2 (.ref hn)
/-- the call of a class of exceptions with an __init__: as a value -/
theorem run_excS {CX : CXT} {k : Nat} {f C : Addr} {fd : FuncData} {ps : List Str} {sp : Sp} {pins : List (Addr × Obj)} {σ : L2.St} {H : Hp} {s : Shared} {Q : VK} {dvs : List V} {ds : List Value} {us : List Value} {vs : List V} (T : OexC X.K C) (iC : PySem.W.findIn X.K (.ref C) "__init__" = some (some (.ref f))) (tI : PySem.W.typeIn X.K (.ref f) = some (.type "function"))
    (F : FnOk X.prog X.w X.K X.mg X.base CX k f fd ps sp) (hr : Room (k + 1) X.A) (hb : Binds X.K fd ps ds) (hd : Vals dvs ds) (hx : Passes CX X (fun _ _ _ => False)) (I : Inv X pins σ H s) (r : Vals vs us) (hus : us.length ≤ sizeLine)
    (h : ∀ a, H a = none → sp (.ref a :: (vs ++ dvs)) (upd H a (exo a C none)) (fun v H2 => v = .non ∧ Q (.ref a) H2) (fun _ _ _ => False)) :
    wpAny (model X.prog X.w) X.A (call (.ref C) us) (EP X pins σ Q) X.xe s := by
  obtain ⟨nm, q, N, bs, bm, sn, sub, ab, col, dd, k0, k1, k2, k3, k5, hC, hbm⟩ := T.cls
  obtain ⟨hp, g, dr, tk, os⟩ := s
  have hsz : hp.objs.size ≤ hp.objs.size + 1 := Nat.le_succ _
  have hn : H (hp.objs.size + 1) = none := I.hok.fresh hsz
  have hq := h (hp.objs.size + 1) hn
  have kk : ∀ b o, hp.get? b = some o → ((hp.push (PySem.W.kdv_tup us)).push (PySem.HandSPX.excO C hp.objs.size)).get? b = some o := fun b o e => Heap.get?_push_of_some _ (Heap.get?_push_of_some _ e)
  have hget : ((hp.push (PySem.W.kdv_tup us)).push (PySem.HandSPX.excO C hp.objs.size)).get? (hp.objs.size + 1) = some (PySem.HandSPX.excO C hp.objs.size) := by heap_get
  have I2 : Inv X pins σ (upd H (hp.objs.size + 1) (exo (hp.objs.size + 1) C none)) ⟨(hp.push (PySem.W.kdv_tup us)).push (PySem.HandSPX.excO C hp.objs.size), g, dr, tk, os⟩ :=
    I.laid (t' := tk) (a := hp.objs.size + 1) (o := exo (hp.objs.size + 1) C none) (h' := (hp.push (PySem.W.kdv_tup us)).push (PySem.HandSPX.excO C hp.objs.size)) kk hsz (exo_ok hget)
  have r2 : Vals (V.ref (hp.objs.size + 1) :: (vs ++ dvs)) (Value.ref (hp.objs.size + 1) :: (us ++ ds)) := .cons rfl (r.append hd)
  have hl : (Value.ref (hp.objs.size + 1) :: us ++ ds).length = ps.length := by
    have e := r2.length
    rw [F.len _ _ _ _ hq] at e
    exact e.symm
  refine wpAny_call (PySem.HandSPX.call_own PySem.F.excBase_ValueError (fun Y => PySem.HandSPX.refsVE_contains Y bm hbm) (I.kIn _ _ hC) (PySem.W.looks_findIn I.kIn iC) (fun self => PySem.W.bind_fn I.kIn self tI) hus
    (codeAny_mono (F.run _ X.stack _ _ ⟨Value.ref (hp.objs.size + 1) :: us, []⟩ (Value.ref (hp.objs.size + 1) :: (us ++ ds)) _ _ (fun _ _ _ => False) (hr.make C us []) (I2.env0.make C us []) (hb _ (Value.ref (hp.objs.size + 1) :: us) I2.kIn hl) r2 hq) fun r s' hq' => ?_))
  cases r with
  | error er => exact hx pins σ _ _ er s' I2 hq'
  | ok fl =>
    cases fl with
    | ret u =>
      obtain ⟨v, H', I3, rv, ev, q3⟩ := I2.after hq'
      subst ev
      exact ⟨rv, ⟨V.ref (hp.objs.size + 1), H', I3, rfl, q3⟩⟩
    | next => exact False.elim hq'
    | brk => exact False.elim hq'
    | cont => exact False.elim hq'
/-- X(e, ..), by its own __init__ -/
theorem q_xnew (g : Gd X T C N sc W lev) {x fl : Str} {e : Expr} {es : List Expr} {es' : List E} {c : Nat} {p pos : Pos} (hg : isGl sc x = true) {f : Nat} (hc : T.excs[c]? = some (x, some fl)) (hf : T.xinits.lookup c = some f) (har : arOk T f (es'.length + 1) = true) (hl16 : es'.length ≤ 100) (hst : plainArgs (e :: es)) (ha : PA X (e :: es) (TA' X T C W es')) :
    PE X (.Call (.Name x p) (e :: es) [] pos) (TE' X T C W (.xnew c es')) := by
  obtain ⟨h1, h2, h3⟩ := gl_ok g hg
  refine ⟨fun pins s σ H Q I q => ?_⟩
  refine wpAny_Call_Name_kw (ld_glob I h1 (g.pr.xcl c x _ hc).glo ?_ h2)
  obtain ⟨ρ, σD, st, r, s0, q⟩ := q
  unfold wE at q
  have q := wEs_len g.pr.mon q
  have hA : TA' X T C W es' σ H fun vs H1 => ∃ ρ1 ds st1, Ext ρ ρ1 H H1 ∧ RelS X.prog X.w X.K T.toNames ρ1 st1 H1 ∧ RelDs X.K ρ1 H1 ds vs ∧ ds.length = es'.length ∧
      callF T C f (.ref st1.length :: ds) (st1 ++ [.exn c []]) (fun d st2 => d = .non ∧ PoE X.prog X.w X.K T.toNames ρ H Q (.ref st1.length) st2) (fun _ _ => False) :=
    stepA g r s0 .refl q fun ρ1 H1 ds st1 xs e1 r1 s1 rds q1 => by
      obtain ⟨hl, q1⟩ := q1
      rw [hf] at q1
      exact ⟨ρ1, ds, st1, e1, r1, rds, hl, q1⟩
  obtain ⟨fi, hfi, ha1, ha2⟩ := arOk_ok har
  obtain ⟨nm, fld, hc2, iC, tI⟩ := g.pr.xin c f fi hf hfi
  rw [hc] at hc2
  cases hc2
  have hX := g.pr.xfd c x fl hc
  refine PySem.W.callWith_K (h₀ := X.base) I.ok.mod.kin hX.oex.kC (thn (ha.run pos pins s σ H _ I hA) fun us s1 ⟨vs, H1, I1, rv, ρ1, ds, st1, e1, r1, rds, hl, q1⟩ => ⟨I1.kIn, ?_⟩) (plain_cons hst _) (back_plain fun y hy => hst y (List.mem_cons_of_mem _ hy))
  obtain ⟨fd, F, B, _⟩ := g.pr.fn f fi hfi
  obtain ⟨dvs, dus, rd, rdv, hb⟩ := B _ ha1 ha2
  have hus : us.length ≤ sizeLine := by
    rw [← rv.length, ← rds.len, hl, sizeLine_eq]; omega
  refine run_excS hX.oex iC tI F g.room hb rdv passL I1 rv hus fun y hy => ?_
  have e3 : Ext ρ1 (ρ1 ++ [y]) H1 (upd H1 y (exo y (He.ga X.K x) none)) := .new hy
  have r3 := r1.push (u := exo y (He.ga X.K x) none) (o := .exn c []) hy ⟨x, some fl, hc, .inl ⟨rfl, upd_same⟩⟩
  have e13 := e1.trans e3
  have hn : (ρ1 ++ [y])[st1.length]? = some y := by rw [← r1.len, List.getElem?_append_right (Nat.le_refl _), Nat.sub_self]; rfl
  refine call_sp g (Q := fun v H2 => v = .non ∧ Q (.ref y) H2) (E' := E0) (Xp := fun _ _ => False) hfi r3 (vs := .ref y :: vs) (ds := .ref st1.length :: ds) (.cons (.ref hn) (rds.ext e3)) .refl (fun x s z => z.elim) (by rw [List.length_cons, hl]; exact ha1) (by rw [List.length_cons, hl]; exact ha2) ?_ (dvs := dvs) (by rw [List.length_cons, hl]; exact rd)
  refine callF_mono g.pr.mon (fun d s z => ?_) (fun _ _ z => z) q1
  obtain ⟨rfl, z⟩ := z
  exact fun ρ4 H4 v e4 r4 rd4 => ⟨rd4.non_, z ρ4 H4 _ (e13.trans e4) r4 (.ref (e4.pre _ _ hn))⟩
/-! ### dict displays -/
theorem get0 {α : Type} {l : List α} {x : α} : (l ++ [x])[l.length]? = some x := by rw [List.getElem?_append_right (Nat.le_refl _), Nat.sub_self]; rfl
theorem q_ddisp0 (g : Gd X T C N sc W lev) {p : Pos} : PE X (.Dict [] [] p) (TE' X T C W (.ddisp [])) := by
  refine PE.imp pe_dnewK fun σ H Q q => ?_
  obtain ⟨ρ, σD, st, r, s, q⟩ := q
  unfold wE wEs at q
  intro a ha
  have e2 : Ext ρ (ρ ++ [a]) H (upd H a (.dK [])) := .new ha
  have r2 := r.push (u := .dK []) (o := .dic []) ha (.inl ⟨[], upd_same, .nil⟩)
  have hn : (ρ ++ [a])[st.length]? = some a := by rw [← r.len]; exact get0
  have q2 := q.2
  unfold pairsOf at q2
  have q3 := q2.2.2
  have es : (st ++ [O.dic []]).set st.length (.dic (mergeD [] [])) = st ++ [O.dic []] := by
    rw [List.set_append_right _ _ (Nat.le_refl _), Nat.sub_self]
    rfl
  rw [es] at q3
  exact q3 _ _ _ e2 r2 (.ref hn)
theorem tPairs_of (g : Gd X T C N sc W lev) {σ : L2.St} {σD : Z.Loc} : ∀ (prs : List (E × E)) {ρ ρ0 : List Addr} {H H0 : Hp} {st : Sto} {R : List D → Sto → Prop} {Q : List (V × V) → Hp → Prop}, RelS X.prog X.w X.K T.toNames ρ st H → Sl X.K ρ H σD σ → Ext ρ0 ρ H0 H →
    wEs T C (flatE prs) σD st R (PoX X.prog X.w X.K T.toNames ρ0 H0 σ W) → (∀ ρ1 H1 ps ds st1 vs, Ext ρ ρ1 H H1 → RelS X.prog X.w X.K T.toNames ρ1 st1 H1 → pairsOf ds = some ps → Paired (fun p q => RelD X.K ρ1 H1 p.1 q.1 ∧ RelD X.K ρ1 H1 p.2 q.2) ps vs → R ds st1 → Q vs H1) →
    tPairs (prs.map fun p => (TE' X T C W p.1, TE' X T C W p.2)) σ H Q
  | [], ρ, ρ0, H, H0, st, R, Q, r, s, e0, q, h => by
    unfold flatE wEs at q
    exact h ρ H [] [] st [] .refl r rfl .nil q
  | (a, b) :: prs, ρ, ρ0, H, H0, st, R, Q, r, s, e0, q, h => by
    unfold flatE wEs at q
    show TE' X T C W a σ H fun x H1 => TE' X T C W b σ H1 fun y H2 => tPairs (prs.map fun p => (TE' X T C W p.1, TE' X T C W p.2)) σ H2 fun ps H3 => Q ((x, y) :: ps) H3
    refine step1 g r s e0 q fun ρ1 H1 d st1 x e1 r1 s1 rd q1 => ?_
    unfold wEs at q1
    refine step1 g r1 s1 (e0.trans e1) q1 fun ρ2 H2 d2 st2 y e2 r2 s2 rd2 q2 => ?_
    refine tPairs_of g prs r2 s2 ((e0.trans e1).trans e2) q2 fun ρ3 H3 ps ds st3 vs e3 r3 hp hv hR => ?_
    refine h ρ3 H3 ((d, d2) :: ps) (d :: d2 :: ds) st3 ((x, y) :: vs) ((e1.trans e2).trans e3) r3 (by unfold pairsOf; rw [hp]; rfl) (.cons ⟨(rd.ext e2).ext e3, rd2.ext e3⟩ hv) hR
theorem nodup_put {kvs : List (Key × V)} {k : Key} {v : V} (hn : (kvs.map (·.1)).Nodup) : ((putK kvs k v).map (·.1)).Nodup := by
  unfold putK
  split
  · have e : (kvs.map (fun kv => if kv.1 = k then (kv.1, v) else kv)).map (·.1) = kvs.map (·.1) := by
      rw [List.map_map]
      apply List.map_congr_left
      intro x _
      show (if x.1 = k then (x.1, v) else x).1 = x.1
      split <;> rfl
    rw [e]
    exact hn
  · rename_i h
    rw [List.map_append, List.nodup_append]
    refine ⟨hn, by simp, fun a ha b hb e => h ?_⟩
    have hb : b = k := by simpa using hb
    subst hb e
    obtain ⟨x, hx, hx2⟩ := List.mem_map.mp ha
    exact List.any_eq_true.mpr ⟨x, hx, by simp [hx2]⟩
theorem merge_flat {ρ : List Addr} {H : Hp} : ∀ (ps : List (D × D)) (more : List (Key × V)) (l : List (D × D)) (kvs : List (Key × V)), RelK X.K ρ H ps more → RelK X.K ρ H l kvs → (kvs.map (·.1)).Nodup → RelK X.K ρ H (mergeD l ps) (mergeK kvs more)
  | [], more, l, kvs, hm, h, _ => by
    cases hm
    exact h
  | p :: ps, more, l, kvs, hm, h, nd => by
    cases hm with
    | @cons _ q _ more a t => exact merge_flat ps more (dset l p.1 p.2) (putK kvs q.1 q.2) t (put_flat (X := X) a.1 a.2 h nd) (nodup_put nd)
theorem pairs_kv {ρ : List Addr} {H : Hp} : ∀ {ps : List (D × D)} {vs : List (V × V)}, Paired (fun p q => RelD X.K ρ H p.1 q.1 ∧ RelD X.K ρ H p.2 q.2) ps vs → (ps.all fun p => flat p.1) = true → ∃ kvs : List (Key × V), vs = kvs.map (fun kv => (kV kv.1, kv.2)) ∧ RelK X.K ρ H ps kvs
  | _, _, .nil, _ => ⟨[], rfl, .nil⟩
  | p :: ps, q :: vs, .cons a t, h => by
    rw [List.all_cons, Bool.and_eq_true] at h
    obtain ⟨kvs, e, r⟩ := pairs_kv t h.2
    obtain ⟨j, hj⟩ := flat_some h.1
    refine ⟨(j, q.2) :: kvs, ?_, .cons ⟨hj, a.2⟩ r⟩
    rw [List.map_cons, e, ← kv_of a.1 hj]
theorem q_ddisp (g : Gd X T C N sc W lev) {keys : List (Option Expr)} {values : List Expr} {prs : List (E × E)} {p : Pos} (hp : PPs X p keys values (prs.map fun p => (TE' X T C W p.1, TE' X T C W p.2))) (hall : keys.all (·.isSome) = true) (hl : keys.length = values.length) (h0 : keys ≠ []) (h15 : keys.length ≤ 15) :
    PE X (.Dict keys values p) (TE' X T C W (.ddisp (flatE prs))) := by
  refine PE.imp (pe_disp hp hall hl h0 h15) fun σ H Q q => ?_
  obtain ⟨ρ, σD, st, r, s, q⟩ := q
  unfold wE at q
  intro a ha
  have e2 : Ext ρ (ρ ++ [a]) H (upd H a (.dK [])) := .new ha
  have r2 := r.push (u := .dK []) (o := .dic []) ha (.inl ⟨[], upd_same, .nil⟩)
  have hn : (ρ ++ [a])[st.length]? = some a := by rw [← r.len]; exact get0
  refine tPairs_of g prs r2 (s.ext e2) e2 q fun ρ1 H1 ps ds st1 vs e3 r3 hps hv hR => ?_
  obtain ⟨hd, hR⟩ := hR
  rw [hps] at hR
  obtain ⟨q1, q2, q3⟩ := hR
  have hn1 := e3.pre _ _ hn
  have hkeep : H1 a = some (.dK []) := by
    rcases r3.obj _ _ a hd hn1 with ⟨kvs, h1, h2⟩ | ⟨h1, _⟩
    · cases h2
      exact h1
    · exact (h1 rfl).elim
  obtain ⟨kvs, ev, rk⟩ := pairs_kv hv q2
  obtain ⟨r4, e4⟩ := r3.set (o' := .dic (mergeD [] ps)) (u := .dK (mergeK [] kvs)) hd hn1 fun e => .inl ⟨_, upd_same, merge_flat (X := X) _ _ _ _ (rk.ext e) .nil List.nodup_nil⟩
  refine ⟨hkeep, kvs, ev, by rw [← rk.length]; exact q1, ?_⟩
  exact q3 _ _ _ ((e2.trans e3).trans e4) r4 (.ref hn1)
end
end Z
end
section
set_option linter.all false
set_option maxRecDepth 100000
set_option maxHeartbeats 4000000
/-! an own class of exceptions called with keywords: the lines of HandS.Exc's call_own, with keywords -/
namespace PySem
namespace HandSPX
open PySem.W PySem.Calls PyProof.Rows
section
variable {M : Model} {A : Around} {E : Value → Shared → Prop} {h : Heap} {g : Array GenState} {d : Drawn} {t : Nat} {os : OsState}
variable {nm q : Str} {C N : Addr} {bs bm bmB : List Value} {hdct : Bool} {sn : List Str} {sub : List Value} {ab : Bool} {col : Option Bool} {dd : Option Addr} {k0 k1 k2 k3 k5 : Option Value} {B newId initId : String}
theorem zcheck_new_own (F : ExcBaseFacts B newId initId bmB) (hT : ∀ X : String, bm.contains (.type X) = bmB.contains (.type X)) {rest : List Value} {kw : List (Str × Value)} {Q : Unit → Shared → Prop}
    (hC : h.get? C = some (excClassObj nm q C N bs bm hdct sn sub ab col dd k0 k1 k2 k3 k5 newId)) (hq : Q () ⟨h, g, d, t, os⟩) : wpAny M A (checkBuiltinCall newId ⟨.ref C :: rest, kw⟩) Q E ⟨h, g, d, t, os⟩ := by
  have hcont : (Value.ref C :: bm).contains (.type B) = true := by rw [List.contains_cons, hT, F.hasB, Bool.or_true]
  have hstar := F.noStar
  simp only [checkBuiltinCall, F.newKind, F.newSplit, F.newRow]
  repeat (first | refine wpAny_loadPart_at hC ?_ | (refine wpAny_isSubtype_exc hC ?_; rw [hcont]) | refine wpAny_staticBase_exc hC ?_ | refine wpAny_madeBy_exc hC ?_ | simp only [bne_self_eq_false, Bool.false_eq_true, if_false] | wp_step)
  exact hq
end
section
variable {prog : Program} {w : World} {A : Around} {E : Value → Shared → Prop} {R : Result → Shared → Prop} {h : Heap} {g : Array GenState} {d : Drawn} {t : Nat} {os : OsState}
variable {nm q : Str} {C N : Addr} {bs bm bmB : List Value} {hdct : Bool} {sn : List Str} {sub : List Value} {ab : Bool} {col : Option Bool} {dd : Option Addr} {k0 k1 k2 k3 k5 : Option Value} {B newId initId : String}
theorem znew_own (F : ExcBaseFacts B newId initId bmB) (hT : ∀ X : String, bm.contains (.type X) = bmB.contains (.type X)) {rest : List Value} {kw : List (Str × Value)}
    (hC : h.get? C = some (excClassObj nm q C N bs bm hdct sn sub ab col dd k0 k1 k2 k3 k5 newId))
    (hq : R (.ok (.ret (.ref (h.objs.size + 1)))) ⟨(h.push { cls := .type "tuple", data := .seq rest.toArray }).push
      { cls := .ref C, data := .fields #[.ref h.objs.size, .none, .none, .none, .bool false, .none] }, g, d, t, os⟩) (hrest : rest.length ≤ sizeLine) :
    codeAny (model prog w) A (.builtin newId ⟨.ref C :: rest, kw⟩) R ⟨h, g, d, t, os⟩ := by
  have hends := F.ends
  have hcB : (Value.ref C :: bm).contains (.type B) = true := by rw [List.contains_cons, hT, F.hasB, Bool.or_true]
  have hcA : (Value.ref C :: bm).contains (.type "AttributeError") = false := by rw [List.contains_cons, hT, F.noAttr]; rfl
  have hcN : (Value.ref C :: bm).contains (.type "NameError") = false := by rw [List.contains_cons, hT, F.noName]; rfl
  refine codeAny_builtinAt F.entry ?_
  unfold Builtin.«BaseException.__new__»
  refine wpAt_bind ?_
  show wpAt _ _ _ (stack >>= _) _ _ _
  refine wpAt_bind (wpAt_stack fun p below => wpAt_of_wpAny ?_)
  wp_walk
  refine wpAt_of_wpAny ?_
  rw [F.owner]
  repeat (first | with_reducible refine wpAny_madeHere_exc F.canon hC ?_ | with_reducible refine wpAny_loadPart_at hC ?_ | (with_reducible refine wpAny_isSubtype_exc hC ?_; first | rw [hcB] | rw [hcA] | rw [hcN]) | wp_step)
  show R _ _
  rw [Heap.size_push]
  exact hq

theorem ztype_call_own (F : ExcBaseFacts B newId initId bmB) (hT : ∀ X : String, bm.contains (.type X) = bmB.contains (.type X)) {rest : List Value} {kw : List (Str × Value)} {fI : Addr} {Q : Fin → Shared → Prop}
    (hC : h.get? C = some (excClassObj nm q C N bs bm hdct sn sub ab col dd k0 k1 k2 k3 k5 newId))
    (hi : W.Looks (model prog w) h (typeLookup (.ref C) "__init__") (some (.ref fI))) (hb : ∀ self, W.Looks (model prog w) h (bindSpecial (.ref fI) self) (.ref fI, [self])) (hrest : rest.length ≤ sizeLine)
    (hq : codeAny (model prog w) A (.call (.ref fI) ⟨.ref (h.objs.size + 1) :: rest, kw⟩)
      (fun r s' => match r with | .ok (.ret v) => v = .none ∧ Q (.done (.ret (.ref (h.objs.size + 1)))) s' | .ok _ => False | .error e => E e s')
      ⟨(h.push (W.kdv_tup rest)).push (excO C h.objs.size), g, d, t, os⟩) :
    wpAny (model prog w) A (Builtin.«type.__call__» ⟨.ref C :: rest, kw⟩) Q E ⟨h, g, d, t, os⟩ := by
  repeat (first | with_reducible refine wpAny_loadPart_at hC ?_ | with_reducible refine wpAny_madeBy_exc hC ?_ | wp_step)
  refine codeAny_call_builtin_code (Code.quiet_builtin _ F.quiet) (zcheck_new_own F hT hC ?_)
  refine znew_own F hT hC ?_ hrest
  show wpAny _ _ _ _ _ _
  have k : ∀ b o, h.get? b = some o → ((h.push (W.kdv_tup rest)).push (excO C h.objs.size)).get? b = some o := fun b o e => Heap.get?_push_of_some _ (Heap.get?_push_of_some _ e)
  have hC₁ := k _ _ hC
  have hget : ((h.push (W.kdv_tup rest)).push (excO C h.objs.size)).get? (h.objs.size + 1) = some (excO C h.objs.size) := by heap_get
  have hcC : (Value.ref C :: bm).contains (.ref C) = true := by simp
  have i1 := hi.keeps k
  have b1 := (hb (.ref (h.objs.size + 1))).keeps k
  unfold isInstance
  repeat (first | with_reducible refine wpAny_loadPart_at hget ?_ | (with_reducible refine wpAny_isSubtype_exc hC₁ ?_; rw [hcC]) | wp_step)
  show wpAny _ _ (typeLookup (.ref C) _) _ _ _
  refine i1.at ?_
  refine wpAny_holding (wpAny_bind (b1.at ?_))
  refine wpAny_bind (wpAny_call (codeAny_mono hq fun r s' z => ?_))
  rcases r with e | (v | _ | _ | _) <;> first | exact z | exact z.elim | skip
  obtain ⟨rfl, z⟩ := z
  first
    | exact wpAny_pure (wpAny_pure z)
    | (wp_walk; exact z)

theorem zcall_own (F : ExcBaseFacts B newId initId bmB) (hT : ∀ X : String, bm.contains (.type X) = bmB.contains (.type X)) {rest : List Value} {kw : List (Str × Value)} {fI : Addr}
    (hC : h.get? C = some (excClassObj nm q C N bs bm hdct sn sub ab col dd k0 k1 k2 k3 k5 newId))
    (hi : W.Looks (model prog w) h (typeLookup (.ref C) "__init__") (some (.ref fI))) (hb : ∀ self, W.Looks (model prog w) h (bindSpecial (.ref fI) self) (.ref fI, [self])) (hrest : rest.length ≤ sizeLine)
    (hq : codeAny (model prog w) (A.under (.builtin "type.__call__" ⟨.ref C :: rest, kw⟩)) (.call (.ref fI) ⟨.ref (h.objs.size + 1) :: rest, kw⟩) (W.InitBack (h.objs.size + 1) R)
      ⟨(h.push (W.kdv_tup rest)).push (excO C h.objs.size), g, d, t, os⟩) :
    codeAny (model prog w) A (.call (.ref C) ⟨rest, kw⟩) R ⟨h, g, d, t, os⟩ := by
  have f1 := tc_lookup
  have f2 := tc_bind (.ref C)
  have hTy : (⟨h, g, d, t, os⟩ : Shared).TypeIs (.ref C) "type" := ⟨_, hC, rfl⟩
  refine codeAny_of_tree ?_
  show wpAny _ _ (callAny (.ref C) _) _ _ _
  repeat (any_goals (first | assumption | with_reducible refine wpAny_loadPart_at hC ?_ | wp_step))
  refine ⟨rfl, ?_⟩
  refine codeAny_call_builtin_at (Code.quiet_builtin _ (by decide +kernel)) entry_typeCall (wpAny_check_type_call_sub hC (ztype_call_own F hT hC hi hb hrest ?_))
  refine codeAny_mono hq fun r s' z => ?_
  rcases r with e | (v | _ | _ | _) <;> exact z

end
end HandSPX
end PySem
end
section
set_option linter.all false
set_option maxRecDepth 100000
set_option maxHeartbeats 4000000
namespace Z
open PySem PySem.Spec PyProof.Rows L2
section
variable {X : Cx} {T : Tab} {C : CallS} {N : List Str} {sc : Scope} {W : WX} {lev : Nat}
theorem run_excK {CX : CXT} {k : Nat} {f C : Addr} {fd : FuncData} {ps ks : List Str} {sp : Sp} {pins : List (Addr × Obj)} {σ : L2.St} {H : Hp} {s : Shared} {Q : VK} {ws : List Value} {zs : List V} (T : OexC X.K C) (iC : PySem.W.findIn X.K (.ref C) "__init__" = some (some (.ref f))) (tI : PySem.W.typeIn X.K (.ref f) = some (.type "function"))
    (F : FnOk X.prog X.w X.K X.mg X.base CX k f fd ps sp) (hr : Room (k + 1) X.A) (hb : KBn X.K fd ps 1 ks (fun us ws => us ++ ws) (fun vs zs => vs ++ zs)) (hx : Passes CX X (fun _ _ _ => False)) (I : Inv X pins σ H s) (r : Vals zs ws) (hlen : ws.length = ks.length)
    (h : ∀ a, H a = none → sp (.ref a :: zs) (upd H a (exo a C none)) (fun v H2 => v = .non ∧ Q (.ref a) H2) (fun _ _ _ => False)) :
    wpAny (model X.prog X.w) X.A (call (.ref C) [] (ks.zip ws)) (EP X pins σ Q) X.xe s := by
  obtain ⟨nm, q, N, bs, bm, sn, sub, ab, col, dd, k0, k1, k2, k3, k5, hC, hbm⟩ := T.cls
  obtain ⟨hp, g, dr, tk, os⟩ := s
  have hsz : hp.objs.size ≤ hp.objs.size + 1 := Nat.le_succ _
  have hn : H (hp.objs.size + 1) = none := I.hok.fresh hsz
  have hq := h (hp.objs.size + 1) hn
  have kk : ∀ b o, hp.get? b = some o → ((hp.push (PySem.W.kdv_tup [])).push (PySem.HandSPX.excO C hp.objs.size)).get? b = some o := fun b o e => Heap.get?_push_of_some _ (Heap.get?_push_of_some _ e)
  have hget : ((hp.push (PySem.W.kdv_tup [])).push (PySem.HandSPX.excO C hp.objs.size)).get? (hp.objs.size + 1) = some (PySem.HandSPX.excO C hp.objs.size) := by heap_get
  have I2 : Inv X pins σ (upd H (hp.objs.size + 1) (exo (hp.objs.size + 1) C none)) ⟨(hp.push (PySem.W.kdv_tup [])).push (PySem.HandSPX.excO C hp.objs.size), g, dr, tk, os⟩ :=
    I.laid (t' := tk) (a := hp.objs.size + 1) (o := exo (hp.objs.size + 1) C none) (h' := (hp.push (PySem.W.kdv_tup [])).push (PySem.HandSPX.excO C hp.objs.size)) kk hsz (exo_ok hget)
  have r2 : Vals (V.ref (hp.objs.size + 1) :: zs) (Value.ref (hp.objs.size + 1) :: ws) := .cons rfl r
  refine wpAny_call (PySem.HandSPX.zcall_own PySem.F.excBase_ValueError (fun Y => PySem.HandSPX.refsVE_contains Y bm hbm) (I.kIn _ _ hC) (PySem.W.looks_findIn I.kIn iC) (fun self => PySem.W.bind_fn I.kIn self tI) (Nat.zero_le _)
    (codeAny_mono (F.run _ X.stack _ _ ⟨[Value.ref (hp.objs.size + 1)], ks.zip ws⟩ (Value.ref (hp.objs.size + 1) :: ws) _ _ (fun _ _ _ => False) (hr.make C [] (ks.zip ws)) (I2.env0.make C [] (ks.zip ws)) (hb.to _ [Value.ref (hp.objs.size + 1)] ws I2.kIn rfl hlen) r2 hq) fun r s' hq' => ?_))
  cases r with
  | error er => exact hx pins σ _ _ er s' I2 hq'
  | ok fl =>
    cases fl with
    | ret u =>
      obtain ⟨v, H', I3, rv, ev, q3⟩ := I2.after hq'
      subst ev
      exact ⟨rv, ⟨V.ref (hp.objs.size + 1), H', I3, rfl, q3⟩⟩
    | next => exact False.elim hq'
    | brk => exact False.elim hq'
    | cont => exact False.elim hq'
/-- X(k = e), by its own __init__ with two parameters -/
theorem q_xnewK (g : Gd X T C N sc W lev) {x fl kw : Str} {e : Expr} {e' : E} {c : Nat} {p pos kp : Pos} (hg : isGl sc x = true) {f : Nat} {fi : FunInfo} (hc : T.excs[c]? = some (x, some fl)) (hf : T.xinits.lookup c = some f) (hfi : T.funs[f]? = some fi) (hnp : fi.np = 2) (hdf : fi.dfl = []) (hkw : fi.ps.drop 1 = [kw]) (he : PE X e (TE' X T C W e')) :
    PE X (.Call (.Name x p) [] [⟨some kw, e, kp⟩] pos) (TE' X T C W (.xnew c [e'])) := by
  obtain ⟨h1, h2, h3⟩ := gl_ok g hg
  refine ⟨fun pins s σ H Q I q => ?_⟩
  refine wpAny_Call_Name_kw (ld_glob I h1 (g.pr.xcl c x _ hc).glo ?_ h2)
  obtain ⟨ρ, σD, st, r, s0, q⟩ := q
  unfold wE wEs wEs at q
  have hA : tCons (TE' X T C W e') tNil σ H fun vs H1 => ∃ ρ1 d st1, Ext ρ ρ1 H H1 ∧ RelS X.prog X.w X.K T.toNames ρ1 st1 H1 ∧ RelDs X.K ρ1 H1 [d] vs ∧
      callF T C f [.ref st1.length, d] (st1 ++ [.exn c []]) (fun d st2 => d = .non ∧ PoE X.prog X.w X.K T.toNames ρ H Q (.ref st1.length) st2) (fun _ _ => False) :=
    step1 g r s0 .refl q fun ρ1 H1 d st1 v e1 r1 s1 rd q1 => by
      rw [hf] at q1
      exact ⟨ρ1, d, st1, e1, r1, .cons rd .nil, q1⟩
  obtain ⟨nm, fld, hc2, iC, tI⟩ := g.pr.xin c f fi hf hfi
  rw [hc] at hc2
  cases hc2
  have hX := g.pr.xfd c x fl hc
  obtain ⟨fd, F, B, KB⟩ := g.pr.fn f fi hfi
  have hkb := KB hnp hdf
  refine PySem.W.callWith_KW0 (h₀ := X.base) I.ok.mod.kin hX.oex.kC (by rfl) ?_ (by rfl)
  refine thn ((pk_cons he pk_nil).run pos pins s σ H _ I hA) fun ws s2 ⟨zs, H2, I2, rz, ρ1, d, st1, e1, r1, rds, q1⟩ => ⟨I2.kIn, ?_⟩
  show wpAny _ _ (call (.ref (He.ga X.K x)) [] ([kw].zip ws)) _ _ _
  rw [hkw] at hkb
  have hl : ws.length = 1 := by rw [← rz.length, ← rds.len]; rfl
  refine run_excK hX.oex iC tI F g.room hkb passL I2 rz hl fun y hy => ?_
  have e3 : Ext ρ1 (ρ1 ++ [y]) H2 (upd H2 y (exo y (He.ga X.K x) none)) := .new hy
  have r3 := r1.push (u := exo y (He.ga X.K x) none) (o := .exn c []) hy ⟨x, some fl, hc, .inl ⟨rfl, upd_same⟩⟩
  have e13 := e1.trans e3
  have hn : (ρ1 ++ [y])[st1.length]? = some y := by rw [← r1.len, List.getElem?_append_right (Nat.le_refl _), Nat.sub_self]; rfl
  have q2 : callF T C f [.ref st1.length, d] (st1 ++ [.exn c []]) (PoE X.prog X.w X.K T.toNames (ρ1 ++ [y]) (upd H2 y (exo y (He.ga X.K x) none)) (fun v H2 => v = .non ∧ Q (.ref y) H2)) (fun _ _ => False) := by
    refine callF_mono g.pr.mon (fun d s z => ?_) (fun _ _ z => z) q1
    obtain ⟨rfl, z⟩ := z
    exact fun ρ4 H4 v e4 r4 rd4 => ⟨rd4.non_, z ρ4 H4 _ (e13.trans e4) r4 (.ref (e4.pre _ _ hn))⟩
  have key := call_sp g (Q := fun v H2 => v = .non ∧ Q (.ref y) H2) (E' := E0) (Xp := fun _ _ => False) hfi r3 (vs := .ref y :: zs) (ds := [.ref st1.length, d]) (.cons (.ref hn) (rds.ext e3)) .refl (fun x s z => z.elim) (by rw [hnp]; exact Nat.le_refl _) (by rw [hnp]; exact Nat.zero_le _) q2 (dvs := []) (by rw [hdf]; intro ρ H; rw [List.drop_nil]; exact .nil)
  rw [List.append_nil] at key
  exact key
end
end Z
end
section
set_option linter.all false
set_option maxRecDepth 100000
set_option maxHeartbeats 4000000
namespace Z
open PySem PySem.Spec PyProof.Rows L2
section
variable {X : Cx} {T : Tab} {C : CallS} {N : List Str} {sc : Scope} {W : WX} {lev : Nat}
/-- no star -/
abbrev NStar (y : Expr) : Prop := (match y with | .Starred _ _ => false | _ => true) = true
/-- what is proved of an expression -/
structure SE (X : Cx) (T : Tab) (C : CallS) (W : WX) (e : Expr) (e' : E) : Prop where
  pe : PE X e (TE' X T C W e')
  pt : PT X e (TT' X T C W e')
  ns : NStar e
theorem pt_ifx {t a b : Expr} {tt ta tb : TT} {p : Pos} (ht : PT X t tt) (ha : PT X a ta) (hb : PT X b tb) : PT X (.IfExp t a b p) (fun σ H Q => tt σ H fun c H1 => if c = true then ta σ H1 Q else tb σ H1 Q) := by
  refine ⟨fun pins s σ H Q I h => ?_⟩
  show wpAny _ X.A (do if ← isTrue t X.env (eval t X.env) then isTrue a X.env (eval a X.env) else isTrue b X.env (eval b X.env)) _ _ _
  refine wpAny_bind (thn (ht.run pins s σ H _ I h) fun c s1 ⟨H1, I1, q1⟩ => ?_)
  cases c with
  | true => exact ha.run pins s1 σ H1 Q I1 q1
  | false => exact hb.run pins s1 σ H1 Q I1 q1
theorem q_ifxT (g : Gd X T C N sc W lev) {t a b : Expr} {t' a' b' : E} {p : Pos} (ht : PT X t (TT' X T C W t')) (ha : PT X a (TT' X T C W a')) (hb : PT X b (TT' X T C W b')) : PT X (.IfExp t a b p) (TT' X T C W (.ifx t' a' b')) := by
  refine PT.imp (pt_ifx ht ha hb) fun σ H Q q => ?_
  obtain ⟨ρ, σD, st, r, s, q⟩ := q
  unfold wE at q
  refine stepT g r s .refl q fun ρ1 H1 st1 k e1 r1 s1 q1 => ?_
  cases k with
  | true => rw [if_pos rfl] at q1 ⊢; exact contT g r1 s1 e1 q1
  | false => rw [if_neg Bool.false_ne_true] at q1 ⊢; exact contT g r1 s1 e1 q1
section
variable {f : Expr → Option E}
theorem s_es (g : Gd X T C N sc W lev) (ih : ∀ e e', f e = some e' → SE X T C W e e') : ∀ (es : List Expr) (es' : List E), cEs f es = some es' → PA X es (TA' X T C W es') ∧ plainArgs es ∧ es.length = es'.length
  | [], es', h => by
    unfold cEs at h
    cases h
    exact ⟨q_nil, fun y hy => (List.not_mem_nil hy).elim, rfl⟩
  | e :: es, es', h => by
    unfold cEs at h
    split at h
    · rename_i a b h1 h2
      cases h
      obtain ⟨p1, p2, p3⟩ := s_es g ih es b h2
      have se := ih e a h1
      have pl : plainArgs (e :: es) := fun y hy => by
        rcases List.mem_cons.mp hy with rfl | hy
        · exact se.ns
        · exact p2 y hy
      exact ⟨q_cons g se.pe p1 (plain_cons pl _), pl, by rw [List.length_cons, List.length_cons, p3]⟩
    · cases h
theorem s_es1 {e : Expr} {es : List Expr} {e1 : E} (h : cEs f (e :: es) = some [e1]) : f e = some e1 := by
  unfold cEs at h
  split at h
  · rename_i a b h1 h2
    cases h
    exact h1
  · cases h
theorem xc_ok (g : Gd X T C N sc W lev) {t : Expr} {c : Option Nat} (h : xcOf T sc t = some c) : ∃ cv cu, PE X t (tC cv) ∧ xcU X.K T.toNames c cu ∧ (∀ z, RelV cv z → z = cu) ∧ NStar t := by
  unfold xcOf at h
  split at h
  · rename_i x p
    split at h
    · cases h
    · rename_i hg
      rw [Bool.not_eq_false] at hg
      obtain ⟨h1, h2, h3⟩ := gl_ok g hg
      split at h
      · rename_i i hi
        cases h
        obtain ⟨hj, e2, _⟩ := List.findIdx?_eq_some_iff_getElem.mp (show T.excs.findIdx? (fun p => p.1 == x) = some i from hi)
        have hx : T.excs[i]? = some (x, T.excs[i].2) := by
          rw [List.getElem?_eq_getElem hj]
          have := eq_of_beq e2
          rw [← this]
        exact ⟨.ref (He.ga X.K x), .ref (He.ga X.K x), pe_glob h1 (g.pr.xcl i x _ hx).glo rfl h2, ⟨_, hx, rfl⟩, fun z r => r, rfl⟩
      · split at h
        · rename_i e
          cases h
          subst e
          exact ⟨.ty "ValueError", .type "ValueError", pe_bltn h1 (g.pr.blt _ (by decide +kernel)) PyProof.Rows.Boot.«ValueError» rfl h3 h2, rfl, fun z r => r, rfl⟩
        · cases h
  · cases h
theorem s_pairs (g : Gd X T C N sc W lev) (ih : ∀ e e', f e = some e' → SE X T C W e e') {p : Pos} : ∀ (ks : List (Option Expr)) (vs : List Expr) (ps : List (E × E)), cPairs f ks vs = some ps → PPs X p ks vs (ps.map fun p => (TE' X T C W p.1, TE' X T C W p.2)) ∧ ks.all (·.isSome) = true ∧ ks.length = vs.length
  | [], [], ps, h => by unfold cPairs at h; cases h; exact ⟨pps_nil, rfl, rfl⟩
  | [], _ :: _, ps, h => by unfold cPairs at h; cases h
  | none :: _, [], ps, h => by unfold cPairs at h; cases h
  | none :: _, _ :: _, ps, h => by unfold cPairs at h; cases h
  | some k :: ks, [], ps, h => by unfold cPairs at h; cases h
  | some k :: ks, v :: vs, ps, h => by
    unfold cPairs at h
    split at h
    · rename_i a b r h1 h2 h3
      cases h
      obtain ⟨p1, p2, p3⟩ := s_pairs g ih ks vs r h3
      exact ⟨pps_cons (ih _ _ h1).pe (ih _ _ h2).pe p1, by rw [List.all_cons, p2]; rfl, by rw [List.length_cons, List.length_cons, p3]⟩
    · cases h
theorem s_dict (g : Gd X T C N sc W lev) (ih : ∀ e e', f e = some e' → SE X T C W e e') {ks : List (Option Expr)} {vs : List Expr} {e' : E} {p : Pos} (h : cDict f ks vs = some e') : PE X (.Dict ks vs p) (TE' X T C W e') := by
  unfold cDict at h
  split at h
  · rename_i h15
    cases hp : cPairs f ks vs with
    | none => rw [hp] at h; cases h
    | some ps =>
      rw [hp] at h
      cases h
      obtain ⟨p1, p2, p3⟩ := s_pairs (p := p) g ih ks vs ps hp
      cases ks with
      | nil =>
        cases vs with
        | nil => unfold cPairs at hp; cases hp; exact q_ddisp0 g
        | cons v vs => cases p3
      | cons k ks => exact q_ddisp g p1 p2 p3 (by simp) h15
  · cases h
theorem s_and (g : Gd X T C N sc W lev) (ih : ∀ e e', f e = some e' → SE X T C W e e') {p : Pos} : ∀ (es : List Expr) (e' : E), cAnd f es = some e' → PE X (.BoolOp .And es p) (TE' X T C W e') ∧ PW X (.BoolOp .And es p) (TT' X T C W e')
  | [], e', h => by unfold cAnd at h; cases h
  | [e], e', h => by
    unfold cAnd at h
    split at h
    · cases h
    · rename_i a ha
      cases h
      exact ⟨pe_one (ih e _ ha).pe, pw_and1 (ih e _ ha).pt⟩
  | e :: e2 :: es, e', h => by
    unfold cAnd at h
    split at h
    · cases h
    · rename_i a ha
      dsimp only at h
      cases hb : cAnd f (e2 :: es) with
      | none => rw [hb] at h; cases h
      | some b =>
        rw [hb] at h
        cases h
        obtain ⟨p1, p2⟩ := s_and g ih (e2 :: es) b hb
        exact ⟨q_and g (ih e _ ha).pe p1, q_andT g (ih e _ ha).pt p2⟩
theorem s_or (g : Gd X T C N sc W lev) (ih : ∀ e e', f e = some e' → SE X T C W e e') {p : Pos} : ∀ (es : List Expr) (e' : E), cOr f es = some e' → PE X (.BoolOp .Or es p) (TE' X T C W e') ∧ PW X (.BoolOp .Or es p) (TT' X T C W e')
  | [], e', h => by unfold cOr at h; cases h
  | [e], e', h => by
    unfold cOr at h
    split at h
    · cases h
    · rename_i a ha
      cases h
      exact ⟨pe_one (ih e _ ha).pe, pw_or1 (ih e _ ha).pt⟩
  | e :: e2 :: es, e', h => by
    unfold cOr at h
    split at h
    · cases h
    · rename_i a ha
      dsimp only at h
      cases hb : cOr f (e2 :: es) with
      | none => rw [hb] at h; cases h
      | some b =>
        rw [hb] at h
        cases h
        obtain ⟨p1, p2⟩ := s_or g ih (e2 :: es) b hb
        exact ⟨q_or g (ih e _ ha).pe p1, q_orT g (ih e _ ha).pt p2⟩
theorem s_name (g : Gd X T C N sc W lev) {x : Str} {p : Pos} {e' : E} (h : cName T N sc x = some e') : SE X T C W (.Name x p) e' := by
  unfold cName at h
  split at h
  · cases h
  · rename_i hd
    have key : PE X (.Name x p) (TE' X T C W e') := by
      split at h
      · rename_i i hi
        cases h
        exact q_var g hi hd
      · split at h
        · rename_i hg
          cases hc : T.consts.lookup x with
          | none => rw [hc] at h; cases h
          | some d =>
            rw [hc] at h
            cases h
            obtain ⟨v, u, h1, h2, h3⟩ := g.pr.cst x d hc
            obtain ⟨g1, g2, g3⟩ := gl_ok g hg
            exact q_cst (pe_glob g1 h1 h2 g2) h3
        · cases h
    exact ⟨key, q_val g key fun _ => rfl, rfl⟩
theorem s_const (g : Gd X T C N sc W lev) {c : Const} {d : D} {k} {p : Pos} (h : cConst c = some d) : SE X T C W (.Constant c k p) (.cst d) := by
  have key : PE X (.Constant c k p) (TE' X T C W (.cst d)) := by
    unfold cConst at h
    split at h <;> first | cases h | skip
    · exact q_cst pe_non fun ρ H => .non
    · exact q_cst pe_bl fun ρ H => .bl _
    · exact q_cst pe_int fun ρ H => .int _
    · exact q_cst pe_str fun ρ H => .str _
  exact ⟨key, q_val g key fun _ => rfl, rfl⟩
theorem s_cmp (g : Gd X T C N sc W lev) (ih : ∀ e e', f e = some e' → SE X T C W e e') {a : Expr} {os : List CmpOp} {bs : List Expr} {e' : E} {p : Pos} (h : cCmp f a os bs = some e') : SE X T C W (.Compare a os bs p) e' := by
  unfold cCmp at h
  split at h
  · split at h
    · rename_i hs
      split at h
      · rename_i o' a' b' h1 h2 h3
        cases h
        exact ⟨q_cmp g h1 hs (ih _ _ h2).pe (ih _ _ h3).pe, q_cmpT g h1 hs (ih _ _ h2).pe (ih _ _ h3).pe, rfl⟩
      · cases h
    · cases h
  · split at h
    · rename_i hs
      split at h
      · rename_i o1' o2' a' b' c' h1 h2 h3 h4 h5
        cases h
        exact ⟨q_chain g h1 h2 hs (ih _ _ h3).pe (ih _ _ h4).pe (ih _ _ h5).pe, q_chainT g h1 h2 hs (ih _ _ h3).pe (ih _ _ h4).pe (ih _ _ h5).pe, rfl⟩
      · cases h
    · cases h
  · cases h
theorem s_sub (g : Gd X T C N sc W lev) (ih : ∀ e e', f e = some e' → SE X T C W e e') {a b : Expr} {e' : E} {p : Pos} (h : cSub f a b = some e') : SE X T C W (.Subscript a b p) e' := by
  have key : PE X (.Subscript a b p) (TE' X T C W e') := by
    unfold cSub at h
    split at h
    · cases ha : f a with
      | none => rw [ha] at h; cases h
      | some a' =>
        rw [ha] at h
        cases h
        exact q_sl0 g (ih _ _ ha).pe
    · split at h
      · rename_i h1 h2
        cases h
        exact q_slL g (ih _ _ h1).pe (ih _ _ h2).pe
      · cases h
    · split at h
      · rename_i h1 h2
        cases h
        exact q_slR g (ih _ _ h1).pe (ih _ _ h2).pe
      · cases h
    · split at h
      · rename_i h1 h2 h3
        cases h
        exact q_slB g (ih _ _ h1).pe (ih _ _ h2).pe (ih _ _ h3).pe
      · cases h
    · split at h
      · cases h
      · rename_i hs
        split at h
        · rename_i h1 h2
          cases h
          exact q_ix g (by simpa using hs) (ih _ _ h1).pe (ih _ _ h2).pe
        · cases h
  exact ⟨key, q_val g key fun _ => rfl, rfl⟩
theorem find_ok {x : Str} {i : Nat} (h : T.funs.findIdx? (fun fi => fi.place == (x, none)) = some i) : ∃ fi, T.funs[i]? = some fi ∧ fi.place = (x, none) := by
  obtain ⟨hj, e2, _⟩ := List.findIdx?_eq_some_iff_getElem.mp h
  exact ⟨_, List.getElem?_eq_getElem hj, eq_of_beq e2⟩
theorem exc_nm {x nm : Str} {o : Option Str} {i : Nat} (hi : excIx T x = some i) (hx : T.excs[i]? = some (nm, o)) : nm = x := by
  obtain ⟨hj, e2, _⟩ := List.findIdx?_eq_some_iff_getElem.mp (show T.excs.findIdx? (fun p => p.1 == x) = some i from hi)
  rw [List.getElem?_eq_getElem hj] at hx
  have := eq_of_beq e2
  rw [Option.some.inj hx] at this
  exact this
theorem s_call (g : Gd X T C N sc W lev) {x : Str} {e : Expr} {es : List Expr} {es' : List E} {e' : E} {p pos : Pos} (hg : isGl sc x = true) (hst : plainArgs (e :: es)) (ha : PA X (e :: es) (TA' X T C W es')) (hlen : (e :: es).length = es'.length) (hone : ∀ e1, es' = [e1] → PE X e (TE' X T C W e1)) (h : cCall T x es' = some e') : PE X (.Call (.Name x p) (e :: es) [] pos) (TE' X T C W e') := by
  unfold cCall at h
  split at h
  · rename_i c hc
    split at h
    · rename_i hn
      cases h
      unfold newOk at hn
      split at hn
      · rename_i f hf
        exact q_new g hg (idx_ok hc) hf hn hst ha
      · cases hn
    · cases h
  · split at h
    · rename_i c hc
      split at h
      · rename_i hn
        cases h
        unfold xnewOk at hn
        split at hn
        · rename_i nm hx
          have hnm := exc_nm hc hx
          subst hnm
          rw [Bool.and_eq_true, decide_eq_true_eq] at hn
          obtain ⟨h1, h2⟩ := hn
          have hlen := hlen.trans h1
          obtain rfl : es = [] := by simpa using hlen
          obtain ⟨e1, he1⟩ := List.length_eq_one_iff.mp h1
          rw [he1]
          exact q_xnew0 g hg hx (Option.isNone_iff_eq_none.mp h2) hst (hone e1 he1)
        · rename_i nm fl hx
          have hnm := exc_nm hc hx
          subst hnm
          rw [Bool.and_eq_true, decide_eq_true_eq] at hn
          obtain ⟨h1, h2⟩ := hn
          split at h2
          · rename_i f hf
            exact q_xnew g hg hx hf h2 h1 hst ha
          · cases h2
        · cases hn
      · cases h
    split at h
    · rename_i i hi
      split at h
      · rename_i har
        cases h
        obtain ⟨fi, h1, h2⟩ := find_ok hi
        exact q_call g hg h1 h2 har hst ha
      · cases h
    · cases ho : blt x es'.length with
      | none => rw [ho] at h; cases h
      | some o =>
        rw [ho] at h
        cases h
        exact q_blt g hg ho hst ha
theorem lookup_mem {α β : Type} [BEq α] [LawfulBEq α] {k : α} {v : β} : ∀ {l : List (α × β)}, l.lookup k = some v → (k, v) ∈ l
  | [], h => by cases h
  | (a, b) :: l, h => by
    unfold List.lookup at h
    split at h
    · rename_i e
      cases h
      rw [eq_of_beq e]
      exact List.mem_cons_self ..
    · exact List.mem_cons_of_mem _ (lookup_mem h)
theorem methOk_ok {m n : Nat} (h : methOk T m n = true) : ∀ c f, T.meths.lookup (c, m) = some f → arOk T f (n + 1) = true := fun c f hl => by
  unfold methOk at h
  have := List.all_eq_true.mp h _ (lookup_mem hl)
  simpa using this
theorem propOk_ok {m : Nat} (h : propOk T m = true) : ∀ c f, T.props.lookup (c, m) = some f → arOk T f 1 = true := fun c f hl => by
  unfold propOk at h
  have := List.all_eq_true.mp h _ (lookup_mem hl)
  simpa using this
theorem s_callE (g : Gd X T C N sc W lev) (ih : ∀ e e', f e = some e' → SE X T C W e e') (fn : Expr) (es : List Expr) (e' : E) (pos : Pos) (h : cCallE T sc f es pos fn = some e') : SE X T C W (.Call fn es [] pos) e' := by
  have key : PE X (.Call fn es [] pos) (TE' X T C W e') := by
    unfold cCallE at h
    split at h
    · split at h
      · cases h
      · rename_i hg
        rw [Bool.not_eq_false] at hg
        split at h
        · cases h
        · split at h
          · rename_i e r hx
            subst hx
            unfold cIsi at h
            split at h
            · rename_i e0 t heq
              cases heq
              split at h
              · cases h
              · rename_i e1 h1
                split at h
                · rename_i c h2
                  cases h
                  refine q_isi g hg h2 (fun y hy => ?_) (ih _ _ h1).pe
                  rcases List.mem_cons.mp hy with rfl | hy
                  · exact (ih _ _ h1).ns
                  · rcases List.mem_cons.mp hy with rfl | hy
                    · unfold tyOf at h2
                      split at h2
                      · rfl
                      · cases h2
                    · exact (List.not_mem_nil hy).elim
                · cases hc : xcOf T sc t with
                  | none => rw [hc] at h; cases h
                  | some c =>
                    rw [hc] at h
                    cases h
                    obtain ⟨cv, cu, c1, c2, c3, c4⟩ := xc_ok g hc
                    refine q_isx g hg c2 c3 c1 (fun y hy => ?_) (ih _ _ h1).pe
                    rcases List.mem_cons.mp hy with rfl | hy
                    · exact (ih _ _ h1).ns
                    · rcases List.mem_cons.mp hy with rfl | hy
                      · exact c4
                      · exact (List.not_mem_nil hy).elim
            · cases h
          · split at h
            · rename_i es' hes
              obtain ⟨p1, p2, p3⟩ := s_es g ih _ _ hes
              exact s_call g hg p2 p1 p3 (fun e1 he1 => (ih _ _ (s_es1 (by rw [hes, he1]))).pe) h
            · cases h
    · split at h
      · rename_i hc
        split at h
        · rename_i o' es' h1 h2
          obtain ⟨p1, p2, p3⟩ := s_es g ih _ _ h2
          unfold cMeth at h
          split at h
          · rename_i q hq
            cases h
            exact q_bm g hq p3 (ih _ _ h1).pe p1 hc.1 p2 hc.2.2 hc.2.1
          · split at h
            · rename_i i hi
              split at h
              · rename_i hm
                cases h
                exact q_meth g (idx_ok hi) p3 (methOk_ok hm) (ih _ _ h1).pe p1 hc.1 p2 hc.2.2 hc.2.1
              · cases h
            · cases h
        · cases h
      · cases h
    · cases h
  exact ⟨key, q_val g key fun _ => rfl, rfl⟩
theorem s_kw (g : Gd X T C N sc W lev) (ih : ∀ e e', f e = some e' → SE X T C W e e') {fn : Expr} {es : List Expr} {kws : List Keyword} {e' : E} {pos : Pos} (h : cKw T sc f fn es kws = some e') : SE X T C W (.Call fn es kws pos) e' := by
  have key : PE X (.Call fn es kws pos) (TE' X T C W e') := by
    unfold cKw at h
    split at h
    · rename_i x p k e kp
      split at h
      · cases h
      · rename_i hg
        rw [Bool.not_eq_false] at hg
        split at h
        · rename_i c hc
          split at h
          · rename_i nm fl g' hx hf
            split at h
            · rename_i fi hfi
              split at h
              · rename_i hh
                have hnm := exc_nm hc hx
                subst hnm
                cases he : f e with
                | none => rw [he] at h; cases h
                | some e1 =>
                  rw [he] at h
                  cases h
                  exact q_xnewK g hg hx hf hfi hh.1 hh.2.1 hh.2.2 (ih _ _ he).pe
              · cases h
            · cases h
          · cases h
        · cases h
    · cases h
  exact ⟨key, q_val g key fun _ => rfl, rfl⟩
theorem s_it (g : Gd X T C N sc W lev) (ih : ∀ e e', f e = some e' → SE X T C W e e') {tg it : Expr} {it' : Z.It} (h : cI sc f (isTupE tg) it = some it') : PI X tg it (TI' X T C W it') ∧ ∀ x, foldedSetIterable it X.env x = pure x := by
  unfold cI at h
  split at h
  · rename_i x es hit
    unfold itName at hit
    split at hit
    · rename_i x' p es' pos
      split at hit
      · rename_i hx
        cases hit
        refine ⟨?_, fun _ => rfl⟩
        unfold cIc at h
        split at h
        · rename_i e
          split at h
          · cases h
          · rename_i hg
            have hg : isGl sc x = true := by simpa using hg
            split at h
            · rename_i hr
              subst hr
              cases he : f e with
              | none => rw [he] at h; cases h
              | some a =>
                rw [he] at h
                cases h
                exact i_rng1 g hg (fun y hy => by rcases List.mem_cons.mp hy with rfl | hy; exact (ih _ _ he).ns; exact (List.not_mem_nil hy).elim) (ih _ _ he).pe
            · split at h
              · rename_i hr
                obtain ⟨hr, ht⟩ := hr
                subst hr
                cases he : f e with
                | none => rw [he] at h; cases h
                | some a =>
                  rw [he] at h
                  cases h
                  cases tg <;> first | cases ht | skip
                  exact i_enum g hg (fun y hy => by rcases List.mem_cons.mp hy with rfl | hy; exact (ih _ _ he).ns; exact (List.not_mem_nil hy).elim) (ih _ _ he).pe
              · cases h
        · rename_i e e2
          split at h
          · cases h
          · rename_i hg
            have hg : isGl sc x = true := by simpa using hg
            split at h
            · rename_i a b h1 h2
              have pl : plainArgs [e, e2] := fun y hy => by
                rcases List.mem_cons.mp hy with rfl | hy
                · exact (ih _ _ h1).ns
                · rcases List.mem_cons.mp hy with rfl | hy
                  · exact (ih _ _ h2).ns
                  · exact (List.not_mem_nil hy).elim
              split at h
              · rename_i hr
                subst hr
                cases h
                exact i_rng2 g hg pl (ih _ _ h1).pe (ih _ _ h2).pe
              · split at h
                · rename_i hr
                  obtain ⟨hr, ht⟩ := hr
                  subst hr
                  cases h
                  cases tg <;> first | cases ht | skip
                  exact i_zip g hg pl (ih _ _ h1).pe (ih _ _ h2).pe
                · cases h
            · cases h
        · cases h
      · cases hit
    · cases hit
  · split at h
    · rename_i hn
      cases he : f it with
      | none => rw [he] at h; cases h
      | some a =>
        rw [he] at h
        cases h
        exact ⟨i_seq g (ih _ _ he).pe, fold_ok hn _⟩
    · cases h
end
/-- a list comprehension -/
theorem s_lc (g : Gd X T C N sc W lev) {f f' : Expr → Option E} {elt : Expr} {gs : List Comprehension} {scope : Scope} {e' : E} (ih : ∀ e e', f e = some e' → SE X T C W e e')
    (ih' : ∀ (s : Shared) (H : Hp) (C' : Addr) (cl : List (Str × Addr)) (fp : List Addr) e e', f' e = some e' → SE (X.blk s H scope (compEnvC scope cl C' X.env) fp) T C (fun _ _ _ _ => False) e e') (h : cLc N sc scope f f' elt gs = some e') : LcOk X elt gs scope (TE' X T C W e') := by
  unfold cLc at h
  split at h
  · rename_i tg it ifs
    split at h
    · rename_i tg' it' elt' h1 h2 h3
      split at h
      · rename_i hb
        obtain ⟨i1, i2⟩ := s_it g ih h2
        have he : ∀ (s : Shared) (H : Hp) (C' : Addr) (cl : List (Str × Addr)) (fp : List Addr), PE (X.blk s H scope (compEnvC scope cl C' X.env) fp) elt (TE' X T C (fun _ _ _ _ => False) elt') := fun s H C' cl fp => (ih' s H C' cl fp elt elt' h3).pe
        split at h
        · cases h
          exact q_lc g h1 hb i1 i2 he
        · rename_i t
          cases ht : f' t with
          | none => rw [ht] at h; cases h
          | some t' =>
            rw [ht] at h
            cases h
            exact q_lcif g h1 hb i1 i2 (fun s H C' cl fp => (ih' s H C' cl fp t t' ht).pt) he
        · cases h
      · cases h
    · cases h
  · cases h
/-- every expression that the translation takes -/
theorem sE : ∀ (n : Nat) {X : Cx} {sc : Scope} {W : WX} (g : Gd X T C N sc W lev) (e : Expr) (e' : E), cE T N n sc e = some e' → SE X T C W e e'
  | 0, X, sc, W, g, e, e', h => by unfold cE at h; cases h
  | n + 1, X, sc, W, g, e, e', h => by
    have ih : ∀ e e', cE T N n sc e = some e' → SE X T C W e e' := fun e e' h => sE n g e e' h
    unfold cE at h
    split at h
    · exact s_name g h
    · rename_i c k p
      cases hc : cConst c with
      | none => rw [hc] at h; cases h
      | some d => rw [hc] at h; cases h; exact s_const g hc
    · split at h
      · rename_i h1 h2 h3
        cases h
        have key := q_bin (p := ‹Pos›) g h1 (ih _ _ h2).pe (ih _ _ h3).pe
        exact ⟨key, q_val g key fun _ => rfl, rfl⟩
      · cases h
    · rename_i o a p
      split at h
      · cases ha : cE T N n sc a with
        | none => rw [ha] at h; cases h
        | some a' => rw [ha] at h; cases h; exact ⟨q_not g (ih _ _ ha).pe, q_notT g (ih _ _ ha).pt, rfl⟩
      · cases ha : cE T N n sc a with
        | none => rw [ha] at h; cases h
        | some a' =>
          rw [ha] at h
          cases h
          have key := q_neg (p := p) g (ih _ _ ha).pe
          exact ⟨key, q_val g key fun _ => rfl, rfl⟩
      · cases h
    · rename_i o es p
      split at h
      · split at h
        · obtain ⟨p1, p2⟩ := s_and (p := p) g ih es e' h
          exact ⟨p1, p2.pt, rfl⟩
        · cases h
      · split at h
        · obtain ⟨p1, p2⟩ := s_or (p := p) g ih es e' h
          exact ⟨p1, p2.pt, rfl⟩
        · cases h
    · split at h
      · rename_i h1 h2 h3
        cases h
        exact ⟨q_ifx g (ih _ _ h1).pt (ih _ _ h2).pe (ih _ _ h3).pe, q_ifxT g (ih _ _ h1).pt (ih _ _ h2).pt (ih _ _ h3).pt, rfl⟩
      · cases h
    · exact s_cmp g ih h
    · rename_i es k p
      cases ha : cEs (cE T N n sc) es with
      | none => rw [ha] at h; cases h
      | some es' =>
        rw [ha] at h
        cases h
        obtain ⟨p1, p2, p3⟩ := s_es g ih _ _ ha
        have key := q_tup (k := k) (p := p) g p1
        exact ⟨key, q_val g key fun _ => rfl, rfl⟩
    · rename_i ks vs p
      have key := s_dict (p := p) g ih h
      exact ⟨key, q_val g key fun _ => rfl, rfl⟩
    · rename_i es p
      cases ha : cEs (cE T N n sc) es with
      | none => rw [ha] at h; cases h
      | some es' =>
        rw [ha] at h
        cases h
        obtain ⟨p1, p2, p3⟩ := s_es g ih _ _ ha
        have key := q_lst (p := p) g p1
        exact ⟨key, q_val g key fun _ => rfl, rfl⟩
    · exact s_sub g ih h
    · rename_i o x p
      have key : PE X (.Attribute o x p) (TE' X T C W e') := by
        unfold cAttr at h
        split at h
        · rename_i hr
          split at h
          · rename_i o' m h1 h2
            split at h
            · rename_i hp
              cases h
              exact q_attr g (idx_ok h2) (propOk_ok hp) hr (ih _ _ h1).pe
            · cases h
          · cases h
        · cases h
      exact ⟨key, q_val g key fun _ => rfl, rfl⟩
    · rename_i fn es kws pos
      split at h
      · rename_i hk
        have hk : kws = [] := List.isEmpty_iff.mp hk
        subst hk
        exact s_callE g ih fn es e' pos h
      · exact s_kw g ih h
    · rename_i elt gs scope p
      have key : PE X (.ListComp elt gs scope p) (TE' X T C W e') := (s_lc g ih (fun s H C' cl fp e e' h => sE n (g.blk s H scope C' cl fp) e e' h) h).pe g.calm g.nd
      exact ⟨key, q_val g key fun _ => rfl, rfl⟩
    · cases h
end
end Z
end
section
set_option linter.all false
set_option maxRecDepth 100000
set_option maxHeartbeats 4000000
namespace Z
open PySem PySem.Spec PyProof.Rows L2

/-! ## statements: the translation -/
def isComp : Expr → Bool
  | .ListComp _ _ _ _ => true
  | .SetComp _ _ _ _ => true
  | .DictComp _ _ _ _ _ => true
  | _ => false
/-- a plain local name on a line -/
def locN (N : List Str) (sc : Scope) (l : Nat) : Expr → Option (Str × Nat)
  | .Name x p => if sc.names.lookup x = some .local ∧ p.line = l then (N.idxOf? x).map fun i => (x, i) else none
  | _ => none
def isStarE : Expr → Bool
  | .Starred _ _ => true
  | _ => false
/-- the swapped names of a line -/
def swNames (sc : Scope) (ts : List Expr) : List Str := ts.filterMap fun
    | .Name id pos => if sc.names.lookup id == some .local && pos.line == (ts.head?.map (·.pos.line)).getD 0 then some id else none
    | _ => none
/-- 1: plain stores; 2, 3: exchanged ones -/
def swOf (sc : Scope) (ts vs : List Expr) : Option Nat :=
  if (!(ts.length == 2 || ts.length == 3) || vs.length != ts.length) = true then some 1 else
  if (vs.any isStarE) = true then none else
  if ((swNames sc ts).length != ts.length || (swNames sc ts).eraseDups.length != (swNames sc ts).length) = true then some 1 else
  if (vs.all (foldedForSure 8)) = true then some 1 else
  if (vs.all (constantsAlone 8)) = true then none else some ts.length
def cAsgT (T : Tab) (N : List Str) (sc : Scope) (f : Expr → Option E) (ts : List Expr) (k : Nat) (p : Pos) : Expr → Option S
  | .Tuple vs k2 p2 => (match swOf sc ts vs with
    | some 1 => (match cTg N sc (fun _ => true) (.Tuple ts k p), f (.Tuple vs k2 p2) with
      | some t, some e => some (.asg t e)
      | _, _ => none)
    | some 2 => (match ts, vs with
      | [.Name x px, .Name y py], [a, b] => (match locN N sc px.line (.Name x px), locN N sc px.line (.Name y py), cEs f [a, b] with
        | some i, some j, some es => if i.2 ≠ j.2 then some (.asg (.tup [.name i.2, .name j.2]) (.op .tup es)) else none
        | _, _, _ => none)
      | _, _ => none)
    | some 3 => (match ts, vs with
      | [.Name x px, .Name y py, .Name z pz], [a, b, c] => (match locN N sc px.line (.Name x px), locN N sc px.line (.Name y py), locN N sc px.line (.Name z pz), cEs f [a, b, c] with
        | some i, some j, some l, some es => if i.2 ≠ j.2 ∧ i.2 ≠ l.2 ∧ j.2 ≠ l.2 then some (.asg (.tup [.name i.2, .name j.2, .name l.2]) (.op .tup es)) else none
        | _, _, _, _ => none)
      | _, _ => none)
    | _ => none)
  | e => if isComp e = true then none else (match cTg N sc (fun _ => true) (.Tuple ts k p), f e with
      | some t, some e => some (.asg t e)
      | _, _ => none)
/-- whether a comprehension is stored by its own block -/
def swLc (sc : Scope) (t : Str) (p : Pos) : Expr → Bool
  | .ListComp _ _ scope pos => sc.names.lookup t == some .local && p.line == pos.line && !(scope.names.any fun (n, k) => n == t && (k == .local || k == .cell))
  | _ => false
def isLcE : Expr → Bool
  | .ListComp _ _ _ _ => true
  | _ => false
def cAsg (T : Tab) (N : List Str) (sc : Scope) (f : Expr → Option E) (e : Expr) : Expr → Option S
  | .Name x p => if isComp e = true ∧ isLcE e = false then none else (match cTg N sc (fun _ => true) (.Name x p), f e with
    | some t, some e' => some (.asg t e')
    | _, _ => none)
  | .Tuple ts k p => cAsgT T N sc f ts k p e
  | .Subscript o i _ => if isSlice i = true ∨ isComp e = true then none else (match f e, f o, f i with
    | some e', some o', some i' => some (.asgS o' i' e')
    | _, _, _ => none)
  | .Attribute o x _ => if isComp e = true ∨ plainRecv o = false then none else (match f e, f o, T.names.idxOf? x with
    | some e', some o', some m => some (.asgF o' m e')
    | _, _, _ => none)
  | _ => none
def cRaise (T : Tab) (sc : Scope) (f : Expr → Option E) : Expr → Option S
  | .Call (.Name x _) [.Constant (.str _) _ _] [] _ => if isGl sc x = false then none else (match excIx T x with
    | some i => (match T.excs[i]? with
      | some (_, none) => some (.raise i none)
      | _ => none)
    | none => none)
  | _ => none
def cSs (f : Stmt → Option S) : List Stmt → Option S
  | [] => some .nil
  | a :: r => (match f a, cSs f r with
    | some a', some r' => some (.cons a' r')
    | _, _ => none)
def noElse : List Stmt → Bool
  | [] => true
  | _ => false
def cExpr (f : Expr → Option E) : Expr → Option S
  | .Constant (.str _) _ _ => some .nil
  | e => if isComp e = true then none else (f e).map .expr
def cAug (N : List Str) (sc : Scope) (f : Expr → Option E) (o : Operator) (e : Expr) : Expr → Option S
  | .Name x _ => if sc.names.lookup x = some .local then (match N.idxOf? x, f e, o with
    | some i, some e', .Add => some (.aug i .add e')
    | some i, some e', .Sub => some (.aug i .sub e')
    | _, _, _ => none) else none
  | _ => none
def cS (T : Tab) (N : List Str) (sc : Scope) (f : Expr → Option E) : Nat → Stmt → Option S
  | 0, _ => none
  | n + 1, st => match st with
    | .Expr e _ => cExpr f e
    | .Return (some e) _ => (f e).map .ret
    | .Return none _ => some (.ret (.cst .non))
    | .Pass _ => some .nil
    | .Break _ => some .brk
    | .Continue _ => some .cont
    | .Assign ts e _ => (match ts with
      | [tg] => cAsg T N sc f e tg
      | _ => none)
    | .AugAssign tg o e _ => cAug N sc f o e tg
    | .If t a b _ => (match f t, cSs (cS T N sc f n) a, cSs (cS T N sc f n) b with
      | some t', some a', some b' => some (.ife t' a' b')
      | _, _, _ => none)
    | .While t a b _ => if noElse b = false then none else (match f t, cSs (cS T N sc f n) a with
      | some t', some a' => some (.whl t' a')
      | _, _ => none)
    | .For tg it a b _ => if noElse b = false then none else (match cTg N sc (fun _ => true) tg, cI sc f (isTupE tg) it, cSs (cS T N sc f n) a with
      | some tg', some it', some a' => some (.fore tg' it' a')
      | _, _, _ => none)
    | .Raise e c _ => (match e, c with
      | some e, none => cRaise T sc f e
      | _, _ => none)
    | _ => none

/-! ## statements: the reading -/
section
variable (P : Program) (w : World) (K : PySem.W.Frag) (T : Names) (W : WX)
def endOf (ρ : List Addr) (H : Hp) (D : Ends) : EndS where
  nx := fun σ' st' => ∀ ρ' H' σv, Ext ρ ρ' H H' → RelS P w K T ρ' st' H' → Sl K ρ' H' σ' σv → D.nx σv H'
  rt := fun d st' => ∀ ρ' H' v, Ext ρ ρ' H H' → RelS P w K T ρ' st' H' → RelD K ρ' H' d v → D.rt v H'
  bk := fun σ' st' => ∀ ρ' H' σv, Ext ρ ρ' H H' → RelS P w K T ρ' st' H' → Sl K ρ' H' σ' σv → D.bk σv H'
  ct := fun σ' st' => ∀ ρ' H' σv, Ext ρ ρ' H H' → RelS P w K T ρ' st' H' → Sl K ρ' H' σ' σv → D.ct σv H'
  xc := fun x σ' st' => ∀ ρ' H' σv c dd, Ext ρ ρ' H H' → RelS P w K T ρ' st' H' → Sl K ρ' H' σ' σv → RelX K T ρ' H' x c dd → W c dd σv H'
def tOfS (m : Loc → Sto → EndS → Prop) : TS := fun D σ H => ∃ ρ σD st, RelS P w K T ρ st H ∧ Sl K ρ H σD σ ∧ m σD st (endOf P w K T W ρ H D)
end
theorem endOf.ext {P : Program} {w : World} {K : PySem.W.Frag} {T : Names} {W : WX} {ρ ρ' : List Addr} {H H' : Hp} (e : Ext ρ ρ' H H') (D : Ends) : (endOf P w K T W ρ H D).Le (endOf P w K T W ρ' H' D) where
  nx := fun σ s h ρ2 H2 σv e2 => h ρ2 H2 σv (e.trans e2)
  rt := fun d s h ρ2 H2 v e2 => h ρ2 H2 v (e.trans e2)
  bk := fun σ s h ρ2 H2 σv e2 => h ρ2 H2 σv (e.trans e2)
  ct := fun σ s h ρ2 H2 σv e2 => h ρ2 H2 σv (e.trans e2)
  xc := fun x σ s h ρ2 H2 σv c dd e2 => h ρ2 H2 σv c dd (e.trans e2)
/-- a context for statements -/
structure GdS (X : Cx) (T : Tab) (C : CallS) (N : List Str) (sc : Scope) (W : WX) (lev : Nat) : Prop extends Gd X T C N sc W lev where
  pas : PassesOwn (model X.prog X.w) X.A X.env X.xe
  fn : ∀ x, X.fn x = true
  kind : X.env.scope.kind = .function
abbrev TS' (X : Cx) (T : Tab) (C : CallS) (W : WX) (s : S) : TS := tOfS X.prog X.w X.K T.toNames W (wS T C s)
section
variable {X : Cx} {T : Tab} {C : CallS} {N : List Str} {sc : Scope} {W : WX} {lev : Nat}
theorem Gd.mS (g : Gd X T C N sc W lev) (s : S) {σ : Z.Loc} {st : Sto} {D1 D2 : EndS} (h : D1.Le D2) (p : wS T C s σ st D1) : wS T C s σ st D2 := Z.mS g.pr.mon s σ st D1 D2 h p
/-- the exceptions of a part -/
theorem xcE {P : Program} {w : World} {K : PySem.W.Frag} {T : Names} {W : WX} {ρ : List Addr} {H : Hp} {σD : Z.Loc} {σ : L2.St} {D : Ends} (s : Sl K ρ H σD σ) {x : Exn} {st : Sto} (h : (endOf P w K T W ρ H D).xc x σD st) : PoX P w K T ρ H σ W x st := fun ρ' H' c dd e r rx => h ρ' H' σ c dd e r (s.ext e) rx
theorem stepS (g : Gd X T C N sc W lev) {ρ ρ0 : List Addr} {H H0 : Hp} {st : Sto} {σD : Z.Loc} {σ : L2.St} {s : S} {D : Ends} (r : RelS X.prog X.w X.K T.toNames ρ st H) (l : Sl X.K ρ H σD σ) (e0 : Ext ρ0 ρ H0 H) (p : wS T C s σD st (endOf X.prog X.w X.K T.toNames W ρ0 H0 D)) : TS' X T C W s D σ H :=
  ⟨ρ, σD, st, r, l, g.mS s (endOf.ext e0 D) p⟩
theorem q_snil : PSs X [] (TS' X T C W .nil) := PSs.imp pss_nil fun D σ H q => by
  obtain ⟨ρ, σD, st, r, s, q⟩ := q
  unfold wS at q
  exact q ρ H σ .refl r s
theorem q_scons (g : Gd X T C N sc W lev) {a : Stmt} {b : List Stmt} {a' b' : S} (ha : PS X a (TS' X T C W a')) (hb : PSs X b (TS' X T C W b')) : PSs X (a :: b) (TS' X T C W (.cons a' b')) := PSs.imp (pss_cons ha hb) fun D σ H q => by
  obtain ⟨ρ, σD, st, r, s, q⟩ := q
  unfold wS at q
  refine ⟨ρ, σD, st, r, s, g.mS a' ?_ q⟩
  exact ⟨fun σ1 s1 h ρ1 H1 σv e r1 l1 => stepS g r1 l1 e h, fun _ _ h => h, fun _ _ h => h, fun _ _ h => h, fun _ _ _ h => h⟩
theorem q_skip {st : Stmt} (h : PS X st tNext) : PS X st (TS' X T C W .nil) := PS.imp h fun D σ H q => by
  obtain ⟨ρ, σD, st, r, s, q⟩ := q
  unfold wS at q
  exact q ρ H σ .refl r s
theorem q_brk {p : Pos} : PS X (.Break p) (TS' X T C W .brk) := PS.imp ps_break fun D σ H q => by
  obtain ⟨ρ, σD, st, r, s, q⟩ := q
  unfold wS at q
  exact q ρ H σ .refl r s
theorem q_cont {p : Pos} : PS X (.Continue p) (TS' X T C W .cont) := PS.imp ps_continue fun D σ H q => by
  obtain ⟨ρ, σD, st, r, s, q⟩ := q
  unfold wS at q
  exact q ρ H σ .refl r s
theorem swN {e : Expr} (h : isComp e = false) (t : Option Expr) (l : Nat) (env : Env) : swapsWith e t l env = pure false := by
  cases e <;> first | rfl | cases h
theorem q_expr (g : Gd X T C N sc W lev) {e : Expr} {e' : E} {p : Pos} (hc : isComp e = false) (h : PE X e (TE' X T C W e')) : PS X (.Expr e p) (TS' X T C W (.expr e')) := PS.imp (ps_expr h (swN hc _ _ _)) fun D σ H q => by
  obtain ⟨ρ, σD, st, r, s, q⟩ := q
  unfold wS at q
  refine step1 g r s .refl (g.mE e' _ _ _ _ _ _ (fun d s h => h) (fun x s1 h => xcE s h) q) fun ρ1 H1 d st1 x e1 r1 s1 rd q1 => ?_
  exact q1 ρ1 H1 σ e1 r1 s1
theorem q_ret (g : Gd X T C N sc W lev) {e : Expr} {e' : E} {p : Pos} (h : PE X e (TE' X T C W e')) : PS X (.Return (some e) p) (TS' X T C W (.ret e')) := PS.imp (ps_ret h) fun D σ H q => by
  obtain ⟨ρ, σD, st, r, s, q⟩ := q
  unfold wS at q
  refine step1 g r s .refl (g.mE e' _ _ _ _ _ _ (fun d s h => h) (fun x s1 h => xcE s h) q) fun ρ1 H1 d st1 x e1 r1 s1 rd q1 => ?_
  exact q1 ρ1 H1 x e1 r1 rd
theorem q_retN {p : Pos} : PS X (.Return none p) (TS' X T C W (.ret (.cst .non))) := PS.imp ps_retN fun D σ H q => by
  obtain ⟨ρ, σD, st, r, s, q⟩ := q
  unfold wS wE at q
  exact q ρ H .non .refl r .non
/-- a value stored by a target -/
theorem asg_imp (g : Gd X T C N sc W lev) {t : Tg} {e' : E} {D : Ends} {σ : L2.St} {H : Hp} (q : TS' X T C W (.asg t e') D σ H) : tAsg (TE' X T C W e') (gOf X.prog X.w X.K T.toNames t) D σ H := by
  obtain ⟨ρ, σD, st, r, s, q⟩ := q
  unfold wS at q
  refine step1 g r s .refl (g.mE e' _ _ _ _ _ _ (fun d s h => h) (fun x s1 h => xcE s h) q) fun ρ1 H1 d st1 x e1 r1 s1 rd q1 => ?_
  split at q1
  · rename_i σ' hw
    exact ⟨ρ1, σD, st1, d, σ', r1, s1, rd, hw, fun σ2 s2 o => q1 ρ1 H1 σ2 e1 r1 s2⟩
  · exact q1.elim
theorem tgSole {tg : Expr} {t : Tg} {fl : Str → Bool} (h : cTg N sc fl tg = some t) (env : Env) : (assignEach [tg] env).map (·.2) = [assign tg env] := by
  cases tg <;> first | rfl | (unfold cTg at h; cases h)
theorem q_asg (g : GdS X T C N sc W lev) {tg e : Expr} {t : Tg} {e' : E} {p : Pos} (ht : cTg N sc (fun _ => true) tg = some t) (he : PE X e (TE' X T C W e')) (hs : swapsWithSole [tg] e p.line X.env = pure false) (hw : swappedStores [tg] e X.env = pure none) :
    PS X (.Assign [tg] e p) (TS' X T C W (.asg t e')) :=
  PS.imp (ps_asg he (q_tg g.toGd (fun x _ => g.fn x) tg t ht) hs hw (tgSole ht _)) fun D σ H q => asg_imp g.toGd q
theorem q_asgS (g : Gd X T C N sc W lev) {o i e : Expr} {o' i' e' : E} {p p2 : Pos} (hsl : isSlice i = false) (hc : isComp e = false) (he : PE X e (TE' X T C W e')) (ho : PE X o (TE' X T C W o')) (hi : PE X i (TE' X T C W i')) :
    PS X (.Assign [.Subscript o i p2] e p) (TS' X T C W (.asgS o' i' e')) := by
  refine PS.imp (ps_asg he (pg_sub ho hi (z_set (T := T.toNames) g.hu) (fun v => by cases i <;> first | rfl | cases hsl)) (show swapsWith e (some (.Subscript o i p2)) p.line X.env = pure false from swN hc _ _ _) (by cases e <;> rfl) rfl) fun D σ H q => ?_
  obtain ⟨ρ, σD, st, r, s, q⟩ := q
  unfold wS wEs wEs wEs wEs at q
  refine step1 g r s .refl (g.mE e' _ _ _ _ _ _ (fun d s1 h => g.mE o' _ _ _ _ _ _ (fun d s2 h => g.mE i' _ _ _ _ _ _ (fun d s3 h => h) (fun x s3 h => xcE s h) h) (fun x s2 h => xcE s h) h) (fun x s1 h => xcE s h) q) fun ρ1 H1 d st1 x e1 r1 s1 rd q1 => ?_
  refine step1 g r1 s1 e1 q1 fun ρ2 H2 d2 st2 y e2 r2 s2 rd2 q2 => ?_
  refine step1 g r2 s2 (e1.trans e2) q2 fun ρ3 H3 d3 st3 z e3 r3 s3 rd3 q3 => ?_
  dsimp only at q3
  refine ⟨ρ3, st3, d2, d3, d, r3, rd2.ext e3, rd3, (rd.ext e2).ext e3, ?_⟩
  have fin : ∀ {st'}, (endOf X.prog X.w X.K T.toNames W ρ H D).nx σD st' → ∀ H', Ext ρ3 ρ3 H3 H' → RelS X.prog X.w X.K T.toNames ρ3 st' H' → D.nx σ H' := fun h H' e r' => h ρ3 H' σ (((e1.trans e2).trans e3).trans e) r' (s3.ext e)
  split at q3
  · rename_i v j k heq
    cases heq
    unfold stD
    dsimp only
    split at q3
    · rename_i l hl
      try simp only [hl]
      split at q3
      · split at q3
        · rename_i m hm
          try simp only [hm]
          exact fin q3
        · exact q3.elim
      · exact q3.elim
    · rename_i l hl
      try simp only [hl]
      exact ⟨q3.1, q3.2.1, fin q3.2.2⟩
    · exact q3.elim
  · exact q3.elim
theorem q_asgF (g : Gd X T C N sc W lev) {o e : Expr} {o' e' : E} {x : Str} {m : Nat} {p p2 : Pos} (hm : T.names[m]? = some x) (hc : isComp e = false) (he : PE X e (TE' X T C W e')) (ho : PE X o (TE' X T C W o')) :
    PS X (.Assign [.Attribute o x p2] e p) (TS' X T C W (.asgF o' m e')) := by
  refine ⟨fun pins s σ H D I q => ?_⟩
  obtain ⟨ρ, σD, st, r, s0, q⟩ := q
  unfold wS wEs wEs wEs at q
  have hA : TE' X T C W e' σ H fun y H1 => TE' X T C W o' σ H1 fun z H2 =>
      (∃ a C dx fs, z = .ref a ∧ H2 a = some (.ins C dx fs) ∧ Cls X.K C ∧ NoAttr X.K C x ∧ fs.length < 1000 ∧ D.nx σ (upd H2 a (.ins C dx (putF x y fs)))) ∨
      (∃ a C : Addr, z = .ref a ∧ OexC X.K C ∧ PySem.W.findIn X.K (.ref C) x = some none ∧ H2 a = some (exo a C none) ∧ ∀ dx, H2 dx = none → dx ≠ a → D.nx σ (upd (upd H2 dx (exd dx [(x, y)])) a (exo a C (some dx)))) := by
    refine step1 g r s0 .refl (g.mE e' _ _ _ _ _ _ (fun d s1 h => g.mE o' _ _ _ _ _ _ (fun d s2 h => h) (fun x s2 h => xcE s0 h) h) (fun x s1 h => xcE s0 h) q) fun ρ1 H1 d st1 y e1 r1 s1 rd q1 => ?_
    refine step1 g r1 s1 e1 q1 fun ρ2 H2 d2 st2 z e2 r2 s2 rd2 q2 => ?_
    dsimp only at q2
    split at q2
    · rename_i v j heq
      cases heq
      split at q2
      · rename_i c fs hj
        obtain ⟨rfl, ⟨nm, f, h1, h2⟩, q6⟩ := q2
        rw [hm] at h2
        cases h2
        obtain ⟨a, ha, rfl⟩ := rd2.ref_
        obtain ⟨nm', fld, h3, h4⟩ := r2.obj j _ a hj ha
        rw [h1] at h3
        cases h3
        have hX := g.pr.xfd c nm x h1
        rcases h4 with ⟨_, h4⟩ | ⟨_, _, _, _, h4, _⟩
        · refine .inr ⟨a, _, rfl, hX.oex, hX.no, h4, fun dx hdx hne => ?_⟩
          have e3 : Ext ρ2 ρ2 H2 (upd H2 dx (exd dx [(x, y)])) := .tmp hdx
          have r3 := r2.tmp (o := exd dx [(x, y)]) hdx
          have rdv := (rd.ext e2).ext e3
          obtain ⟨r4, e4⟩ := r3.set (o' := .exn c [(m, d)]) (u := exo a (He.ga X.K nm) (some dx)) hj ha fun e => ⟨nm, some x, h1, .inr ⟨m, d, dx, y, rfl, hm, upd_same, by rw [upd_ne hne, upd_same], r2.new_not hdx, rdv.ext e⟩⟩
          exact q6 ρ2 _ σ (((e1.trans e2).trans e3).trans e4) r4 ((s2.ext e3).ext e4)
        · cases h4
      · rename_i c fs hj
        obtain ⟨q3, q4, q5, q6⟩ := q2
        obtain ⟨a, nx, dx, vs, rfl, ha, hc', hH, rf⟩ := ins_at r2 hj rd2
        have rdv := rd.ext e2
        obtain ⟨r3, e3⟩ := r2.set (o' := .ins c (putN m d fs)) (u := .ins (He.ga X.K nx) dx (putF x y vs)) hj ha fun e => ⟨nx, dx, _, hc', upd_same, relF_put g.pr.nd hm (rdv.ext e) (rf.ext e)⟩
        refine .inl ⟨a, _, dx, vs, rfl, hH, (g.pr.clsG c nx hc').2, g.pr.noat c m nx x hc' hm q4 q5, by rw [← rf.length]; exact q3, ?_⟩
        exact q6 ρ2 _ σ ((e1.trans e2).trans e3) r3 (s2.ext e3)
      · exact q2.elim
    · exact q2.elim
  refine plainObj_wpAny_Assign_Attribute (thn (he.run pins s σ H _ I hA) fun u s1 ⟨y, H1, I1, ry, q⟩ => thn (ho.run pins s1 σ H1 _ I1 q) fun ov s2 ⟨z, H2, I2, rz, q2⟩ => ?_) (swN hc _ _ _)
  rcases q2 with ⟨a, C, dx, fs, rfl, ea, c, n, l, q2⟩ | ⟨a, C, rfl, oc, hno, ea, q2⟩
  · obtain rfl : ov = Value.ref a := rz
    exact setattr_ok I2 ea c n l ry fun s3 I3 => ⟨σ, _, I3, q2⟩
  · obtain rfl : ov = Value.ref a := rz
    exact ost_new oc I2 ea hno ry fun dx s' n ne J => ⟨σ, _, J, q2 dx n ne⟩
end
end Z
end
section
set_option linter.all false
set_option maxRecDepth 100000
set_option maxHeartbeats 4000000
namespace Z
open PySem PySem.Spec PyProof.Rows L2
section
variable {X : Cx} {T : Tab} {C : CallS} {N : List Str} {sc : Scope} {W : WX} {lev : Nat}
theorem q_aug (g : GdS X T C N sc W lev) {x : Str} {i : Nat} {o : Operator} {o' : Op} {f : Int → Int → Int} {e : Expr} {e' : E} {p p2 : Pos} (hx : sc.names.lookup x = some .local) (hi : N.idxOf? x = some i)
    (ho : PIp X o (ipI f)) (hf : ∀ a b st, primF o' [.int a, .int b] st = some (.int (f a b), st)) (he : PE X e (TE' X T C W e')) : PS X (.AugAssign (.Name x p2) o e p) (TS' X T C W (.aug i o' e')) := by
  refine PS.imp (ps_aug (i := i) g.nd (by rw [g.nm]; exact idx_ok hi) (.inl (by rw [g.sc]; exact hx)) he ho (.inr (by rw [g.sc]; exact hx))) fun D σ H q => ?_
  obtain ⟨ρ, σD, st, r, s, q⟩ := q
  unfold wS at q
  split at q
  · rename_i a ha
    obtain ⟨v, h1, h2⟩ := s.at_ i _ ha
    cases h2.int_
    refine ⟨_, h1, step1 g.toGd r s .refl (g.mE e' _ _ _ _ _ _ (fun d s h => h) (fun x s1 h => xcE s h) q) fun ρ1 H1 d st1 y e1 r1 s1 rd q1 => ?_⟩
    split at q1
    · rename_i b
      cases rd.int_
      unfold prim at q1
      rw [hf] at q1
      exact ⟨a, b, rfl, rfl, q1 ρ1 H1 _ e1 r1 (s1.set (.int _) i)⟩
    · exact q1.elim
  · exact q.elim
theorem q_if (g : Gd X T C N sc W lev) {t : Expr} {a b : List Stmt} {t' : E} {a' b' : S} {p : Pos} (ht : PT X t (TT' X T C W t')) (ha : PSs X a (TS' X T C W a')) (hb : PSs X b (TS' X T C W b')) : PS X (.If t a b p) (TS' X T C W (.ife t' a' b')) := by
  refine PS.imp (ps_if ht ha hb) fun D σ H q => ?_
  obtain ⟨ρ, σD, st, r, s, q⟩ := q
  unfold wS at q
  refine stepT g r s .refl (g.mE t' _ _ _ _ _ _ (fun d s h => h) (fun x s1 h => xcE s h) q) fun ρ1 H1 st1 k e1 r1 s1 q1 => ?_
  cases k with
  | true => rw [if_pos rfl] at q1 ⊢; exact stepS g r1 s1 e1 q1
  | false => rw [if_neg Bool.false_ne_true] at q1 ⊢; exact stepS g r1 s1 e1 q1
theorem q_while (g : GdS X T C N sc W lev) {t : Expr} {a : List Stmt} {t' : E} {a' : S} {p : Pos} (ht : PT X t (TT' X T C W t')) (ha : PSs X a (TS' X T C W a')) : PS X (.While t a [] p) (TS' X T C W (.whl t' a')) := by
  refine PS.imp (ps_while g.pas ht ha) fun D σ H q => ?_
  obtain ⟨ρ, σD, st, r, s, q⟩ := q
  unfold wS at q
  obtain ⟨Wv, ⟨m0, w0⟩, turn⟩ := q
  refine ⟨fun m σ' H' => ∃ ρ' σD' st', Ext ρ ρ' H H' ∧ RelS X.prog X.w X.K T.toNames ρ' st' H' ∧ Sl X.K ρ' H' σD' σ' ∧ Wv m σD' st', ⟨m0, ρ, σD, st, .refl, r, s, w0⟩, ?_⟩
  rintro m σ1 H1 ⟨ρ1, σD1, st1, e1, r1, s1, w1⟩
  refine stepT g.toGd r1 s1 .refl (g.mE t' _ _ _ _ _ _ (fun d s h => h) (fun x s2 h => xcE (D := D) s1 ((endOf.ext e1 D).xc x _ s2 h)) (turn m σD1 st1 w1)) fun ρ2 H2 st2 k e2 r2 s2 q2 => ?_
  cases k with
  | false =>
    rw [if_neg Bool.false_ne_true] at q2 ⊢
    exact q2 ρ2 H2 σ1 (e1.trans e2) r2 s2
  | true =>
    rw [if_pos rfl] at q2 ⊢
    refine ⟨fun σ' H' => ∃ m', m' < m ∧ ∃ ρ' σD' st', Ext ρ ρ' H H' ∧ RelS X.prog X.w X.K T.toNames ρ' st' H' ∧ Sl X.K ρ' H' σD' σ' ∧ Wv m' σD' st', fun σ' H' h => h, ρ2, σD1, st2, r2, s2, g.mS a' ?_ q2⟩
    have e12 := e1.trans e2
    have back : ∀ σ' st', (∃ m', m' < m ∧ Wv m' σ' st') → ∀ ρ' H' σv, Ext ρ2 ρ' H2 H' → RelS X.prog X.w X.K T.toNames ρ' st' H' → Sl X.K ρ' H' σ' σv → ∃ m', m' < m ∧ ∃ ρ' σD' st', Ext ρ ρ' H H' ∧ RelS X.prog X.w X.K T.toNames ρ' st' H' ∧ Sl X.K ρ' H' σD' σv ∧ Wv m' σD' st' :=
      fun σ' st' ⟨m', hm, hw⟩ ρ' H' σv e r' s' => ⟨m', hm, ρ', σ', st', e12.trans e, r', s', hw⟩
    exact ⟨back, (endOf.ext (W := W) e12 D).rt, (endOf.ext (W := W) e12 D).nx, back, (endOf.ext (W := W) e12 D).xc⟩
theorem q_for (g : GdS X T C N sc W lev) {tg it : Expr} {a : List Stmt} {tg' : Tg} {it' : Z.It} {a' : S} {p : Pos} (ht : cTg N sc (fun _ => true) tg = some tg') (hi : PI X tg it (TI' X T C W it')) (hs : ∀ x, foldedSetIterable it X.env x = pure x) (ha : PSs X a (TS' X T C W a')) :
    PS X (.For tg it a [] p) (TS' X T C W (.fore tg' it' a')) := by
  refine PS.imp (ps_for g.pas g.calm hi (q_tg g.toGd (fun x _ => g.fn x) tg tg' ht) ha hs) fun D σ H q => ?_
  obtain ⟨ρ, σD, st, r, s, q⟩ := q
  unfold wS at q
  refine ⟨ρ, σD, st, r, s, Z.mI g.pr.mon it' _ _ _ _ _ _ (fun ds G st1 z => ?_) (fun x s1 h => xcE s h) q⟩
  intro ρ1 H1 J e1 r1 hG sm
  generalize hff : (fun (d : Z.D) (σ : Z.Loc) (st : Sto) (D'' : EndS) => match wTg tg' d σ with
    | some σ' => wS T C a' σ' st D''
    | none => False) = ff at z
  refine ⟨fun i m σ' H' => m = ds.length - i ∧ i ≤ ds.length ∧ ∃ ρ' σD' st', Ext ρ1 ρ' H1 H' ∧ RelS X.prog X.w X.K T.toNames ρ' st' H' ∧ Sl X.K ρ' H' σD' σ' ∧ G st' ∧ forL ff G (endOf X.prog X.w X.K T.toNames W ρ H D) (ds.drop i) σD' st', ⟨ds.length, by simp, Nat.zero_le _, ρ1, σD, st1, .refl, r1, s.ext e1, hG, by rw [List.drop_zero]; exact z⟩, ?_⟩
  rintro i m σ2 H2 ⟨rfl, hle, ρ2, σD2, st2, e2, r2, s2, g2, q2⟩
  by_cases hlt : i < ds.length
  · rw [List.drop_eq_getElem_cons hlt] at q2
    unfold forL at q2
    obtain ⟨hgo, hy⟩ := sm.go i ds[i] st2 ρ2 H2 r2 e2 g2 (List.getElem?_eq_getElem hlt)
    refine .inr ⟨hgo, fun σ' H' => ∃ ρ' σD' st', Ext ρ1 ρ' H1 H' ∧ RelS X.prog X.w X.K T.toNames ρ' st' H' ∧ Sl X.K ρ' H' σD' σ' ∧ G st' ∧ forL ff G (endOf X.prog X.w X.K T.toNames W ρ H D) (ds.drop (i + 1)) σD' st',
      fun σ' H' ⟨ρ', σD', st', e', r', s', g', q'⟩ => ⟨ds.length - (i + 1), by omega, rfl, hlt, ρ', σD', st', e', r', s', g', q'⟩, fun x H' hx => ?_⟩
    obtain ⟨e3, r3, rd3⟩ := hy x H' hx
    rw [← hff] at q2
    split at q2
    · rename_i σ3 hw
      refine ⟨ρ2, σD2, st2, _, σ3, r3, s2.ext e3, rd3, hw, fun σ' s' o => ⟨ρ2, σ3, st2, r3, s', g.mS a' ?_ q2⟩⟩
      have eA := (e1.trans e2).trans e3
      have back : ∀ σ4 st4, (G st4 ∧ forL ff G (endOf X.prog X.w X.K T.toNames W ρ H D) (ds.drop (i + 1)) σ4 st4) → ∀ ρ' H4 σv, Ext ρ2 ρ' H' H4 → RelS X.prog X.w X.K T.toNames ρ' st4 H4 → Sl X.K ρ' H4 σ4 σv →
          ∃ ρ' σD' st', Ext ρ1 ρ' H1 H4 ∧ RelS X.prog X.w X.K T.toNames ρ' st' H4 ∧ Sl X.K ρ' H4 σD' σv ∧ G st' ∧ forL ff G (endOf X.prog X.w X.K T.toNames W ρ H D) (ds.drop (i + 1)) σD' st' :=
        fun σ4 st4 h ρ' H4 σv e r' s' => ⟨ρ', σ4, st4, (e2.trans e3).trans e, r', s', h.1, h.2⟩
      exact ⟨fun σ s h => back σ s (by rw [hff] at h; exact h), (endOf.ext (W := W) eA D).rt, (endOf.ext (W := W) eA D).nx, fun σ s h => back σ s (by rw [hff] at h; exact h), (endOf.ext (W := W) eA D).xc⟩
    · exact q2.elim
  · have hi2 : i = ds.length := by omega
    subst hi2
    rw [List.drop_length] at q2
    unfold forL at q2
    exact .inl ⟨sm.stop _ st2 ρ2 H2 r2 e2 g2 (Nat.le_refl _), q2 ρ2 H2 σ2 (e1.trans e2) r2 s2⟩
theorem q_raise (g : Gd X T C N sc W lev) {x m : Str} {i j} {p p1 p2 p3 : Pos} (hg : isGl sc x = true) (hi : T.excs[i]? = some (x, none)) : PS X (.Raise (some (.Call (.Name x p1) [.Constant (.str m) j p2] [] p3)) none p) (TS' X T C W (.raise i none)) := by
  obtain ⟨h1, h2, h3⟩ := gl_ok g hg
  have k := g.pr.exc i x hi
  refine PS.imp (ps_raise g.calm g.tk (pmk_own PySem.F.excBase_ValueError k.exc k.glo k.keep (raises_own k.sub k.ty) h1 h2)) fun D σ H q => ?_
  obtain ⟨ρ, σD, st, r, s, q⟩ := q
  unfold wS at q
  exact q ρ H σ _ _ .refl r s ⟨x, none, hi, rfl, rfl, rfl⟩
end
end Z
end
section
set_option linter.all false
set_option maxRecDepth 100000
set_option maxHeartbeats 4000000
namespace Z
open PySem PySem.Spec PyProof.Rows L2
theorem bk_fn {env : Env} (hk : env.scope.kind = .function) : env.blockKind = .function := by unfold Env.blockKind; rw [hk]; rfl
theorem sw_eq {env : Env} (hk : env.scope.kind = .function) {ts vs : List Expr} {k k2 : Nat} {p p2 : Pos} {n : Nat} (h : swOf env.scope ts vs = some n) :
    swappedStores [.Tuple ts k p] (.Tuple vs k2 p2) env = pure (if n = 1 then none else some (swNames env.scope ts)) := by
  have hb := bk_fn hk
  unfold swOf at h
  unfold swappedStores
  dsimp only
  rw [hb]
  rw [show (!(ts.length == 2 || ts.length == 3) || vs.length != ts.length || ScopeKind.function != ScopeKind.function) = (!(ts.length == 2 || ts.length == 3) || vs.length != ts.length) from by simp]
  by_cases c1 : (!(ts.length == 2 || ts.length == 3) || vs.length != ts.length) = true
  · rw [if_pos c1] at h
    cases h
    rw [if_pos c1]
    rfl
  · rw [if_neg c1] at h
    rw [if_neg c1]
    show (if (vs.any isStarE) = true then _ else _) = _
    by_cases c2 : (vs.any isStarE) = true
    · rw [if_pos c2] at h; cases h
    · rw [if_neg c2] at h
      rw [if_neg c2]
      show (if ((swNames env.scope ts).length != ts.length || (swNames env.scope ts).eraseDups.length != (swNames env.scope ts).length) = true then _ else _) = _
      by_cases c3 : ((swNames env.scope ts).length != ts.length || (swNames env.scope ts).eraseDups.length != (swNames env.scope ts).length) = true
      · rw [if_pos c3] at h
        cases h
        rw [if_pos c3]
        rfl
      · rw [if_neg c3] at h
        rw [if_neg c3]
        by_cases c4 : (vs.all (foldedForSure 8)) = true
        · rw [if_pos c4] at h
          cases h
          rw [if_pos c4]
          rfl
        · rw [if_neg c4] at h
          rw [if_neg c4]
          by_cases c5 : (vs.all (constantsAlone 8)) = true
          · rw [if_pos c5] at h; cases h
          · rw [if_neg c5] at h
            rw [if_neg c5]
            cases h
            have h1 : ts.length ≠ 1 := fun e => c1 (by rw [e]; rfl)
            rw [if_neg h1]
            rfl
section
variable {X : Cx} {T : Tab} {C : CallS} {N : List Str} {sc : Scope} {W : WX} {lev : Nat}
theorem loc_ok {x : Str} {p : Pos} {l : Nat} {r : Str × Nat} (h : locN N sc l (.Name x p) = some r) : r.1 = x ∧ N[r.2]? = some x ∧ sc.names.lookup x = some .local ∧ p.line = l := by
  unfold locN at h
  dsimp only at h
  split at h
  · rename_i hc
    cases hi : N.idxOf? x with
    | none => rw [hi] at h; cases h
    | some i => rw [hi] at h; cases h; exact ⟨rfl, idx_ok hi, hc.1, hc.2⟩
  · cases h
theorem tup_args {es : List E} {σ : Z.Loc} {st : Sto} {Q : QE} {Xp : XP} (hC : MonC C) (q : wE T C (.op .tup es) σ st Q Xp) : wEs T C es σ st (fun ds st' => Q (.tup ds) st') Xp := by
  unfold wE at q
  refine Z.mEs hC es _ _ _ _ _ _ (fun ds s z => ?_) (fun _ _ z => z) q
  unfold prim primF pTup tupD at z
  dsimp only at z
  split at z
  · rename_i h
    split at h
    · cases h; exact z
    · cases h
  · exact z.elim
theorem q_par2 (g : GdS X T C N sc W lev) {x y : Str} {a b : Expr} {es : List E} {i j : Nat} {px py pt p p2 : Pos} {kt k2} (hi : N[i]? = some x) (hj : N[j]? = some y) (hij : i ≠ j) (hx : sc.names.lookup x = some .local) (hy : sc.names.lookup y = some .local) (hl : py.line = px.line)
    (ha : PA X [a, b] (TA' X T C W es)) (hsw : swOf sc [.Name x px, .Name y py] [a, b] = some 2) : PS X (.Assign [.Tuple [.Name x px, .Name y py] kt pt] (.Tuple [a, b] k2 p2) p) (TS' X T C W (.asg (.tup [.name i, .name j]) (.op .tup es))) := by
  have hn : swNames X.env.scope [.Name x px, .Name y py] = [x, y] := by
    unfold swNames
    rw [g.sc]
    simp [hx, hy, hl, Expr.pos]
  have hsw' := sw_eq (k := kt) (k2 := k2) (p := pt) (p2 := p2) g.kind (by rw [g.sc]; exact hsw)
  rw [hn, if_neg (by decide)] at hsw'
  refine PS.imp (ps_par (i := i) (j := j) g.calm g.nd (by rw [g.nm]; exact hi) (by rw [g.nm]; exact hj) hij (by rw [g.sc]; exact hx) (by rw [g.sc]; exact hy) ha hsw') fun D σ H q => ?_
  obtain ⟨ρ, σD, st, r, s, q⟩ := q
  unfold wS at q
  refine stepA g.toGd r s .refl (g.mEs es _ _ _ _ _ _ (fun d s h => h) (fun x s1 h => xcE s h) (tup_args g.pr.mon q)) fun ρ1 H1 ds st1 vs e1 r1 s1 rd q1 => ?_
  match ds, q1, rd with
  | [d1, d2], q1, rd =>
    obtain ⟨u, v, rfl, h1, h2⟩ := rd.two
    simp only [wTg, wTgs] at q1
    exact ⟨u, v, rfl, q1 ρ1 H1 _ e1 r1 ((s1.set h1 i).set h2 j)⟩
  | [], q1, rd => simp [wTg, wTgs] at q1
  | [d1], q1, rd => simp [wTg, wTgs] at q1
  | d1 :: d2 :: d3 :: r, q1, rd => simp [wTg, wTgs] at q1
theorem q_par3 (g : GdS X T C N sc W lev) {x y z : Str} {a b c : Expr} {es : List E} {i j l : Nat} {px py pz pt p p2 : Pos} {kt k2} (hi : N[i]? = some x) (hj : N[j]? = some y) (hk : N[l]? = some z) (hij : i ≠ j) (hil : i ≠ l) (hjl : j ≠ l) (hx : sc.names.lookup x = some .local) (hy : sc.names.lookup y = some .local) (hz : sc.names.lookup z = some .local) (hl : py.line = px.line) (hl2 : pz.line = px.line)
    (ha : PA X [a, b, c] (TA' X T C W es)) (hsw : swOf sc [.Name x px, .Name y py, .Name z pz] [a, b, c] = some 3) : PS X (.Assign [.Tuple [.Name x px, .Name y py, .Name z pz] kt pt] (.Tuple [a, b, c] k2 p2) p) (TS' X T C W (.asg (.tup [.name i, .name j, .name l]) (.op .tup es))) := by
  have hn : swNames X.env.scope [.Name x px, .Name y py, .Name z pz] = [x, y, z] := by
    unfold swNames
    rw [g.sc]
    simp [hx, hy, hz, hl, hl2, Expr.pos]
  have hsw' := sw_eq (k := kt) (k2 := k2) (p := pt) (p2 := p2) g.kind (by rw [g.sc]; exact hsw)
  rw [hn, if_neg (by decide)] at hsw'
  refine PS.imp (ps_par3 (i := i) (j := j) (l := l) g.calm g.nd (by rw [g.nm]; exact hi) (by rw [g.nm]; exact hj) (by rw [g.nm]; exact hk) hij hil hjl (by rw [g.sc]; exact hx) (by rw [g.sc]; exact hy) (by rw [g.sc]; exact hz) ha hsw') fun D σ H q => ?_
  obtain ⟨ρ, σD, st, r, s, q⟩ := q
  unfold wS at q
  refine stepA g.toGd r s .refl (g.mEs es _ _ _ _ _ _ (fun d s h => h) (fun x s1 h => xcE s h) (tup_args g.pr.mon q)) fun ρ1 H1 ds st1 vs e1 r1 s1 rd q1 => ?_
  match ds, q1, rd with
  | [d1, d2, d3], q1, rd =>
    unfold RelDs at rd
    obtain ⟨u, vs', rfl, h1, rd⟩ := rd
    obtain ⟨v, w, rfl, h2, h3⟩ := rd.two
    simp only [wTg, wTgs] at q1
    exact ⟨u, v, w, rfl, q1 ρ1 H1 _ e1 r1 (((s1.set h1 i).set h2 j).set h3 l)⟩
  | [], q1, rd => simp [wTg, wTgs] at q1
  | [d1], q1, rd => simp [wTg, wTgs] at q1
  | [d1, d2], q1, rd => simp [wTg, wTgs] at q1
  | d1 :: d2 :: d3 :: d4 :: r, q1, rd => simp [wTg, wTgs] at q1

theorem swLc_ok {x : Str} {p : Pos} {elt : Expr} {gs : List Comprehension} {scope : Scope} {pos : Pos} {l : Nat} {env : Env} (hk : env.scope.kind = .function) :
    swapsWith (.ListComp elt gs scope pos) (some (.Name x p)) l env = pure (swLc env.scope x p (.ListComp elt gs scope pos)) := by
  have hb := bk_fn hk
  unfold swapsWith swLc
  simp only [hb]
  rfl
theorem q_nameLc (g : GdS X T C N sc W lev) {x : Str} {p p2 pos : Pos} {elt : Expr} {gs : List Comprehension} {scope : Scope} {t : Tg} {e' : E} (ht : cTg N sc (fun _ => true) (.Name x p) = some t) (h : LcOk X elt gs scope (TE' X T C W e')) :
    PS X (.Assign [.Name x p] (.ListComp elt gs scope pos) p2) (TS' X T C W (.asg t e')) := by
  cases hs : swLc X.env.scope x p (.ListComp elt gs scope pos) with
  | false => exact q_asg g ht (h.pe g.calm g.nd) (show swapsWith (.ListComp elt gs scope pos) (some (.Name x p)) p2.line X.env = pure false from (swLc_ok g.kind).trans (by rw [hs])) rfl
  | true =>
    have hx : X.env.scope.names.lookup x = some .local := by
      unfold swLc at hs
      simp only [Bool.and_eq_true] at hs
      exact eq_of_beq hs.1.1
    rw [g.sc] at hx
    unfold cTg at ht
    rw [hx] at ht
    dsimp only at ht
    cases hi : N.idxOf? x with
    | none => rw [hi] at ht; cases ht
    | some i =>
      rw [hi] at ht
      cases ht
      refine PS.imp (h.ps (i := i) g.calm g.nd (by rw [g.nm]; exact idx_ok hi) (by rw [g.sc]; exact hx) ((swLc_ok g.kind).trans (by rw [hs]))) fun D σ H q => ?_
      obtain ⟨ρ, σD, st, r, s, q⟩ := q
      unfold wS at q
      refine step1 g.toGd r s .refl (g.mE e' _ _ _ _ _ _ (fun d s h => h) (fun x s1 h => xcE s h) q) fun ρ1 H1 d st1 v e1 r1 s1 rd q1 => ?_
      simp only [wTg] at q1
      exact q1 ρ1 H1 _ e1 r1 (s1.set rd i)
end
end Z
end
section
set_option linter.all false
set_option maxRecDepth 100000
set_option maxHeartbeats 4000000
namespace Z
open PySem PySem.Spec PyProof.Rows L2
section
variable {X : Cx} {T : Tab} {C : CallS} {N : List Str} {sc : Scope} {W : WX} {lev : Nat}
section
variable {f : Expr → Option E}
/-- what is proved of the translation of expressions, with the list comprehensions by themselves -/
structure FOk (X : Cx) (T : Tab) (C : CallS) (W : WX) (f : Expr → Option E) : Prop where
  se : ∀ e e', f e = some e' → SE X T C W e e'
  lc : ∀ elt gs scope pos e', f (.ListComp elt gs scope pos) = some e' → LcOk X elt gs scope (TE' X T C W e')
  tup : ∀ es k p e', f (.Tuple es k p) = some e' → True
theorem s_sss (g : Gd X T C N sc W lev) {h : Stmt → Option S} (ih : ∀ s s', h s = some s' → PS X s (TS' X T C W s')) : ∀ (ss : List Stmt) (s' : S), cSs h ss = some s' → PSs X ss (TS' X T C W s')
  | [], s', e => by unfold cSs at e; cases e; exact q_snil
  | a :: r, s', e => by
    unfold cSs at e
    split at e
    · rename_i a' r' h1 h2
      cases e
      exact q_scons g (ih a a' h1) (s_sss g ih r r' h2)
    · cases e
theorem s_expr (g : GdS X T C N sc W lev) (F : FOk X T C W f) {e : Expr} {s' : S} {p : Pos} (h : cExpr f e = some s') : PS X (.Expr e p) (TS' X T C W s') := by
  unfold cExpr at h
  split at h
  · cases h; exact q_skip ps_doc
  · split at h
    · cases h
    · rename_i hc
      cases he : f e with
      | none => rw [he] at h; cases h
      | some e' =>
        rw [he] at h
        cases h
        exact q_expr g.toGd (by simpa using hc) (F.se _ _ he).pe
theorem notTup_sw {tg e : Expr} {t : Tg} {fl : Str → Bool} (ht : cTg N sc fl tg = some t) (he : ∀ vs k p, e ≠ .Tuple vs k p) (env : Env) : swappedStores [tg] e env = pure none := by
  cases tg with
  | Name x p => rfl
  | Tuple ts k p => cases e <;> first | rfl | exact (he _ _ _ rfl).elim
  | _ => unfold cTg at ht; cases ht
theorem s_asgT (g : GdS X T C N sc W lev) (F : FOk X T C W f) {ts : List Expr} {k : Nat} {p p2 : Pos} {e : Expr} {s' : S} (h : cAsgT T N sc f ts k p e = some s') : PS X (.Assign [.Tuple ts k p] e p2) (TS' X T C W s') := by
  unfold cAsgT at h
  split at h
  · rename_i vs k2 p3
    split at h
    · rename_i hsw
      split at h
      · rename_i t e' h1 h2
        cases h
        refine q_asg g h1 (F.se _ _ h2).pe rfl ?_
        rw [sw_eq g.kind (by rw [g.sc]; exact hsw)]
        rfl
      · cases h
    · rename_i hsw
      split at h
      · rename_i x px y py a b
        split at h
        · rename_i i j es h1 h2 h3
          split at h
          · rename_i hij
            cases h
            obtain ⟨_, a2, a3, a4⟩ := loc_ok h1
            obtain ⟨_, b2, b3, b4⟩ := loc_ok h2
            exact q_par2 g a2 b2 hij a3 b3 b4 (s_es g.toGd F.se _ _ h3).1 hsw
          · cases h
        · cases h
      · cases h
    · rename_i hsw
      split at h
      · rename_i x px y py z pz a b c
        split at h
        · rename_i i j l es h1 h2 h3 h4
          split at h
          · rename_i hij
            cases h
            obtain ⟨_, a2, a3, a4⟩ := loc_ok h1
            obtain ⟨_, b2, b3, b4⟩ := loc_ok h2
            obtain ⟨_, c2, c3, c4⟩ := loc_ok h3
            exact q_par3 g a2 b2 c2 hij.1 hij.2.1 hij.2.2 a3 b3 c3 b4 c4 (s_es g.toGd F.se _ _ h4).1 hsw
          · cases h
        · cases h
      · cases h
    · cases h
  · rename_i hne
    split at h
    · cases h
    · rename_i hc
      split at h
      · rename_i t e' h1 h2
        cases h
        exact q_asg g h1 (F.se _ _ h2).pe (show swapsWith e (some (.Tuple ts k p)) p2.line X.env = pure false from swN (by simpa using hc) _ _ _) (notTup_sw h1 (fun vs k p => hne vs k p) _)
      · cases h
theorem s_asg (g : GdS X T C N sc W lev) (F : FOk X T C W f) {tg e : Expr} {p : Pos} {s' : S} (h : cAsg T N sc f e tg = some s') : PS X (.Assign [tg] e p) (TS' X T C W s') := by
  unfold cAsg at h
  split at h
  · rename_i x px
    split at h
    · cases h
    · rename_i hc
      split at h
      · rename_i t e' h1 h2
        cases h
        cases hcomp : isComp e with
        | false => exact q_asg g h1 (F.se _ _ h2).pe (show swapsWith e (some (.Name x px)) p.line X.env = pure false from swN hcomp _ _ _) rfl
        | true =>
          have hl : isLcE e = true := by
            cases hl : isLcE e with
            | true => rfl
            | false => exact (hc ⟨hcomp, hl⟩).elim
          cases e <;> first | cases hl | skip
          exact q_nameLc g h1 (F.lc _ _ _ _ _ h2)
      · cases h
  · exact s_asgT g F h
  · rename_i o i p2
    split at h
    · cases h
    · rename_i hc
      rw [not_or] at hc
      split at h
      · rename_i e' o' i' h1 h2 h3
        cases h
        exact q_asgS g.toGd (by simpa using hc.1) (by simpa using hc.2) (F.se _ _ h1).pe (F.se _ _ h2).pe (F.se _ _ h3).pe
      · cases h
  · rename_i o x p2
    split at h
    · cases h
    · rename_i hc
      rw [not_or] at hc
      split at h
      · rename_i e' o' m h1 h2 h3
        cases h
        exact q_asgF g.toGd (idx_ok h3) (by simpa using hc.1) (F.se _ _ h1).pe (F.se _ _ h2).pe
      · cases h
  · cases h
theorem s_raise (g : GdS X T C N sc W lev) {e : Expr} {p : Pos} {s' : S} (h : cRaise T sc f e = some s') : PS X (.Raise (some e) none p) (TS' X T C W s') := by
  unfold cRaise at h
  split at h
  · split at h
    · cases h
    · rename_i hg
      rw [Bool.not_eq_false] at hg
      split at h
      · rename_i i hi
        split at h
        · rename_i nm hx
          cases h
          exact q_raise g.toGd hg (by rw [hx, exc_nm hi hx])
        · cases h
      · cases h
  · cases h
theorem s_aug (g : GdS X T C N sc W lev) (F : FOk X T C W f) {tg e : Expr} {o : Operator} {p : Pos} {s' : S} (h : cAug N sc f o e tg = some s') : PS X (.AugAssign tg o e p) (TS' X T C W s') := by
  unfold cAug at h
  split at h
  · split at h
    · rename_i hx
      split at h
      · rename_i i e' h1 h2
        cases h
        exact q_aug g hx h1 ip_add (fun a b st => rfl) (F.se _ _ h2).pe
      · rename_i i e' h1 h2
        cases h
        exact q_aug g hx h1 ip_sub (fun a b st => rfl) (F.se _ _ h2).pe
      · cases h
    · cases h
  · cases h
theorem noElse_ok {b : List Stmt} (h : ¬ noElse b = false) : b = [] := by cases b <;> first | rfl | exact (h rfl).elim
theorem sS (g : GdS X T C N sc W lev) (F : FOk X T C W f) : ∀ (n : Nat) (st : Stmt) (s' : S), cS T N sc f n st = some s' → PS X st (TS' X T C W s')
  | 0, st, s', h => by unfold cS at h; cases h
  | n + 1, st, s', h => by
    have ih : ∀ st s', cS T N sc f n st = some s' → PS X st (TS' X T C W s') := fun st s' h => sS g F n st s' h
    unfold cS at h
    split at h
    · exact s_expr g F h
    · rename_i e p
      cases he : f e with
      | none => rw [he] at h; cases h
      | some e' => rw [he] at h; cases h; exact q_ret g.toGd (F.se _ _ he).pe
    · cases h; exact q_retN
    · cases h; exact q_skip ps_pass
    · cases h; exact q_brk
    · cases h; exact q_cont
    · split at h
      · exact s_asg g F h
      · cases h
    · exact s_aug g F h
    · split at h
      · rename_i t' a' b' h1 h2 h3
        cases h
        exact q_if g.toGd (F.se _ _ h1).pt (s_sss g.toGd ih _ _ h2) (s_sss g.toGd ih _ _ h3)
      · cases h
    · split at h
      · cases h
      · rename_i hb
        rw [noElse_ok hb]
        split at h
        · rename_i t' a' h1 h2
          cases h
          exact q_while g (F.se _ _ h1).pt (s_sss g.toGd ih _ _ h2)
        · cases h
    · split at h
      · cases h
      · rename_i hb
        rw [noElse_ok hb]
        split at h
        · rename_i tg' it' a' h1 h2 h3
          cases h
          obtain ⟨i1, i2⟩ := s_it g.toGd F.se h2
          exact q_for g h1 i1 i2 (s_sss g.toGd ih _ _ h3)
        · cases h
    · split at h
      · exact s_raise g h
      · cases h
    · cases h
end
/-- the translation of expressions is what the statements ask for -/
theorem f_ok (g : Gd X T C N sc W lev) (n : Nat) : FOk X T C W (cE T N n sc) where
  se := fun e e' h => sE n g e e' h
  lc := fun elt gs scope pos e' h => by
    cases n with
    | zero => unfold cE at h; cases h
    | succ n =>
      unfold cE at h
      exact s_lc g (fun e e' h => sE n g e e' h) (fun s H C' cl fp e e' h => sE n (g.blk s H scope C' cl fp) e e' h) h
  tup := fun _ _ _ _ _ => trivial
end
end Z
end
section
set_option linter.all false
set_option maxRecDepth 100000
set_option maxHeartbeats 4000000
namespace Z
open PySem PySem.Spec PyProof.Rows L2

/-! ## the whole program -/
/-- one def, as its text has it -/
structure Src where
  name : Str
  qual : Str
  params : Arguments
  body : List Stmt
  scope : Scope
/-- what stays the same at every depth -/
structure ProgS (P : Program) (w : World) (K : PySem.W.Frag) (mg : Str → Option Value) (T : Tab) (fuel : Nat) : Prop where
  nd : T.names.Nodup
  fn : ∀ (f : Nat) (fi : FunInfo), T.funs[f]? = some fi → ∃ (d : Src) (dvs : List V) (fd : FuncData), FunD K d.name d.qual d.params d.body d.scope dvs [] (zAd K fi.place) fd ∧ FnScope fi.N fi.ps d.scope ∧ d.scope.kind = .function ∧
    cSs (cS T fi.N d.scope (cE T fi.N fuel d.scope) fuel) d.body = some fi.body ∧
    (∀ n, n ≤ fi.np → fi.np - n ≤ fi.dfl.length → ∃ dvs ds, (∀ ρ H, RelDs K ρ H (fi.dfl.drop (fi.dfl.length - (fi.np - n))) dvs) ∧ Vals dvs ds ∧ Binds K fd fi.ps ds) ∧
    (fi.np = 2 → fi.dfl = [] → KBn K fd fi.ps 1 (fi.ps.drop 1) (fun us ws => us ++ ws) (fun vs zs => vs ++ zs))
  kp : ∀ (f : Nat) (fi : FunInfo), T.funs[f]? = some fi → PySem.W.keepIn K (.ref (zAd K fi.place)) = true
  len : ∀ (f : Nat) (fi : FunInfo), T.funs[f]? = some fi → fi.ps.length = fi.np
  fnG : ∀ (f : Nat) (fi : FunInfo) (x : Str), T.funs[f]? = some fi → fi.place = (x, none) → mg x = some (.ref (zAd K fi.place))
  meth : ∀ (c m f : Nat) (fi : FunInfo) (x nm : Str), T.meths.lookup (c, m) = some f → T.funs[f]? = some fi → T.classes[c]? = some x → T.names[m]? = some nm → Meth K (He.ga K x) nm (zAd K fi.place)
  prop : ∀ (c m f : Nat) (fi : FunInfo) (x nm : Str), T.props.lookup (c, m) = some f → T.funs[f]? = some fi → T.classes[c]? = some x → T.names[m]? = some nm → ∃ p, PropOf K (He.ga K x) nm p (zAd K fi.place)
  init : ∀ (c f : Nat) (fi : FunInfo) (x : Str), T.inits.lookup c = some f → T.funs[f]? = some fi → T.classes[c]? = some x → Mk K (He.ga K x) (zAd K fi.place)
  clsG : ∀ (c : Nat) (x : Str), T.classes[c]? = some x → mg x = some (.ref (He.ga K x)) ∧ Cls K (He.ga K x)
  noat : ∀ (c m : Nat) (x nm : Str), T.classes[c]? = some x → T.names[m]? = some nm → T.props.lookup (c, m) = none → T.meths.lookup (c, m) = none → NoAttr K (He.ga K x) nm
  blt : ∀ x ∈ bltNames, mg x = none
  isi : IsiF K T.toNames
  exc : ∀ (i : Nat) (nm : Str), T.excs[i]? = some (nm, none) → ExcP K mg nm
  exm : ∀ (i j : Nat) (x y : Str × Option Str), T.excs[i]? = some x → T.excs[j]? = some y → PySem.W.exmOne K (.ref (He.ga K x.1)) (.ref (He.ga K y.1)) = some (decide (i = j ∨ j = 0)) ∧ mg y.1 = some (.ref (He.ga K y.1))
  xcl : ∀ (i : Nat) (nm : Str) (fld : Option Str), T.excs[i]? = some (nm, fld) → XcP K mg nm
  xfd : ∀ (i : Nat) (nm f : Str), T.excs[i]? = some (nm, some f) → XfP K nm f
  xin : ∀ (c f : Nat) (fi : FunInfo), T.xinits.lookup c = some f → T.funs[f]? = some fi → ∃ nm fld, T.excs[c]? = some (nm, some fld) ∧ PySem.W.findIn K (.ref (He.ga K nm)) "__init__" = some (some (.ref (zAd K fi.place))) ∧ PySem.W.typeIn K (.ref (zAd K fi.place)) = some (.type "function")
  kox : ∀ (i j : Nat) (x y : Str × Option Str), T.excs[i]? = some x → T.excs[j]? = some y → PySem.W.kitOne K (.ref (He.ga K x.1)) (.ref (He.ga K y.1)) = some (decide (i = j ∨ j = 0))
  kov : ∀ (i : Nat) (x : Str × Option Str), T.excs[i]? = some x → PySem.W.kitOne K (.ref (He.ga K x.1)) (.type "ValueError") = some true
  cst : ∀ (x : Str) (d : D), T.consts.lookup x = some d → ∃ v u, mg x = some u ∧ RelV v u ∧ ∀ ρ H, RelD K ρ H d v
theorem sl_start {K : PySem.W.Frag} {ρ : List Addr} {H : Hp} {N : List Str} {ds : List D} {vs : List V} (h : RelDs K ρ H ds vs) : Sl K ρ H (ds.map some ++ List.replicate (N.length - ds.length) none) (L2.start N vs) := by
  unfold L2.start
  rw [← h.len]
  refine ⟨by simp [h.len], fun i d hi => ?_⟩
  by_cases hl : i < ds.length
  · rw [List.getElem?_append_left (by simpa using hl), List.getElem?_map] at hi
    have hd : ds[i]? = some d := by
      cases e : ds[i]? with
      | none => rw [e] at hi; cases hi
      | some x => rw [e] at hi; simp at hi; rw [hi]
    obtain ⟨v, h1, h2⟩ := h.get hd
    have hl2 : i < vs.length := by rw [← h.len]; exact hl
    exact ⟨v, by rw [List.getElem?_append_left (by simpa using hl2), List.getElem?_map, h1]; rfl, h2⟩
  · rw [List.getElem?_append_right (by simpa using Nat.le_of_not_lt hl)] at hi
    rw [List.getElem?_replicate] at hi
    split at hi <;> simp at hi
section
variable {P : Program} {w : World} {K : PySem.W.Frag} {mg : Str → Option Value} {base : Heap} {T : Tab} {fuel : Nat}
theorem prog_of (A : ProgS P w K mg T fuel) {C : CallS} {lev : Nat} (hC : MonC C) (hF : ∀ (f : Nat) (fi : FunInfo) (fd : FuncData) (d : Src) (dvs : List V), T.funs[f]? = some fi → FunD K d.name d.qual d.params d.body d.scope dvs [] (zAd K fi.place) fd → FnScope fi.N fi.ps d.scope → d.scope.kind = .function →
    cSs (cS T fi.N d.scope (cE T fi.N fuel d.scope) fuel) d.body = some fi.body → FnOk P w K mg base (L2.CX P w) lev (zAd K fi.place) fd fi.ps (spF P w K T.toNames C fi.np f)) : Prog P w K mg base T C lev where
  mon := hC
  nd := A.nd
  fn := fun f fi h => by
    obtain ⟨d, dvs, fd, h1, h2, h3, h4, h5⟩ := A.fn f fi h
    exact ⟨fd, hF f fi fd d dvs h h1 h2 h3 h4, h5⟩
  kp := A.kp
  len := A.len
  fnG := A.fnG
  meth := A.meth
  prop := A.prop
  init := A.init
  clsG := A.clsG
  noat := A.noat
  blt := A.blt
  isi := A.isi
  exc := A.exc
  exm := A.exm
  cst := A.cst
  xcl := A.xcl
  xfd := A.xfd
  xin := A.xin
  kox := A.kox
  kov := A.kov
theorem prog_ok (A : ProgS P w K mg T fuel) : ∀ k, Prog P w K mg base T (wCall T k) (2 * k)
  | 0 => prog_of A (monC 0) fun f fi fd d dvs h F S hk hc => by
    refine ⟨fun vs H Q E h' => ?_, fun A outer s H args us vs Q E hr he hb hv hs => ?_⟩
    · exact h'.1.trans (A.len f fi h).symm
    · obtain ⟨_, ρ, ds, st, _, _, z⟩ := hs
      exact z.elim
  | k + 1 => prog_of A (monC (k + 1)) fun f fi fd d dvs h F S hk hc => by
    have PR := prog_ok A k
    refine FunD.ok (k := 2 * k + 1) F S (fun vs H Q E h' => h'.1.trans (A.len f fi h).symm) fun cdv A' outer s H vs Q E hr hsp => ?_
    obtain ⟨hl, ρ, ds, st, r, rd, z⟩ := hsp
    unfold wCall at z
    rw [h] at z
    dsimp only at z
    have g : GdS (cxOf (L2.CX P w) P w K mg base fi.N d.qual d.scope (zAd K fi.place) cdv A' outer s H E) T (wCall T k) fi.N d.scope (fun cls dd _ H => E cls dd H) (2 * k) :=
      { nm := rfl, sc := rfl, nd := S.nd, calm := rfl, room := hr, tk := takes_of rfl rfl rfl rfl, pr := PR, pas := passes_of (K := fun e s'' => L2.CX P w outer H s E e s'') rfl, fn := fun _ => rfl, kind := hk }
    refine ⟨_, s_sss g.toGd (fun st s' h => sS g (f_ok g.toGd fuel) fuel st s' h) _ _ hc, ρ, _, st, r, sl_start rd, g.mS fi.body ?_ z.2⟩
    exact ⟨fun σ s h ρ' H' σv e r' s' => h ρ' H' .non e r' .non, fun dd s h => h, fun σ s h => h.elim, fun σ s h => h.elim, fun x σ s h ρ' H' σv c dd e r' s' rx => h ρ' H' c dd e r' rx⟩
end
end Z
end
section
set_option linter.all false
set_option maxRecDepth 100000
set_option maxHeartbeats 4000000
namespace Z
open PySem PySem.Spec PyProof.Rows L2 He
/-! ### a head's Hook with a test of one's own -/
abbrev AlZ : Type := Bool × List FnW
def fnZ (K : PySem.W.Frag) (p : Str × Option Str) : FnW := match K.lookup (zAd K p) with
  | some ⟨_, _, .func fd, _⟩ => some (fd.name, fd.qualname, fd.params, fd.body, fd.scope, fd.globals, fd.closure, fd.builtins)
  | _ => none
def dokZ (K : PySem.W.Frag) (d : DefD) : Bool := PySem.W.keepIn K (.ref (zAd K d.at_)) && (match K.lookup (zAd K d.at_) with
  | some ⟨_, _, .func fd, _⟩ => PySem.W.codeIn K fd.code d.qual && (dflB K fd.defaults (d.dvs K) && kwdB K fd.kwdefaults (d.kws K))
  | _ => false)
theorem funZ {K : PySem.W.Frag} {d : DefD} (e : fnZ K d.at_ = d.val) (c : dokZ K d = true) : ∃ fd, FunD K d.name d.qual d.params d.body d.scope (d.dvs K) (d.kws K) (zAd K d.at_) fd := by
  obtain ⟨kp, c2⟩ := ba c
  unfold fnZ at e
  cases q : K.lookup (zAd K d.at_) with
  | none =>
    rw [q] at c2
    cases c2
  | some o =>
    obtain ⟨oc, od, dt, osl⟩ := o
    rw [q] at c2 e
    cases dt with
    | func fd =>
      obtain ⟨n1, n2, n3, n4, n5, n6, n7, n8, n9, n10, n11, n12, n13, n14, n15⟩ := fd
      have e2 : (some (n1, n2, n3, n4, n5, n6, n7, n15) : FnW) = some (d.name, d.qual, d.params, .stmts d.body, d.scope, mainGlobals, [], builtinsNs) := e
      simp only [Option.some.injEq, Prod.mk.injEq] at e2
      obtain ⟨h1, h2, h3, h4, h5, h6, h7, h8⟩ := e2
      subst h1 h2 h3 h4 h5 h6 h7 h8
      have c3 : (PySem.W.codeIn K n13 d.qual && (dflB K n8 (d.dvs K) && kwdB K n9 (d.kws K))) = true := c2
      obtain ⟨k1, k2⟩ := ba c3
      obtain ⟨k3, k4⟩ := ba k2
      exact ⟨_, ⟨oc, od, n8, n9, n10, n11, n12, n13, n14, osl, rfl, q, k1, dflB_ok k3, kwdB_ok k4⟩, kp⟩
    | _ => cases c2
def obsZ (fn : List DefD) (fz : PySem.W.Frag → Bool) (K : PySem.W.Frag) : AlZ := (fz K && fn.all fun d => dokZ K d, fn.map fun d => fnZ K d.at_)
def valZ (fn : List DefD) : AlZ := (true, fn.map DefD.val)
def obsZG (n : Nat) (fn : List DefD) (fz : PySem.W.Frag → Bool) (g : Addr → Option Obj) : AlZ := obsZ fn fz (frG g (asD g n))
def SaysZ (fn : List DefD) (fz : PySem.W.Frag → Bool) (K : PySem.W.Frag) : Prop := obsZ fn fz K = valZ fn
def hookZ (n : Nat) (fn : List DefD) (fz : PySem.W.Frag → Bool) : PySem.W.Hook where
  α := AlZ
  obs := fun s => obsZG n fn fz s.heap.get?
  val := fun _ => valZ fn
  says := fun _ h => ∃ K : PySem.W.Frag, K.In h ∧ SaysZ fn fz K
  of := fun _ _ e => ⟨_, frG_in, e⟩
  keeps := fun _ _ _ ⟨K, hK, c⟩ k => ⟨K, PySem.W.Frag.In.keeps hK k, c⟩
theorem obsZG_eq {n : Nat} {fn : List DefD} {fz : PySem.W.Frag → Bool} {g : Addr → Option Obj} {s : Shared} (h : ∀ a, g a = s.heap.get? a) : obsZG n fn fz g = (hookZ n fn fz).obs s := by
  have e : g = s.heap.get? := funext h
  rw [e] <;> rfl
theorem SaysZ.z {fn : List DefD} {fz : PySem.W.Frag → Bool} {K : PySem.W.Frag} (c : SaysZ fn fz K) : fz K = true := (ba (show (fz K && fn.all fun d => dokZ K d) = true from congrArg (fun z : AlZ => z.1) c)).1
theorem SaysZ.def_ {fn : List DefD} {fz : PySem.W.Frag → Bool} {K : PySem.W.Frag} (c : SaysZ fn fz K) (i : Nat) {d : DefD} (h : fn[i]? = some d) : ∃ fd, FunD K d.name d.qual d.params d.body d.scope (d.dvs K) (d.kws K) (zAd K d.at_) fd := by
  have c2 := (ba (show (fz K && fn.all fun d => dokZ K d) = true from congrArg (fun z : AlZ => z.1) c)).2
  have e : fn.map (fun d => fnZ K d.at_) = fn.map DefD.val := congrArg (fun z : AlZ => z.2) c
  have e2 : (fn.map fun d => fnZ K d.at_)[i]? = (fn.map DefD.val)[i]? := by rw [e]
  rw [List.getElem?_map, List.getElem?_map, h] at e2
  exact funZ (Option.some.inj e2) (List.all_eq_true.mp c2 d (List.mem_of_getElem? h))
/-! ### tests of a class of exceptions -/
def xcB (K : PySem.W.Frag) (D : Addr) : Bool := decide (PySem.W.findIn K (.ref D) "__getattribute__" = some (some (.builtin "BaseException.__getattribute__"))) && (decide (PySem.W.findIn K (.ref D) "__getattr__" = some none) && (decide (PySem.W.subIn K (.ref D) (.type "BaseException") = some true) &&
  (PySem.W.hasDictIn K D && (decide (PySem.W.findIn K (.ref D) "__class__" = some (some (.builtin "object.__class__"))) && (decide (PySem.W.specialIn K (.builtin "object.__class__") "__get__" = some (some (.builtin "getset_descriptor.__get__"))) &&
  (decide (PySem.W.takesIn K (.builtin "object.__class__") = some true) && decide (PySem.W.mroIn K D (.type "object") = some true)))))))
theorem xcB_ok {K : PySem.W.Frag} {D : Addr} (h : xcB K D = true) : ExcC K D ∧ XfC K D := by
  unfold xcB at h
  simp only [Bool.and_eq_true, decide_eq_true_eq] at h
  obtain ⟨h1, h2, h3, h4, h5, h6, h7, h8⟩ := h
  exact ⟨⟨h1, h2, h3, h4, h5, h6, h7, h8⟩, ⟨h1, h2, h3, h4⟩⟩
def oexB (K : PySem.W.Frag) (C : Addr) : Bool := (match K.lookup C with
  | some ⟨.type "type", _, .cls cd, sl⟩ => (match cd.mro, sl.toList with
    | .ref C' :: bm, [_, _, _, _, some (.builtin n), _] => C' == C && (n == "ValueError.__new__" && (!cd.hasDel && (cd.hasDict && PySem.HandSPX.refsVE bm)))
    | _, _ => false)
  | _ => false) && (decide (PySem.W.findIn K (.ref C) "__setattr__" = some (some (.builtin "object.__setattr__"))) && (decide (PySem.W.subIn K (.ref C) (.type "BaseException") = some true) && (decide (PySem.W.typeIn K (.ref C) = some (.type "type")) && PySem.W.keepIn K (.ref C))))
theorem oexB_ok {K : PySem.W.Frag} {C : Addr} (h : oexB K C = true) : OexC K C := by
  unfold oexB at h
  rw [Bool.and_eq_true] at h
  obtain ⟨q, h⟩ := h
  simp only [Bool.and_eq_true, decide_eq_true_eq] at h
  obtain ⟨h1, h2, h3, h4⟩ := h
  refine ⟨?_, h1, h2, h3, h4⟩
  split at q
  · rename_i dd cd sl ho
    split at q
    · rename_i C' bm k0 k1 k2 k3 n k5 hm hs
      simp only [Bool.and_eq_true, beq_iff_eq, Bool.not_eq_true'] at q
      obtain ⟨rfl, rfl, hdel, hdict, hr⟩ := q
      obtain ⟨nm, bs, mro, ns, qn, hd, sn, sb, ab, col, del⟩ := cd
      dsimp only at hm hdel hdict
      subst hm hdel hdict
      have hs2 : sl = #[k0, k1, k2, k3, some (.builtin "ValueError.__new__"), k5] := by rw [← hs]
      subst hs2
      exact ⟨nm, qn, ns, bs, bm, sn, sb, ab, col, dd, k0, k1, k2, k3, k5, ho, hr⟩
    · cases q
  · cases q
/-! ### tests of the module's constants -/
mutual
def cstB (K : PySem.W.Frag) : D → Value → Bool
  | .non, .none => true
  | .bl b, .bool c => b == c
  | .int i, .int j _ => decide (i = j)
  | .str x, .str y _ => decide (x = y)
  | .tup ds, .ref a => (match K.lookup a with
    | some ⟨.type c, _, .seq its _, _⟩ => decide (c = "tuple") && (decide (its.size ≤ sizeLine) && cstBs K ds its.toList)
    | _ => false)
  | _, _ => false
def cstBs (K : PySem.W.Frag) : List D → List Value → Bool
  | [], [] => true
  | d :: ds, u :: us => cstB K d u && cstBs K ds us
  | _, _ => false
end
mutual
theorem cstB_ok {K : PySem.W.Frag} : ∀ (d : D) (u : Value), cstB K d u = true → ∃ v, RelV v u ∧ ∀ ρ H, RelD K ρ H d v
  | .non, u, h => by cases u <;> first | exact ⟨.non, rfl, fun _ _ => rfl⟩ | (simp [cstB] at h)
  | .bl b, u, h => by
    cases u with
    | bool c => rw [cstB, beq_iff_eq] at h; exact ⟨.bl b, by rw [h]; rfl, fun _ _ => rfl⟩
    | _ => simp [cstB] at h
  | .int i, u, h => by
    cases u with
    | int c t => rw [cstB, decide_eq_true_eq] at h; exact ⟨.int i, by rw [h]; exact ⟨t, rfl⟩, fun _ _ => rfl⟩
    | _ => simp [cstB] at h
  | .str i, u, h => by
    cases u with
    | str c t => rw [cstB, decide_eq_true_eq] at h; exact ⟨.str i, by rw [h]; exact ⟨t, rfl⟩, fun _ _ => rfl⟩
    | _ => simp [cstB] at h
  | .tup ds, u, h => by
    cases u with
    | ref a =>
      rw [cstB] at h
      cases q : K.lookup a with
      | none => rw [q] at h; cases h
      | some o =>
        obtain ⟨oc, od, dt, osl⟩ := o
        rw [q] at h
        cases oc with
        | type c =>
          cases dt with
          | seq its n =>
            simp only [Bool.and_eq_true, decide_eq_true_eq] at h
            obtain ⟨rfl, h2, h3⟩ := h
            obtain ⟨vs, r, hd⟩ := cstBs_ok ds its.toList h3
            exact ⟨.ref a, rfl, fun ρ H => ⟨a, vs, rfl, .inr ⟨_, its, n, q, rfl, rfl, h2, r⟩, hd ρ H⟩⟩
          | _ => cases h
        | _ => cases dt <;> cases h
    | _ => simp [cstB] at h
  | .fro _, u, h => by cases u <;> simp [cstB] at h
  | .ref _, u, h => by cases u <;> simp [cstB] at h
theorem cstBs_ok {K : PySem.W.Frag} : ∀ (ds : List D) (us : List Value), cstBs K ds us = true → ∃ vs, Vals vs us ∧ ∀ ρ H, RelDs K ρ H ds vs
  | [], [], _ => ⟨[], .nil, fun _ _ => rfl⟩
  | [], _ :: _, h => by simp [cstBs] at h
  | _ :: _, [], h => by simp [cstBs] at h
  | d :: ds, u :: us, h => by
    rw [cstBs, Bool.and_eq_true] at h
    obtain ⟨v, r, hv⟩ := cstB_ok d u h.1
    obtain ⟨vs, rs, hvs⟩ := cstBs_ok ds us h.2
    exact ⟨v :: vs, .cons r rs, fun ρ H => ⟨v, vs, rfl, hv ρ H, hvs ρ H⟩⟩
end
/-! ### tests of the classes -/
def gloB (K : PySem.W.Frag) (x : Str) : Bool := (Fa.glo x).ok K
/-- a property's object -/
def prpB (K : PySem.W.Frag) (C : Addr) (nm : Str) (g : Addr) : Bool := (match PySem.W.findIn K (.ref C) nm with
  | some (some (.ref p)) => decide (PySem.W.specialIn K (.ref p) "__get__" = some (some (.builtin "property.__get__"))) && (decide (PySem.W.takesIn K (.ref p) = some true) && (match PySem.W.recIn K p "property" with
    | some (.ref g' :: _) => decide (g' = g)
    | _ => false))
  | _ => false)
theorem prpB_ok {K : PySem.W.Frag} {C : Addr} {nm : Str} {g : Addr} (h : prpB K C nm g = true) : ∃ p, PropOf K C nm p g := by
  unfold prpB at h
  split at h
  · rename_i p hp
    simp only [Bool.and_eq_true, decide_eq_true_eq] at h
    obtain ⟨h1, h2, h3⟩ := h
    split at h3
    · rename_i g' r hr
      rw [decide_eq_true_eq] at h3
      exact ⟨p, hp, h1, h2, r, by rw [hr, h3]⟩
    · cases h3
  · cases h
def mthB (K : PySem.W.Frag) (C : Addr) (nm : Str) (f : Addr) : Bool := decide (PySem.W.findIn K (.ref C) nm = some (some (.ref f))) && (PySem.W.isFn K (.ref f) && PySem.W.keepIn K (.ref f))
def mkB (K : PySem.W.Frag) (C f : Addr) : Bool := PySem.W.makesIn K C && (decide (PySem.W.findIn K (.ref C) "__init__" = some (some (.ref f))) && (PySem.W.isFn K (.ref f) && PySem.W.keepIn K (.ref C)))
def clsB (K : PySem.W.Frag) (C : Addr) : Bool := PySem.W.plainGet K C Str.empty && (PySem.W.hasDictIn K C && (PySem.W.plainOver K C && (decide (PySem.W.findIn K (.ref C) "__setattr__" = some (some (.builtin "object.__setattr__"))) &&
  (decide (PySem.W.findIn K (.ref C) "__class__" = some (some (.builtin "object.__class__"))) && (decide (PySem.W.specialIn K (.builtin "object.__class__") "__get__" = some (some (.builtin "getset_descriptor.__get__"))) && (decide (PySem.W.takesIn K (.builtin "object.__class__") = some true) && (decide (PySem.W.mroIn K C (.type "object") = some true) &&
  (tyNames.all fun n => decide (PySem.W.kitOne K (.ref C) (.type n) = some false) && decide (PySem.W.kitOne K (.type n) (.ref C) = some false)))))))))
def allIx {α : Type} (l : List α) (p : Nat → α → Bool) : Bool := (List.range l.length).all fun i => match l[i]? with
  | some a => p i a
  | none => true
theorem allIx_ok {α : Type} {l : List α} {p : Nat → α → Bool} (h : allIx l p = true) {i : Nat} {a : α} (e : l[i]? = some a) : p i a = true := by
  have h1 := List.all_eq_true.mp h i (List.mem_range.mpr (List.getElem?_eq_some_iff.mp e).1)
  rw [e] at h1
  exact h1
/-- all that the end asks of the heap -/
def fzT (T : Tab) (K : PySem.W.Frag) : Bool :=
  (allIx T.excs fun i x => gloB K x.1 && (xcB K (ga K x.1) && (decide (PySem.W.kitOne K (.ref (ga K x.1)) (.type "ValueError") = some true) && ((match x.2 with
    | none => (Fa.exc x.1).ok K
    | some f => oexB K (ga K x.1) && decide (PySem.W.findIn K (.ref (ga K x.1)) f = some none)) &&
    (allIx T.excs fun j y => decide (PySem.W.kitOne K (.ref (ga K x.1)) (.ref (ga K y.1)) = some (decide (i = j ∨ j = 0))) && decide (PySem.W.exmOne K (.ref (ga K x.1)) (.ref (ga K y.1)) = some (decide (i = j ∨ j = 0)))))))) &&
  ((T.xinits.all fun p => match T.funs[p.2]?, T.excs[p.1]? with
    | some fi, some (nm, some _) => decide (PySem.W.findIn K (.ref (ga K nm)) "__init__" = some (some (.ref (zAd K fi.place)))) && decide (PySem.W.typeIn K (.ref (zAd K fi.place)) = some (.type "function"))
    | _, _ => false) &&
  ((T.funs.all fun fi => match fi.place.2 with
    | none => gloB K fi.place.1 && decide (zAd K fi.place = ga K fi.place.1)
    | some _ => true) &&
  ((bltNames.all fun x => (Fa.free x).ok K) &&
  ((T.consts.all fun p => match PySem.W.nsIn K mainGlobals p.1 with
    | some (some u) => cstB K p.2 u
    | _ => false) &&
  ((allIx T.classes fun c x => gloB K x && (clsB K (ga K x) && ((allIx T.classes fun c' x' => decide (PySem.W.kitOne K (.ref (ga K x)) (.ref (ga K x')) = some (c == c'))) &&
    (allIx T.names fun m nm => (T.props.lookup (c, m)).isSome || ((T.meths.lookup (c, m)).isSome || decide (PySem.W.findIn K (.ref (ga K x)) nm = some none)))))) &&
  ((T.meths.all fun p => match T.funs[p.2]?, T.classes[p.1.1]?, T.names[p.1.2]? with
    | some fi, some x, some nm => mthB K (ga K x) nm (zAd K fi.place)
    | _, _, _ => false) &&
  ((T.props.all fun p => match T.funs[p.2]?, T.classes[p.1.1]?, T.names[p.1.2]? with
    | some fi, some x, some nm => prpB K (ga K x) nm (zAd K fi.place)
    | _, _, _ => false) &&
  (T.inits.all fun p => match T.funs[p.2]?, T.classes[p.1]? with
    | some fi, some x => mkB K (ga K x) (zAd K fi.place)
    | _, _ => false))))))))
end Z
end
section
set_option linter.all false
set_option maxRecDepth 100000
set_option maxHeartbeats 4000000
namespace Z
open PySem PySem.Spec PyProof.Rows L2 He
/-- a def's own facts -/
structure DefOk (T : Tab) (fuel : Nat) (fi : FunInfo) (d : DefD) : Prop where
  at_ : d.at_ = fi.place
  sc : FnScope fi.N fi.ps d.scope
  tr : cSs (cS T fi.N d.scope (cE T fi.N fuel d.scope) fuel) d.body = some fi.body
  kw : d.kwd = []
  np : fi.ps.length = fi.np
  bd : ∀ (K : PySem.W.Frag) (fd : FuncData), FunD K d.name d.qual d.params d.body d.scope (d.dvs K) [] (zAd K d.at_) fd →
    (∀ n, n ≤ fi.np → fi.np - n ≤ fi.dfl.length → ∃ dvs ds, (∀ ρ H, RelDs K ρ H (fi.dfl.drop (fi.dfl.length - (fi.np - n))) dvs) ∧ Vals dvs ds ∧ Binds K fd fi.ps ds) ∧
    (fi.np = 2 → fi.dfl = [] → KBn K fd fi.ps 1 (fi.ps.drop 1) (fun us ws => us ++ ws) (fun vs zs => vs ++ zs))
structure Stat (T : Tab) (fuel : Nat) (fn : List DefD) : Prop where
  nd : T.names.Nodup
  ln : fn.length = T.funs.length
  df : ∀ (i : Nat) (fi : FunInfo) (d : DefD), T.funs[i]? = some fi → fn[i]? = some d → DefOk T fuel fi d
section
variable {P : Program} {w : World} {K : PySem.W.Frag} {h : Heap} {mg : Str → Option Value} {T : Tab} {fuel : Nat} {fn : List DefD}
theorem bind0 {x qual : Str} {params : Arguments} {body : List Stmt} {scope : Scope} {f : Addr} {fd : FuncData} {ps : List Str} {np : Nat} (F : FunD K x qual params body scope [] [] f fd) (hnp : ps.length = np)
    (h : ∀ (kV doc pm : Value) (an : Option Addr) (cdv ct : Value) (us : List Value), us.length = ps.length → bindArgs (PySem.W.fnOf x qual params body scope .none kV doc pm an cdv ct) ⟨us, []⟩ = pure (ps.zip us)) :
    ∀ n, n ≤ np → np - n ≤ ([] : List D).length → ∃ dvs ds, (∀ ρ H, RelDs K ρ H (([] : List D).drop (([] : List D).length - (np - n))) dvs) ∧ Vals dvs ds ∧ Binds K fd ps ds := fun n _ _ => by
  refine ⟨[], [], fun ρ H => ?_, .nil, F.bindsN h⟩
  rw [List.drop_nil]; rfl
theorem kb0 {x qual : Str} {params : Arguments} {body : List Stmt} {scope : Scope} {f : Addr} {fd : FuncData} {a b : Str} (F : FunD K x qual params body scope [] [] f fd)
    (h : ∀ (kV doc pm : Value) (an : Option Addr) (cdv ct : Value) (u v : Value), bindArgs (PySem.W.fnOf x qual params body scope .none kV doc pm an cdv ct) ⟨[u], [(b, v)]⟩ = pure [(a, u), (b, v)]) :
    KBn K fd [a, b] 1 ([a, b].drop 1) (fun us ws => us ++ ws) (fun vs zs => vs ++ zs) := by
  obtain ⟨oc, od, dV, kV, doc, pm, an, cdv, ct, osl, rfl, lk, hcd, hD, hK⟩ := F.ex
  rcases hD with ⟨_, rfl⟩ | ⟨e, _⟩
  · refine ⟨fun s us ws X h1 h2 => ?_, fun r1 r2 => r1.append r2⟩
    match us, ws, h1, h2 with
    | [u], [v], _, _ => exact .of_eq (h kV doc pm an cdv ct u v)
  · exact absurd rfl e
theorem progS_of (X : K.In h) (G : h.Ns mainGlobals mg) (c : SaysZ fn (fzT T) K) (S : Stat T fuel fn) : ProgS P w K mg T fuel := by
  have z := c.z
  unfold fzT at z
  simp only [Bool.and_eq_true] at z
  obtain ⟨z1, z2, z3, z4, z5, z6, z7, z8, z9⟩ := z
  have glo : ∀ {x : Str}, gloB K x = true → mg x = some (.ref (ga K x)) := fun c => glo_ok X G c
  have E1 : ∀ (i : Nat) (x : Str × Option Str), T.excs[i]? = some x → gloB K x.1 = true ∧ xcB K (ga K x.1) = true ∧ PySem.W.kitOne K (.ref (ga K x.1)) (.type "ValueError") = some true ∧ ((match x.2 with
      | none => (Fa.exc x.1).ok K
      | some f => oexB K (ga K x.1) && decide (PySem.W.findIn K (.ref (ga K x.1)) f = some none)) = true) ∧
      ∀ (j : Nat) (y : Str × Option Str), T.excs[j]? = some y → PySem.W.kitOne K (.ref (ga K x.1)) (.ref (ga K y.1)) = some (decide (i = j ∨ j = 0)) ∧ PySem.W.exmOne K (.ref (ga K x.1)) (.ref (ga K y.1)) = some (decide (i = j ∨ j = 0)) := fun i x e => by
    have q := allIx_ok z1 e
    simp only [Bool.and_eq_true] at q
    obtain ⟨q1, q2, q3, q4, q5⟩ := q
    refine ⟨q1, q2, of_decide_eq_true q3, q4, fun j y e2 => ?_⟩
    have q6 := allIx_ok q5 e2
    simp only [Bool.and_eq_true] at q6
    exact ⟨of_decide_eq_true q6.1, of_decide_eq_true q6.2⟩
  have C1 : ∀ (i : Nat) (x : Str), T.classes[i]? = some x → gloB K x = true ∧ clsB K (ga K x) = true ∧ (∀ (j : Nat) (y : Str), T.classes[j]? = some y → PySem.W.kitOne K (.ref (ga K x)) (.ref (ga K y)) = some (i == j)) ∧
      ∀ (m : Nat) (nm : Str), T.names[m]? = some nm → T.props.lookup (i, m) = none → T.meths.lookup (i, m) = none → PySem.W.findIn K (.ref (ga K x)) nm = some none := fun i x e => by
    have q := allIx_ok z6 e
    simp only [Bool.and_eq_true] at q
    obtain ⟨q1, q2, q3, q4⟩ := q
    refine ⟨q1, q2, fun j y e2 => of_decide_eq_true (allIx_ok q3 e2), fun m nm e2 h1 h2 => ?_⟩
    have q5 := allIx_ok q4 e2
    rw [h1, h2] at q5
    simpa using q5
  have CL : ∀ (i : Nat) (x : Str), T.classes[i]? = some x → Cls K (ga K x) ∧ PySem.W.findIn K (.ref (ga K x)) "__class__" = some (some (.builtin "object.__class__")) ∧
      PySem.W.specialIn K (.builtin "object.__class__") "__get__" = some (some (.builtin "getset_descriptor.__get__")) ∧ PySem.W.takesIn K (.builtin "object.__class__") = some true ∧ PySem.W.mroIn K (ga K x) (.type "object") = some true ∧
      ∀ n ∈ tyNames, PySem.W.kitOne K (.ref (ga K x)) (.type n) = some false ∧ PySem.W.kitOne K (.type n) (.ref (ga K x)) = some false := fun i x e => by
    have q := (C1 i x e).2.1
    unfold clsB at q
    simp only [Bool.and_eq_true, decide_eq_true_eq] at q
    obtain ⟨q1, q2, q3, q4, q5, q6, q7, q8, q9⟩ := q
    refine ⟨⟨q1, q2, q3, q4⟩, q5, q6, q7, q8, fun n hn => ?_⟩
    have q10 := List.all_eq_true.mp q9 n hn
    simpa using q10
  have FG : ∀ fi ∈ T.funs, ∀ x, fi.place = (x, none) → gloB K x = true ∧ zAd K fi.place = ga K x := fun fi hm x e => by
    have q := List.all_eq_true.mp z3 fi hm
    rw [e] at q
    rw [e]
    simpa using q
  refine { nd := S.nd, fn := ?_, kp := ?_, len := ?_, fnG := ?_, meth := ?_, prop := ?_, init := ?_, clsG := ?_, noat := ?_, blt := ?_, isi := ?_, exc := ?_, exm := ?_, xcl := ?_, xfd := ?_, xin := ?_, kox := ?_, kov := ?_, cst := ?_ }
  · intro f fi hf
    have hl : f < fn.length := by rw [S.ln]; exact (List.getElem?_eq_some_iff.mp hf).1
    have hd : fn[f]? = some fn[f] := List.getElem?_eq_getElem hl
    obtain ⟨fd, F⟩ := c.def_ f hd
    have q := S.df f fi _ hf hd
    have hk : (fn[f]).kws K = [] := by unfold DefD.kws; rw [q.kw]; rfl
    rw [hk] at F
    have b := q.bd K fd F
    exact ⟨⟨(fn[f]).name, (fn[f]).qual, (fn[f]).params, (fn[f]).body, (fn[f]).scope⟩, (fn[f]).dvs K, fd, by rw [← q.at_]; exact F, q.sc, q.sc.kind, q.tr, b.1, b.2⟩
  · intro f fi hf
    have hl : f < fn.length := by rw [S.ln]; exact (List.getElem?_eq_some_iff.mp hf).1
    have hd : fn[f]? = some fn[f] := List.getElem?_eq_getElem hl
    obtain ⟨fd, F⟩ := c.def_ f hd
    rw [← (S.df f fi _ hf hd).at_]
    exact F.kp
  · intro f fi hf
    have hl : f < fn.length := by rw [S.ln]; exact (List.getElem?_eq_some_iff.mp hf).1
    exact (S.df f fi _ hf (List.getElem?_eq_getElem hl)).np
  · intro f fi x hf e
    have q := FG fi (List.mem_of_getElem? hf) x e
    rw [q.2]
    exact glo q.1
  · intro cc m f fi x nm h1 h2 h3 h4
    have q := List.all_eq_true.mp z7 _ (lookup_mem h1)
    simp only [h2, h3, h4] at q
    unfold mthB at q
    simp only [Bool.and_eq_true, decide_eq_true_eq] at q
    exact ⟨q.1, q.2.1, q.2.2⟩
  · intro cc m f fi x nm h1 h2 h3 h4
    have q := List.all_eq_true.mp z8 _ (lookup_mem h1)
    simp only [h2, h3, h4] at q
    exact prpB_ok q
  · intro cc f fi x h1 h2 h3
    have q := List.all_eq_true.mp z9 _ (lookup_mem h1)
    simp only [h2, h3] at q
    unfold mkB at q
    simp only [Bool.and_eq_true, decide_eq_true_eq] at q
    exact ⟨q.1, q.2.1, q.2.2.1, q.2.2.2⟩
  · intro cc x h1
    exact ⟨glo (C1 cc x h1).1, (CL cc x h1).1⟩
  · intro cc m x nm h1 h2 h3 h4
    exact (C1 cc x h1).2.2.2 m nm h2 h3 h4
  · intro x hx
    exact free_ok X G (List.all_eq_true.mp z4 x hx)
  · refine ⟨fun cc x h1 => ?_, fun cc x h1 n hn => ?_, fun cc x h1 n hn => ?_, fun cc c' x x' h1 h2 => ?_⟩
    · have q := CL cc x h1
      exact ⟨q.1, q.2.1, q.2.2.1, q.2.2.2.1, q.2.2.2.2.1⟩
    · exact ((CL cc x h1).2.2.2.2.2 n hn).1
    · exact ((CL cc x h1).2.2.2.2.2 n hn).2
    · exact (C1 cc x h1).2.2.1 c' x' h2
  · intro i nm h1
    have q := E1 i _ h1
    have q2 := q.2.2.2.1
    have q3 := exc_ok q2
    exact ⟨glo q.1, q3.1, q3.2.1, q3.2.2.1, q3.2.2.2⟩
  · intro i j x y h1 h2
    exact ⟨((E1 i x h1).2.2.2.2 j y h2).2, glo (E1 j y h2).1⟩
  · intro i nm fld h1
    have q := E1 i _ h1
    have q2 := xcB_ok q.2.1
    exact ⟨glo q.1, q2.1, q2.2⟩
  · intro i nm f h1
    have q := (E1 i _ h1).2.2.2.1
    simp only [Bool.and_eq_true, decide_eq_true_eq] at q
    exact ⟨oexB_ok q.1, q.2⟩
  · intro cc f fi h1 h2
    have q := List.all_eq_true.mp z2 _ (lookup_mem h1)
    simp only [h2] at q
    split at q
    · rename_i nm fld e1 e2
      simp only [Bool.and_eq_true, decide_eq_true_eq] at q
      cases e1
      exact ⟨nm, fld, e2, q.1, q.2⟩
    · cases q
  · intro i j x y h1 h2
    exact ((E1 i x h1).2.2.2.2 j y h2).1
  · intro i x h1
    exact (E1 i x h1).2.2.1
  · intro x d h1
    have q := List.all_eq_true.mp z5 _ (lookup_mem h1)
    simp only at q
    split at q
    · rename_i u hu
      obtain ⟨v, r, hv⟩ := cstB_ok d u q
      exact ⟨v, u, PySem.W.mg_of X G hu, r, hv⟩
    · cases q
end
end Z
end
section
set_option linter.all false
set_option maxRecDepth 100000
set_option maxHeartbeats 4000000
namespace Z
open PySem PySem.Spec PyProof.Rows L2

/-! ## plain laws: the store grows, and changes at M alone -/
structure Upd (M : List Nat) (st st' : Sto) : Prop where
  len : st.length ≤ st'.length
  keep : ∀ j, j < st.length → j ∉ M → st'[j]? = st[j]?
namespace Upd
variable {M M' : List Nat} {a b c : Sto}
theorem refl : Upd M a a := ⟨Nat.le_refl _, fun _ _ _ => rfl⟩
theorem trans (h1 : Upd M a b) (h2 : Upd M b c) : Upd M a c :=
  ⟨Nat.le_trans h1.len h2.len, fun j hj hm => (h2.keep j (Nat.lt_of_lt_of_le hj h1.len) hm).trans (h1.keep j hj hm)⟩
theorem mono (h : Upd M a b) (hM : ∀ m ∈ M, m ∈ M') : Upd M' a b := ⟨h.len, fun j hj hm => h.keep j hj fun z => hm (hM j z)⟩
theorem nil (h : Upd [] a b) : Upd M a b := h.mono fun _ z => nomatch z
theorem at_ (h : Upd M a b) {j : Nat} {o : O} (e : a[j]? = some o) (hm : j ∉ M) : b[j]? = some o := by
  rw [h.keep j ?_ hm]; exact e
  exact (List.getElem?_eq_some_iff.mp e).1
theorem push (l : Sto) : Upd M a (a ++ l) := ⟨by simp, fun j hj _ => by rw [List.getElem?_append_left hj]⟩
theorem set {i : Nat} {o : O} (h : i ∈ M) : Upd M a (a.set i o) := ⟨by simp, fun j hj hm => by
  rw [List.getElem?_set_ne]; rintro rfl; exact hm h⟩
theorem setNew {n : Nat} {o : O} (h : Upd M a b) (hn : a.length ≤ n) : Upd M a (b.set n o) := ⟨by simpa using h.len, fun j hj hm => by
  rw [List.getElem?_set_ne (by omega)]; exact h.keep j hj hm⟩
theorem setM {n : Nat} {o : O} (h : Upd M a b) (hn : n ∈ M) : Upd M a (b.set n o) := h.trans (Upd.set hn)
/-- what is new at b may change on the way to c -/
theorem drop (h1 : Upd M a b) (h2 : Upd M' b c) (hM : ∀ m ∈ M', m < a.length → m ∈ M) : Upd M a c :=
  ⟨Nat.le_trans h1.len h2.len, fun j hj hm => (h2.keep j (Nat.lt_of_lt_of_le hj h1.len) fun z => hm (hM j z hj)).trans (h1.keep j hj hm)⟩
end Upd
theorem lt_of_at {st : Sto} {i : Nat} {o : O} (h : st[i]? = some o) : i < st.length := (List.getElem?_eq_some_iff.mp h).1
theorem at_push {st : Sto} {o : O} : (st ++ [o])[st.length]? = some o := by simp
theorem at_set {st : Sto} {i : Nat} {o p : O} (h : st[i]? = some p) : (st.set i o)[i]? = some o := by
  rw [List.getElem?_set_self (lt_of_at h)]
theorem set_ne {st : Sto} {i j : Nat} {o : O} (h : i ≠ j) : (st.set i o)[j]? = st[j]? := List.getElem?_set_ne h
theorem ne_at {st : Sto} {i j : Nat} {o p : O} (h1 : st[i]? = some o) (h2 : st[j]? = some p) (h : o ≠ p) : i ≠ j := by
  rintro rfl; rw [h1] at h2; exact h (Option.some.inj h2)

/-! ## calls -/
section
variable {T : Tab} {C : CallS}
theorem call_ok {k f : Nat} {fi : FunInfo} {ds : List D} {st : Sto} {Q : QE} {X : XP} (h : T.funs[f]? = some fi) (hl : ds.length = fi.np)
    (hw : wS T (wCall T k) fi.body (ds.map some ++ List.replicate (fi.N.length - ds.length) none) st { nx := fun _ st' => Q .non st', rt := Q, bk := fun _ _ => False, ct := fun _ _ => False, xc := fun x _ st' => X x st' }) : wCall T (k + 1) f ds st Q X := by
  unfold wCall
  rw [h]
  exact ⟨hl, hw⟩
theorem full_all {fi : FunInfo} {ds : List D} (h : ds.length = fi.np) : fi.full ds = ds := by
  unfold FunInfo.full
  rw [h, Nat.sub_self, Nat.sub_zero, List.drop_length, List.append_nil]
theorem callF_ok {f : Nat} {fi : FunInfo} {ds : List D} {st : Sto} {Q : QE} {X : XP} (h : T.funs[f]? = some fi) (hl : ds.length = fi.np) (hw : C f ds st Q X) : callF T C f ds st Q X := by
  unfold callF
  rw [h]
  show C f (fi.full ds) st Q X
  rw [full_all hl]
  exact hw
/-! ## loops -/
theorem forL_inv {f : D → Loc → Sto → EndS → Prop} (hf : ∀ d σ st E E', E.Le E' → f d σ st E → f d σ st E') {G : Sto → Prop} {D' : EndS} (I : List D → Loc → Sto → Prop)
    (ht : ∀ d l σ st, I (d :: l) σ st → f d σ st { D' with nx := fun σ' st' => G st' ∧ I l σ' st', ct := fun σ' st' => G st' ∧ I l σ' st', bk := D'.nx })
    (he : ∀ σ st, I [] σ st → D'.nx σ st) : ∀ (l : List D) (σ : Loc) (st : Sto), I l σ st → forL f G D' l σ st
  | [], σ, st, h => he σ st h
  | d :: l, σ, st, h => by
    unfold forL
    have z : ∀ σ' st', (G st' ∧ I l σ' st') → (G st' ∧ forL f G D' l σ' st') := fun σ' st' q => ⟨q.1, forL_inv hf I ht he l σ' st' q.2⟩
    refine hf d σ st _ _ ?_ (ht d l σ st h)
    exact ⟨z, fun _ _ q => q, fun _ _ q => q, z, fun _ _ _ q => q⟩
/-- the body of a for -/
def forF (T : Tab) (C : CallS) (tg : Tg) (a : S) : D → Loc → Sto → EndS → Prop := fun d σ st D'' => match wTg tg d σ with
  | some σ' => wS T C a σ' st D''
  | none => False
theorem fore_ok (hC : MonC C) {tg : Tg} {it : It} {a : S} {σ : Loc} {st : Sto} {D' : EndS} (h : wIt T C it σ st (fun ds G st' => ∃ I : List D → Loc → Sto → Prop, I ds σ st' ∧
      (∀ d l σ st, I (d :: l) σ st → forF T C tg a d σ st { D' with nx := fun σ' st' => G st' ∧ I l σ' st', ct := fun σ' st' => G st' ∧ I l σ' st', bk := D'.nx }) ∧ ∀ σ st, I [] σ st → D'.nx σ st) (fun x st' => D'.xc x σ st')) : wS T C (.fore tg it a) σ st D' := by
  unfold wS
  refine mI hC it σ st _ _ _ _ (fun ds G s q => ?_) (fun _ _ z => z) h
  obtain ⟨I, h0, ht, he⟩ := q
  refine forL_inv (fun d σ st E E' hE p => ?_) I ht he ds σ s h0
  unfold forF at p ⊢
  split at p
  · exact mS hC a _ _ _ _ hE p
  · exact p.elim
theorem lcL_inv {f : D → Sto → (Option D → Sto → Prop) → Prop} (hf : ∀ d st R R', (∀ o s, R o s → R' o s) → f d st R → f d st R') {G : Sto → Prop} {n : Nat} {Q : Sto → Prop} (I : List D → Sto → Prop)
    (ht : ∀ d l st, I (d :: l) st → f d st fun o st' => G st' ∧ match o with
      | none => I l st'
      | some y => ∃ acc, st'[n]? = some (.lst acc) ∧ acc.length < sizeLine ∧ G (st'.set n (.lst (acc ++ [y]))) ∧ I l (st'.set n (.lst (acc ++ [y]))))
    (he : ∀ st, I [] st → Q st) : ∀ (l : List D) (st : Sto), I l st → lcL f G n Q l st
  | [], st, h => he st h
  | d :: l, st, h => by
    unfold lcL
    refine hf d st _ _ (fun o s q => ⟨q.1, ?_⟩) (ht d l st h)
    cases o with
    | none => exact lcL_inv hf I ht he l s q.2
    | some y =>
      obtain ⟨acc, h1, h2, h3, h4⟩ := q.2
      simp only [h1]
      exact ⟨h2, h3, lcL_inv hf I ht he l _ h4⟩
/-- a comprehension: what holds (J) of the list so far and of the store, the list's own place apart -/
theorem lc_ok (hC : MonC C) {own : List Nat} {tg : Tg} {it : It} {elt : E} {σ : Loc} {st : Sto} {Q : QE} {X : XP} (M : List Nat) (h : wIt T C it σ st (fun ds G st1 => ∃ J : List D → List D → Sto → Prop, (∀ m ∈ M, m < st1.length) ∧ (∀ s, Upd M st1 s → G s) ∧ ds.length < sizeLine ∧
      (∀ l acc s o, Upd M st1 s → J l acc s → J l acc (s.set st1.length o)) ∧ J ds [] (st1 ++ [.lst []]) ∧
      (∀ d l acc s, Upd M st1 s → s[st1.length]? = some (.lst acc) → J (d :: l) acc s → ∃ σ2, wTg tg d (wipeD σ own) = some σ2 ∧ wE T C elt σ2 s (fun y s' => Upd M s s' ∧ J l (acc ++ [y]) s') (fun _ _ => False)) ∧
      ∀ acc s, Upd M st1 s → s[st1.length]? = some (.lst acc) → J [] acc s → acc.length = ds.length → Q (.ref st1.length) s) X) : wE T C (.lc own tg it elt) σ st Q X := by
  unfold wE
  refine mI hC it σ st _ _ _ _ (fun ds G st1 q => ?_) (fun _ _ z => z) h
  obtain ⟨J, hM, hG, hs, hJ, h0, ht, he⟩ := q
  refine ⟨hG _ (Upd.push _), ?_⟩
  have hn : st1.length ∉ M := fun z => Nat.lt_irrefl _ (hM _ z)
  refine lcL_inv (fun d s R R' hR p => ?_) (fun l s => Upd M st1 s ∧ ∃ acc, s[st1.length]? = some (.lst acc) ∧ J l acc s ∧ acc.length + l.length = ds.length) (fun d l s hI => ?_) (fun s hI => ?_) ds _ ⟨Upd.push _, [], by simp, h0, by simp⟩
  · split at p
    · exact mE hC elt _ _ _ _ _ _ (fun y s z => hR _ _ z) (fun _ _ z => z) p
    · exact p.elim
  · obtain ⟨u, acc, h1, h2, h3⟩ := hI
    obtain ⟨σ2, h4, h5⟩ := ht d l acc s u h1 h2
    try dsimp only
    rw [h4]
    refine mE hC elt _ _ _ _ _ _ (fun y s' z => ?_) (fun _ _ z => z) h5
    obtain ⟨z1, z2⟩ := z
    have u2 := u.trans z1
    have h6 := z1.at_ h1 hn
    refine ⟨hG _ u2, acc, h6, ?_, hG _ (u2.setNew (Nat.le_refl _)), u2.setNew (Nat.le_refl _), acc ++ [y], at_set h6, hJ _ _ _ _ u2 z2, ?_⟩
    · simp only [List.length_cons] at h3; omega
    · simp only [List.length_cons, List.length_append, List.length_nil] at h3 ⊢; omega
  · obtain ⟨u, acc, h1, h2, h3⟩ := hI
    exact he acc s u h1 h2 (by simpa using h3)
/-- the same with a test -/
theorem lcif_ok (hC : MonC C) {own : List Nat} {tg : Tg} {it : It} {t elt : E} {σ : Loc} {st : Sto} {Q : QE} {X : XP} (M : List Nat) (h : wIt T C it σ st (fun ds G st1 => ∃ J : List D → List D → Sto → Prop, (∀ m ∈ M, m < st1.length) ∧ (∀ s, Upd M st1 s → G s) ∧ ds.length < sizeLine ∧
      (∀ l acc s o, Upd M st1 s → J l acc s → J l acc (s.set st1.length o)) ∧ J ds [] (st1 ++ [.lst []]) ∧
      (∀ d l acc s, Upd M st1 s → s[st1.length]? = some (.lst acc) → J (d :: l) acc s → ∃ σ2, wTg tg d (wipeD σ own) = some σ2 ∧ wE T C t σ2 s (fun b s1 => Upd M s s1 ∧ bl2 b
        (wE T C elt σ2 s1 (fun y s' => Upd M s1 s' ∧ J l (acc ++ [y]) s') (fun _ _ => False)) (J l acc s1)) (fun _ _ => False)) ∧
      ∀ acc s, Upd M st1 s → s[st1.length]? = some (.lst acc) → J [] acc s → acc.length ≤ ds.length → Q (.ref st1.length) s) X) : wE T C (.lcif own tg it t elt) σ st Q X := by
  unfold wE
  refine mI hC it σ st _ _ _ _ (fun ds G st1 q => ?_) (fun _ _ z => z) h
  obtain ⟨J, hM, hG, hs, hJ, h0, ht, he⟩ := q
  refine ⟨hG _ (Upd.push _), ?_⟩
  have hn : st1.length ∉ M := fun z => Nat.lt_irrefl _ (hM _ z)
  refine lcL_inv (fun d s R R' hR p => ?_) (fun l s => Upd M st1 s ∧ ∃ acc, s[st1.length]? = some (.lst acc) ∧ J l acc s ∧ acc.length + l.length ≤ ds.length) (fun d l s hI => ?_) (fun s hI => ?_) ds _ ⟨Upd.push _, [], by simp, h0, by simp⟩
  · split at p
    · refine mE hC t _ _ _ _ _ _ (fun y s z => bl2_mono (fun z => ?_) (fun z => hR _ _ z) z) (fun _ _ z => z) p
      exact mE hC elt _ _ _ _ _ _ (fun y s z => hR _ _ z) (fun _ _ z => z) z
    · exact p.elim
  · obtain ⟨u, acc, h1, h2, h3⟩ := hI
    obtain ⟨σ2, h4, h5⟩ := ht d l acc s u h1 h2
    try dsimp only
    rw [h4]
    refine mE hC t _ _ _ _ _ _ (fun b s1 z => ?_) (fun _ _ z => z) h5
    obtain ⟨z1, z2⟩ := z
    have u1 := u.trans z1
    refine bl2_mono (fun z2 => ?_) (fun z2 => ?_) z2
    · refine mE hC elt _ _ _ _ _ _ (fun y s' z => ?_) (fun _ _ z => z) z2
      obtain ⟨z3, z4⟩ := z
      have u2 := u1.trans z3
      have h6 := z3.at_ (z1.at_ h1 hn) hn
      refine ⟨hG _ u2, acc, h6, ?_, hG _ (u2.setNew (Nat.le_refl _)), u2.setNew (Nat.le_refl _), acc ++ [y], at_set h6, hJ _ _ _ _ u2 z4, ?_⟩
      · simp only [List.length_cons] at h3; omega
      · simp only [List.length_cons, List.length_append, List.length_nil] at h3 ⊢; omega
    · exact ⟨hG _ u1, u1, acc, z1.at_ h1 hn, z2, by simp only [List.length_cons] at h3; omega⟩
  · obtain ⟨u, acc, h1, h2, h3⟩ := hI
    exact he acc s u h1 h2 (by simpa using h3)
/-- a while, by a measure -/
theorem whl_ok (I : Loc → Sto → Prop) (μ : Loc → Sto → Nat) {t : E} {a : S} {σ : Loc} {st : Sto} {D' : EndS} (h0 : I σ st) (h : ∀ σ st, I σ st → wE T C t σ st (fun d st' => bl2 d
      (wS T C a σ st' { D' with nx := fun σ' s' => I σ' s' ∧ μ σ' s' < μ σ st, ct := fun σ' s' => I σ' s' ∧ μ σ' s' < μ σ st, bk := D'.nx }) (D'.nx σ st')) (fun x st' => D'.xc x σ st')) (hC : MonC C) : wS T C (.whl t a) σ st D' := by
  unfold wS
  refine ⟨fun m σ st => I σ st ∧ μ σ st = m, ⟨_, h0, rfl⟩, fun m σ st hI => ?_⟩
  obtain ⟨hI, rfl⟩ := hI
  refine mE hC t _ _ _ _ _ _ (fun d s z => bl2_mono (fun z => ?_) (fun z => z) z) (fun _ _ z => z) (h σ st hI)
  have q : ∀ σ' s', (I σ' s' ∧ μ σ' s' < μ σ st) → ∃ m', m' < μ σ st ∧ I σ' s' ∧ μ σ' s' = m' := fun σ' s' z => ⟨_, z.2, z.1, rfl⟩
  refine mS hC a _ _ _ _ ?_ z
  exact ⟨q, fun _ _ z => z, fun _ _ z => z, q, fun _ _ _ z => z⟩
end
end Z
end
section
set_option linter.all false
set_option maxRecDepth 100000
set_option maxHeartbeats 4000000
namespace Z
open PySem PySem.Spec PyProof.Rows L2

/-! ## data without references, as the library's == sees it -/
mutual
def D.ok : D → Bool
  | .non => true
  | .bl _ => true
  | .int _ => true
  | .str x => PyData.strOk x
  | .tup l => D.oks l
  | .fro _ => false
  | .ref _ => false
def D.oks : List D → Bool
  | [] => true
  | d :: l => D.ok d && D.oks l
end
mutual
def D.toP : D → PyData
  | .non => .none
  | .bl b => .bool b
  | .int i => .int i
  | .str x => .str x
  | .tup l => .tuple (D.toPs l)
  | .fro _ => .none
  | .ref _ => .none
def D.toPs : List D → List PyData
  | [] => []
  | d :: l => D.toP d :: D.toPs l
end
mutual
def D.dep : D → Nat
  | .non => 0
  | .bl _ => 0
  | .int _ => 0
  | .str _ => 0
  | .tup l => D.deps l + 1
  | .fro _ => 0
  | .ref _ => 0
def D.deps : List D → Nat
  | [] => 0
  | d :: l => max (D.dep d) (D.deps l)
end
mutual
def D.nb : D → Bool
  | .bl _ => false
  | .tup l => D.nbs l
  | _ => true
def D.nbs : List D → Bool
  | [] => true
  | d :: l => D.nb d && D.nbs l
end
theorem toPs_map : ∀ l : List D, D.toPs l = l.map D.toP
  | [] => rfl
  | d :: l => by rw [D.toPs, toPs_map l]; rfl
mutual
theorem pyd_ok (st : Sto) : ∀ (d : D) (n : Nat), d.ok = true → d.dep ≤ n → pyd st n d = some d.toP
  | .non, n, _, _ => by cases n <;> rfl
  | .bl _, n, _, _ => by cases n <;> rfl
  | .int _, n, _, _ => by cases n <;> rfl
  | .str _, n, _, _ => by cases n <;> rfl
  | .tup l, n, h, hd => by
    rw [D.dep] at hd
    obtain ⟨m, rfl⟩ : ∃ m, n = m + 1 := ⟨n - 1, by omega⟩
    rw [D.ok] at h
    have q := pyds_ok st l m h (by omega)
    unfold pyd
    rw [q, D.toP]; rfl
  | .fro _, _, h, _ => by simp [D.ok] at h
  | .ref _, _, h, _ => by simp [D.ok] at h
theorem pyds_ok (st : Sto) : ∀ (l : List D) (n : Nat), D.oks l = true → D.deps l ≤ n → l.mapM (pyd st n) = some (D.toPs l)
  | [], n, _, _ => rfl
  | d :: l, n, h, hd => by
    rw [D.oks, Bool.and_eq_true] at h
    rw [D.deps] at hd
    have h1 := pyd_ok st d n h.1 (by omega)
    have h2 := pyds_ok st l n h.2 (by omega)
    rw [List.mapM_cons, h1, h2, D.toPs]; rfl
end
mutual
theorem toP_lay : ∀ d : D, d.ok = true → d.toP.canLay0 = true ∧ d.toP.depth = d.dep
  | .non, _ => ⟨by simp [D.toP, PyData.canLay0], by simp [D.toP, PyData.depth, D.dep]⟩
  | .bl _, _ => ⟨by simp [D.toP, PyData.canLay0], by simp [D.toP, PyData.depth, D.dep]⟩
  | .int _, _ => ⟨by simp [D.toP, PyData.canLay0], by simp [D.toP, PyData.depth, D.dep]⟩
  | .str x, h => ⟨by simpa [D.toP, PyData.canLay0, D.ok] using h, by simp [D.toP, PyData.depth, D.dep]⟩
  | .tup l, h => by
    rw [D.ok] at h
    have q := toPs_lay l h
    exact ⟨by rw [D.toP, PyData.canLay0]; exact q.1, by rw [D.toP, PyData.depth, D.dep, q.2]⟩
  | .fro _, h => by simp [D.ok] at h
  | .ref _, h => by simp [D.ok] at h
theorem toPs_lay : ∀ l : List D, D.oks l = true → PyData.canLayAll0 (D.toPs l) = true ∧ PyData.depthAll (D.toPs l) = D.deps l
  | [], _ => ⟨by simp [D.toPs, PyData.canLayAll0], by simp [D.toPs, PyData.depthAll, D.deps]⟩
  | d :: l, h => by
    rw [D.oks, Bool.and_eq_true] at h
    have h1 := toP_lay d h.1
    have h2 := toPs_lay l h.2
    exact ⟨by rw [D.toPs, PyData.canLayAll0, h1.1, h2.1]; rfl, by rw [D.toPs, PyData.depthAll, D.deps, h1.2, h2.2]⟩
end
theorem shaped_ok {d : D} (h : d.ok = true) (hd : d.dep ≤ 64) : SeqAt.shaped d.toP = true := by
  unfold SeqAt.shaped
  rw [(toP_lay d h).1, (toP_lay d h).2, decide_eq_true hd]; rfl
theorem shapeds_ok {l : List D} (h : D.oks l = true) (hd : D.deps l ≤ 63) : SeqAt.shaped (.list (D.toPs l)) = true := by
  unfold SeqAt.shaped
  rw [PyData.canLay0, (toPs_lay l h).1, PyData.depth, (toPs_lay l h).2, decide_eq_true (by omega)]; rfl
mutual
theorem eqv_toP : ∀ a b : D, a.ok = true → b.ok = true → a.nb = true → b.nb = true → PyData.eqv a.toP b.toP = decide (a = b)
  | .tup l, b, ha, hb, na, nb => by
    cases b with
    | tup m =>
      rw [D.ok] at ha hb; rw [D.nb] at na nb
      rw [D.toP, D.toP, PyData.eqv, eqvs_toP l m ha hb na nb]
      simp
    | bl b => simp [D.nb] at nb
    | fro b => simp [D.ok] at hb
    | ref b => simp [D.ok] at hb
    | _ => simp [D.toP, PyData.eqv]
  | .bl _, _, _, _, h, _ => by simp [D.nb] at h
  | .fro _, _, h, _, _, _ => by simp [D.ok] at h
  | .ref _, _, h, _, _, _ => by simp [D.ok] at h
  | .non, b, ha, hb, na, nb => by cases b <;> simp_all [D.toP, PyData.eqv, D.nb, D.ok]
  | .int i, b, ha, hb, na, nb => by cases b <;> simp_all [D.toP, PyData.eqv, D.nb, D.ok] <;> rfl
  | .str i, b, ha, hb, na, nb => by
    cases b with
    | str y => simp only [D.toP, PyData.eqv, D.str.injEq]; exact Bool.eq_iff_iff.mpr (by simp)
    | bl b => simp [D.nb] at nb
    | fro b => simp [D.ok] at hb
    | ref b => simp [D.ok] at hb
    | _ => simp [D.toP, PyData.eqv]
theorem eqvs_toP : ∀ a b : List D, D.oks a = true → D.oks b = true → D.nbs a = true → D.nbs b = true → PyData.eqvAll (D.toPs a) (D.toPs b) = decide (a = b)
  | [], [], _, _, _, _ => by simp [D.toPs, PyData.eqvAll]
  | [], d :: l, _, _, _, _ => by simp [D.toPs, PyData.eqvAll]
  | d :: l, [], _, _, _, _ => by simp [D.toPs, PyData.eqvAll]
  | a :: l, b :: m, ha, hb, na, nb => by
    rw [D.oks, Bool.and_eq_true] at ha hb
    rw [D.nbs, Bool.and_eq_true] at na nb
    rw [D.toPs, D.toPs, PyData.eqvAll, eqv_toP a b ha.1 hb.1 na.1 nb.1, eqvs_toP l m ha.2 hb.2 na.2 nb.2]
    simp
end
theorem eqD_ok {st : Sto} {a b : D} (ha : a.ok = true) (hb : b.ok = true) (da : a.dep ≤ 12) (db : b.dep ≤ 12) : eqD st a b = some (PyData.eqv a.toP b.toP) := by
  unfold eqD
  rw [pyd_ok st a 12 ha da, pyd_ok st b 12 hb db]
  simp only [shaped_ok ha (by omega), shaped_ok hb (by omega), and_self, if_true]
theorem eqD_nb {st : Sto} {a b : D} (ha : a.ok = true) (hb : b.ok = true) (da : a.dep ≤ 12) (db : b.dep ≤ 12) (na : a.nb = true) (nb : b.nb = true) : eqD st a b = some (decide (a = b)) := by
  rw [eqD_ok ha hb da db, eqv_toP a b ha hb na nb]
theorem pyd_lst {st : Sto} {i : Nat} {l : List D} (h : st[i]? = some (.lst l)) (ho : D.oks l = true) (hd : D.deps l ≤ 11) : pyd st 12 (.ref i) = some (.list (D.toPs l)) := by
  show (match lstAt st i with | some l => (l.mapM (pyd st 11)).map PyData.list | none => none) = _
  unfold lstAt
  rw [h]
  show (l.mapM (pyd st 11)).map PyData.list = _
  rw [pyds_ok st l 11 ho hd]; rfl
theorem eqD_lst {st : Sto} {i j : Nat} {l m : List D} (hi : st[i]? = some (.lst l)) (hj : st[j]? = some (.lst m)) (ho : D.oks l = true) (hp : D.oks m = true) (dl : D.deps l ≤ 11) (dm : D.deps m ≤ 11) :
    eqD st (.ref i) (.ref j) = some (PyData.eqvAll (D.toPs l) (D.toPs m)) := by
  unfold eqD
  rw [pyd_lst hi ho dl, pyd_lst hj hp dm]
  simp only [shapeds_ok ho (by omega), shapeds_ok hp (by omega), and_self, if_true, PyData.eqv]
theorem eqD_lst_nb {st : Sto} {i j : Nat} {l m : List D} (hi : st[i]? = some (.lst l)) (hj : st[j]? = some (.lst m)) (ho : D.oks l = true) (hp : D.oks m = true) (dl : D.deps l ≤ 11) (dm : D.deps m ≤ 11) (nl : D.nbs l = true) (nm : D.nbs m = true) :
    eqD st (.ref i) (.ref j) = some (decide (l = m)) := by
  rw [eqD_lst hi hj ho hp dl dm, eqvs_toP l m ho hp nl nm]
theorem eqvAll_bl : ∀ a b : List Bool, PyData.eqvAll (D.toPs (a.map D.bl)) (D.toPs (b.map D.bl)) = decide (a = b)
  | [], [] => by simp [D.toPs, PyData.eqvAll]
  | [], _ :: _ => by simp [D.toPs, PyData.eqvAll]
  | _ :: _, [] => by simp [D.toPs, PyData.eqvAll]
  | a :: l, b :: m => by
    simp only [List.map_cons, D.toPs, D.toP, PyData.eqvAll, PyData.eqv, eqvAll_bl l m]
    cases a <;> cases b <;> simp
theorem oks_all {l : List D} : D.oks l = true ↔ ∀ d ∈ l, d.ok = true := by
  induction l with
  | nil => simp [D.oks]
  | cons a l ih => simp [D.oks, ih]
theorem nbs_all {l : List D} : D.nbs l = true ↔ ∀ d ∈ l, d.nb = true := by
  induction l with
  | nil => simp [D.nbs]
  | cons a l ih => simp [D.nbs, ih]
theorem deps_le {l : List D} {n : Nat} : D.deps l ≤ n ↔ ∀ d ∈ l, d.dep ≤ n := by
  induction l with
  | nil => simp [D.deps]
  | cons a l ih => simp [D.deps, ih, Nat.max_le]
theorem inD_ok {st : Sto} {a : D} {l : List D} (ha : a.ok = true) (hl : D.oks l = true) (da : a.dep ≤ 12) (dl : D.deps l ≤ 12) : inD st a l = some (l.any fun z => PyData.eqv z.toP a.toP) := by
  unfold inD
  rw [pyd_ok st a 12 ha da, pyds_ok st l 12 hl dl]
  simp only [shaped_ok ha (by omega), shapeds_ok hl (by omega), and_self, if_true]
  rw [toPs_map, List.any_map]
  rfl
theorem inD_nb {st : Sto} {a : D} {l : List D} (ha : a.ok = true) (hl : D.oks l = true) (da : a.dep ≤ 12) (dl : D.deps l ≤ 12) (na : a.nb = true) (nl : D.nbs l = true) : inD st a l = some (decide (a ∈ l)) := by
  rw [inD_ok ha hl da dl]
  congr 1
  rw [Bool.eq_iff_iff, List.any_eq_true, decide_eq_true_eq]
  constructor
  · rintro ⟨z, hz, e⟩
    rw [eqv_toP z a (oks_all.mp hl z hz) ha (nbs_all.mp nl z hz) na, decide_eq_true_eq] at e
    exact e ▸ hz
  · intro h
    exact ⟨a, h, by rw [eqv_toP a a ha ha na na, decide_eq_true rfl]⟩
end Z
end
section
set_option linter.all false
set_option maxRecDepth 100000
set_option maxHeartbeats 4000000
namespace Z
open PySem PySem.Spec PyProof.Rows L2

/-! ## what each operation gives, as equations -/
section
variable {st : Sto} {Q : QE} {a b : Int} {x y z : D} {i j : Nat} {l m : List D} {d : List (D × D)} {r : Bool}
theorem p_tup (h : l.length ≤ sizeLine) : prim .tup l st Q = Q (.tup l) st := by simp only [prim, primF, pTup, tupD, if_pos h]
theorem p_lst (h : l.length ≤ sizeLine) : prim .lst l st Q = Q (.ref st.length) (st ++ [.lst l]) := by simp only [prim, primF, pLst, newL, if_pos h]
theorem p_add : prim .add [.int a, .int b] st Q = Q (.int (a + b)) st := Eq.trans rfl rfl
theorem p_addL (hi : st[i]? = some (.lst l)) (hj : st[j]? = some (.lst m)) (h : (l ++ m).length ≤ sizeLine) : prim .add [.ref i, .ref j] st Q = Q (.ref st.length) (st ++ [.lst (l ++ m)]) := by
  simp only [prim, primF, pAdd, hi, hj, newL, if_pos h]
theorem p_addT (h : l.length + m.length ≤ sizeLine) : prim .add [.tup l, .tup m] st Q = Q (.tup (l ++ m)) st := by
  simp only [prim, primF, pAdd, if_pos h, one]
theorem p_sub : prim .sub [.int a, .int b] st Q = Q (.int (a - b)) st := Eq.trans rfl rfl
theorem p_mul (h : CMul a b) : prim .mul [.int a, .int b] st Q = Q (.int (a * b)) st := by simp only [prim, primF, pMul, if_pos h, one]
theorem p_mulL {k : Int} (hi : st[i]? = some (.lst l)) (h : -(2 ^ 63) ≤ k ∧ k < 2 ^ 63 ∧ l.length * k.toNat ≤ sizeLine) (h2 : (List.replicate k.toNat l).flatten.length ≤ sizeLine) : prim .mul [.ref i, .int k] st Q = Q (.ref st.length) (st ++ [.lst (List.replicate k.toNat l).flatten]) := by
  simp only [prim, primF, pMul, hi, if_pos h, newL, if_pos h2]
theorem p_mod (h : b ≠ 0) : prim .mod [.int a, .int b] st Q = Q (.int (a.fmod b)) st := by simp only [prim, primF, pMod, if_pos h, one]
theorem p_fdiv (h : CDivN a b) : prim .fdiv [.int a, .int b] st Q = Q (.int (a.fdiv b)) st := by simp only [prim, primF, pFdiv, if_pos h, one]
theorem p_pow (h : CPow a b) : prim .pow [.int a, .int b] st Q = Q (.int (a ^ b.toNat)) st := by simp only [prim, primF, pPow, if_pos h, one]
theorem p_neg : prim .neg [.int a] st Q = Q (.int (-a)) st := Eq.trans rfl rfl
theorem p_eq (h : eqD st x y = some r) : prim .eq [x, y] st Q = Q (.bl r) st := by simp only [prim, primF, pEq, h, Option.map_some]
theorem p_ne (h : eqD st x y = some r) : prim .ne [x, y] st Q = Q (.bl (!r)) st := by simp only [prim, primF, pNe, h, Option.map_some]
theorem eqD_int : eqD st (.int a) (.int b) = some (decide (a = b)) := by
  rw [eqD_nb rfl rfl (by simp [D.dep]) (by simp [D.dep]) rfl rfl]; simp
theorem eqD_bl {p q : Bool} : eqD st (.bl p) (.bl q) = some (decide (p = q)) := by
  rw [eqD_ok rfl rfl (by simp [D.dep]) (by simp [D.dep])]
  cases p <;> cases q <;> simp [D.toP, PyData.eqv]
theorem p_eqI : prim .eq [.int a, .int b] st Q = Q (.bl (decide (a = b))) st := p_eq eqD_int
theorem p_neI : prim .ne [.int a, .int b] st Q = Q (.bl (!decide (a = b))) st := p_ne eqD_int
theorem p_eqB {p q : Bool} : prim .eq [.bl p, .bl q] st Q = Q (.bl (decide (p = q))) st := p_eq eqD_bl
theorem p_neB {p q : Bool} : prim .ne [.bl p, .bl q] st Q = Q (.bl (!decide (p = q))) st := p_ne eqD_bl
theorem p_lt : prim .lt [.int a, .int b] st Q = Q (.bl (decide (a < b))) st := Eq.trans rfl rfl
theorem p_le : prim .le [.int a, .int b] st Q = Q (.bl (decide (a ≤ b))) st := Eq.trans rfl rfl
theorem p_gt : prim .gt [.int a, .int b] st Q = Q (.bl (decide (b < a))) st := Eq.trans rfl rfl
theorem p_ge : prim .ge [.int a, .int b] st Q = Q (.bl (decide (b ≤ a))) st := Eq.trans rfl rfl
theorem p_isN : prim .isN [x, .non] st Q = Q (.bl (decide (x = .non))) st := Eq.trans rfl rfl
theorem p_notN : prim .notN [x, .non] st Q = Q (.bl (!decide (x = .non))) st := Eq.trans rfl rfl
theorem p_isinL (hi : st[i]? = some (.lst l)) (h : inD st x l = some r) : prim .isin [x, .ref i] st Q = Q (.bl r) st := by
  simp only [prim, primF, pIsin, hi, lstAt, h, Option.map_some]
theorem p_notinL (hi : st[i]? = some (.lst l)) (h : inD st x l = some r) : prim .notin [x, .ref i] st Q = Q (.bl (!r)) st := by
  simp only [prim, primF, pNotin, hi, lstAt, h, Option.map_some]
theorem p_isinD (hi : st[i]? = some (.dic d)) (h : keyFits d x = true) : prim .isin [x, .ref i] st Q = Q (.bl (dget d x).isSome) st := by
  simp only [prim, primF, pIsin, hi, if_pos h, one]
theorem p_notinD (hi : st[i]? = some (.dic d)) (h : keyFits d x = true) : prim .notin [x, .ref i] st Q = Q (.bl (!(dget d x).isSome)) st := by
  simp only [prim, primF, pNotin, hi, if_pos h, one]
theorem p_ixD (hi : st[i]? = some (.dic d)) (h : keyFits d x = true) (hd : dget d x = some y) : prim .ix [.ref i, x] st Q = Q y st := by
  simp only [prim, primF, pIx, hi, if_pos h, hd, Option.map_some]
theorem p_ixL (hi : st[i]? = some (.lst l)) (hd : atI l a = some y) : prim .ix [.ref i, .int a] st Q = Q y st := by
  simp only [prim, primF, pIx, hi, lstAt, hd, Option.map_some]
theorem p_ixT (hd : atI l a = some y) : prim .ix [.tup l, .int a] st Q = Q y st := by
  simp only [prim, primF, pIx, hd, Option.map_some]
theorem p_lenL (hi : st[i]? = some (.lst l)) : prim .len [.ref i] st Q = Q (.int l.length) st := by
  simp only [prim, primF, pLen, hi, lstAt, Option.map_some]
theorem p_lenD (hi : st[i]? = some (.dic d)) : prim .len [.ref i] st Q = Q (.int d.length) st := by
  simp only [prim, primF, pLen, hi, one]
theorem p_lenT : prim .len [.tup l] st Q = Q (.int l.length) st := Eq.trans rfl rfl
theorem p_abs : prim .abs [.int a] st Q = Q (.int (if a < 0 then -a else a)) st := Eq.trans rfl rfl
theorem p_int : prim .int [.int a] st Q = Q (.int a) st := Eq.trans rfl rfl
theorem p_isi {c t : Ty} (h : tagOf st x = some t) : prim (.isi c) [x] st Q = Q (.bl (tyIs c t)) st := by simp only [prim, primF, pIsi, h, Option.map_some]
theorem p_isx {c : Option Nat} {k : Nat} {fs : List (Nat × D)} (hi : st[i]? = some (.exn k fs)) : prim (.isx c) [.ref i] st Q = Q (.bl (isxB c k)) st := by simp only [prim, primF, pIsx, hi, one]
theorem p_append (hi : st[i]? = some (.lst l)) (h : l.length < sizeLine) : prim .append [.ref i, x] st Q = Q .non (st.set i (.lst (l ++ [x]))) := by
  simp only [prim, primF, pAppend, hi, if_pos h, one]
theorem p_popAt0 (hi : st[i]? = some (.lst (x :: l))) : prim .popAt [.ref i, .int 0] st Q = Q x (st.set i (.lst l)) := by
  have e : seqIndex? 0 (x :: l).length = some 0 := by simp [seqIndex?]
  simp only [prim, primF, pPopAt, hi, e]
  simp
theorem bl2_b {k : Bool} {t f : Prop} : bl2 (.bl k) t f = if k = true then t else f := by cases k <;> rfl
end
end Z
end
section
set_option linter.all false
set_option maxRecDepth 100000
set_option maxHeartbeats 4000000
namespace K00
open PySem PySem.Spec PyProof.Rows L2 Z
def b_NoOperation___init__ : S :=
  (.cons (.asgF (.var 0) 0 (.var 1)) .nil)
def b_TooLarge___init__ : S :=
  (.cons (.asgF (.var 0) 1 (.var 1)) .nil)
def b_NoText___init__ : S :=
  (.cons (.asgF (.var 0) 2 (.var 1)) .nil)
def b__law_begin : S :=
  (.cons (.asg (.name 1) (.lc [2] (.name 2) (.seq (.var 0)) (.op .abs [.var 2])))
  (.cons (.ret (.ddisp [.cst (.str "large"), .lcif [2] (.name 2) (.seq (.var 1)) (.op .ge [.var 2, .op .pow [.cst (.int 10), .cst (.int 18)]]) (.op .sub [.var 2, .op .pow [.cst (.int 10), .cst (.int 18)]]), .cst (.str "cells"), .var 1, .cst (.str "rest"), .cst (.int 0), .cst (.str "turn"), .cst (.int 0)])) .nil))
def b__law_draw : S :=
  (.cons (.whl (.and (.op .eq [.op .ix [.var 0, .cst (.str "rest")], .cst (.int 0)]) (.op .ne [.op .ix [.var 0, .cst (.str "large")], .op .lst []]))
    (.cons (.asgS (.var 0) (.cst (.str "rest")) (.bm .popAt (.op .ix [.var 0, .cst (.str "large")]) [.cst (.int 0)])) .nil))
  (.cons (.ife (.op .gt [.op .ix [.var 0, .cst (.str "rest")], .cst (.int 0)])
    (.cons (.asg (.name 2) (.op .mod [.op .int [.op .ix [.var 0, .cst (.str "rest")]], .var 1]))
    (.cons (.asgS (.var 0) (.cst (.str "rest")) (.op .fdiv [.op .ix [.var 0, .cst (.str "rest")], .var 1]))
    (.cons (.ret (.var 2)) .nil)))
    .nil)
  (.cons (.asg (.name 3) (.op .add [.op .ix [.var 0, .cst (.str "turn")], .cst (.int 1)]))
  (.cons (.asgS (.var 0) (.cst (.str "turn")) (.var 3))
  (.cons (.asg (.name 4) (.ifx (.op .ne [.op .ix [.var 0, .cst (.str "cells")], .op .lst []]) (.op .ix [.op .ix [.var 0, .cst (.str "cells")], .op .mod [.op .int [.var 3], .op .len [.op .ix [.var 0, .cst (.str "cells")]]]]) (.cst (.int 0))))
  (.cons (.asg (.name 5) (.op .mod [.op .int [.op .pow [.op .add [.op .add [.op .mod [.op .int [.var 4], .cst (.int 2147483629)], .op .mul [.cst (.int 69621), .var 3]], .cst (.int 12345)], .cst (.int 3)]], .cst (.int 2147483647)]))
  (.cons (.ret (.op .mod [.op .int [.op .fdiv [.op .mod [.op .int [.op .pow [.op .add [.var 5, .op .mul [.cst (.int 104729), .var 3]], .cst (.int 5)]], .cst (.int 2147483587)], .cst (.int 13)]], .var 1])) .nil)))))))
def b__law_pick : S :=
  (.cons (.ret (.op .ix [.var 1, .call 4 [.var 0, .op .len [.var 1]]])) .nil)
def b__law_marks : S :=
  (.cons (.asg (.name 1) (.op .lst [.op (.isx (some 1)) [.var 0], .op (.isx (some 2)) [.var 0], .op (.isx (some 3)) [.var 0]]))
  (.cons (.asg (.name 1) (.op .add [.var 1, .op .lst [.op (.isx (some 4)) [.var 0], .op (.isx (some 5)) [.var 0], .op (.isx (some 6)) [.var 0]]]))
  (.cons (.asg (.name 1) (.op .add [.var 1, .op .lst [.op (.isx (some 7)) [.var 0], .op (.isx (some 8)) [.var 0], .op (.isx (some 9)) [.var 0]]]))
  (.cons (.ret (.op .add [.var 1, .op .lst [.op (.isx (some 10)) [.var 0], .op (.isx (some 11)) [.var 0]]])) .nil))))
def b__law_all : S :=
  (.cons (.asg (.name 2) (.op .lst [.xnew 1 [.var 0], .xnew 2 [.var 0], .xnew 3 [.var 0], .xnew 4 [.var 0], .xnew 5 [.var 1], .xnew 6 [.var 0]]))
  (.cons (.ret (.op .add [.var 2, .op .lst [.xnew 7 [.var 0], .xnew 8 [.var 0], .xnew 9 [.var 0], .xnew 10 [.var 1], .xnew 11 [.var 1]]])) .nil))
def b_law : S :=
  (.cons (.asg (.name 1) (.call 3 [.var 0]))
  (.cons (.fore (.name 2) (.rng1 (.cst (.int 3)))
    (.cons (.asg (.name 3) (.call 5 [.var 1, .op .lst [.cst (.int 0), .cst (.int 1), .cst (.int 200), .call 4 [.var 1, .op .pow [.cst (.int 10), .cst (.int 9)]]]]))
    (.cons (.asg (.name 4) (.call 7 [.call 5 [.var 1, .op .lst [.cst (.str ""), .cst (.str "x"), .cst (.str "no such thing")]], .var 3]))
    (.cons (.fore (.tup [.name 5, .name 6]) (.enum (.var 4))
      (.cons (.ife (.op .ne [.call 6 [.var 6], .lc [7] (.name 7) (.rng1 (.cst (.int 11))) (.op .eq [.var 7, .var 5])])
        (.cons (.ret (.cst (.bl false))) .nil)
        .nil)
      (.cons (.ife (.or (.not (.op (.isx (some 0)) [.var 6])) (.not (.op (.isx none) [.var 6])))
        (.cons (.ret (.cst (.bl false))) .nil)
        .nil) .nil)))
    (.cons (.asg (.name 8) (.op .lst [.attr (.op .ix [.var 4, .cst (.int 4)]) 0, .attr (.op .ix [.var 4, .cst (.int 9)]) 1, .attr (.op .ix [.var 4, .cst (.int 10)]) 2]))
    (.cons (.asg (.name 8) (.op .add [.var 8, .op .lst [.attr (.xnew 5 [.var 3]) 0, .attr (.xnew 10 [.var 3]) 1, .attr (.xnew 11 [.var 3]) 2]]))
    (.cons (.ife (.or (.op .ne [.var 8, .op .mul [.op .lst [.var 3], .cst (.int 6)]]) (.op .isin [.cst (.bl true), .call 6 [.xnew 0 [.cst (.str "x")]]]))
      (.cons (.ret (.cst (.bl false))) .nil)
      .nil) .nil)))))))
  (.cons (.ret (.cst (.bl true))) .nil)))
def funs : List FunInfo := [
  ⟨("NoOperation", some "__init__"), ["self", "at"], ["self", "at"], 2, [], b_NoOperation___init__⟩,
  ⟨("TooLarge", some "__init__"), ["self", "most"], ["self", "most"], 2, [], b_TooLarge___init__⟩,
  ⟨("NoText", some "__init__"), ["self", "row"], ["self", "row"], 2, [], b_NoText___init__⟩,
  ⟨("_law_begin", none), ["_law_script"], ["_law_script", "_law_cells", "_law_cell"], 1, [], b__law_begin⟩,
  ⟨("_law_draw", none), ["_law_state", "_law_size"], ["_law_state", "_law_size", "_law_found", "_law_turn", "_law_cell", "_law_mixed"], 2, [], b__law_draw⟩,
  ⟨("_law_pick", none), ["_law_state", "_law_some"], ["_law_state", "_law_some"], 2, [], b__law_pick⟩,
  ⟨("_law_marks", none), ["_law_error"], ["_law_error", "_law_marks_here"], 1, [], b__law_marks⟩,
  ⟨("_law_all", none), ["_law_word", "_law_number"], ["_law_word", "_law_number", "_law_some"], 2, [], b__law_all⟩,
  ⟨("law", none), ["_law_script"], ["_law_script", "_law_state", "_law_turn", "_law_number", "_law_some", "_law_place", "_law_error", "_law_k", "_law_fields"], 1, [], b_law⟩]
def T : Tab where
  names := ["at", "most", "row", "given", "least", "endless", "kinds", "is_finite", "kind_at", "need_kind", "children", "below", "normal", "first_difference", "walk"]
  classes := []
  excs := [("TreeError", none), ("NoShape", none), ("NoFolder", none), ("NoNumber", none), ("NoPattern", none), ("NoOperation", some "at"), ("NoName", none), ("NoQuery", none), ("NoTable", none), ("NoReplica", none), ("TooLarge", some "most"), ("NoText", some "row")]
  funs := funs
  meths := []
  props := []
  inits := []
  consts := []
  xinits := [(5, 0), (10, 1), (11, 2)]
end K00
end
section
set_option linter.all false
set_option maxRecDepth 100000
set_option maxHeartbeats 4000000
namespace K00
open PySem PySem.Spec PyProof.Rows L2 Z
def top (i : Nat) : Stmt := PySem.Challenge.pw_pathgrafts_k00_errors_made.main.body.getD i (.Pass ⟨0, 0, 0, 0⟩)
def inCls (st : Stmt) (i : Nat) : Stmt := match st with
  | .ClassDef _ _ _ b _ _ _ _ _ _ _ => b.getD i (.Pass ⟨0, 0, 0, 0⟩)
  | s => s
def defD (st : Stmt) (at_ : Str × Option Str) (x q : Str) (ds : List He.Dv) : He.DefD := ⟨at_, x, q, defArgs st, defBody st, defScope st, ds, []⟩
def fuel : Nat := 24
def fi0 : FunInfo := ⟨("", none), [], [], 0, [], .nil⟩
def d0 : He.DefD := defD (inCls (top 6) 0) ("NoOperation", some "__init__") "__init__" "NoOperation.__init__" []
theorem sc0 : FnScope ["self", "at"] ["self", "at"] d0.scope := ⟨by kernel_rfl, by kernel_rfl, by kernel_rfl, by decide +kernel, by kernel_rfl, by decide +kernel, by decide +kernel⟩
theorem tr0 : cSs (cS T ["self", "at"] d0.scope (cE T ["self", "at"] fuel d0.scope) fuel) d0.body = some b_NoOperation___init__ := by kernel_rfl
def d1 : He.DefD := defD (inCls (top 11) 0) ("TooLarge", some "__init__") "__init__" "TooLarge.__init__" []
theorem sc1 : FnScope ["self", "most"] ["self", "most"] d1.scope := ⟨by kernel_rfl, by kernel_rfl, by kernel_rfl, by decide +kernel, by kernel_rfl, by decide +kernel, by decide +kernel⟩
theorem tr1 : cSs (cS T ["self", "most"] d1.scope (cE T ["self", "most"] fuel d1.scope) fuel) d1.body = some b_TooLarge___init__ := by kernel_rfl
def d2 : He.DefD := defD (inCls (top 12) 0) ("NoText", some "__init__") "__init__" "NoText.__init__" []
theorem sc2 : FnScope ["self", "row"] ["self", "row"] d2.scope := ⟨by kernel_rfl, by kernel_rfl, by kernel_rfl, by decide +kernel, by kernel_rfl, by decide +kernel, by decide +kernel⟩
theorem tr2 : cSs (cS T ["self", "row"] d2.scope (cE T ["self", "row"] fuel d2.scope) fuel) d2.body = some b_NoText___init__ := by kernel_rfl
def d3 : He.DefD := defD (top 14) ("_law_begin", none) "_law_begin" "_law_begin" []
theorem sc3 : FnScope ["_law_script", "_law_cells", "_law_cell"] ["_law_script"] d3.scope := ⟨by kernel_rfl, by kernel_rfl, by kernel_rfl, by decide +kernel, by kernel_rfl, by decide +kernel, by decide +kernel⟩
theorem tr3 : cSs (cS T ["_law_script", "_law_cells", "_law_cell"] d3.scope (cE T ["_law_script", "_law_cells", "_law_cell"] fuel d3.scope) fuel) d3.body = some b__law_begin := by kernel_rfl
def d4 : He.DefD := defD (top 15) ("_law_draw", none) "_law_draw" "_law_draw" []
theorem sc4 : FnScope ["_law_state", "_law_size", "_law_found", "_law_turn", "_law_cell", "_law_mixed"] ["_law_state", "_law_size"] d4.scope := ⟨by kernel_rfl, by kernel_rfl, by kernel_rfl, by decide +kernel, by kernel_rfl, by decide +kernel, by decide +kernel⟩
theorem tr4 : cSs (cS T ["_law_state", "_law_size", "_law_found", "_law_turn", "_law_cell", "_law_mixed"] d4.scope (cE T ["_law_state", "_law_size", "_law_found", "_law_turn", "_law_cell", "_law_mixed"] fuel d4.scope) fuel) d4.body = some b__law_draw := by kernel_rfl
def d5 : He.DefD := defD (top 16) ("_law_pick", none) "_law_pick" "_law_pick" []
theorem sc5 : FnScope ["_law_state", "_law_some"] ["_law_state", "_law_some"] d5.scope := ⟨by kernel_rfl, by kernel_rfl, by kernel_rfl, by decide +kernel, by kernel_rfl, by decide +kernel, by decide +kernel⟩
theorem tr5 : cSs (cS T ["_law_state", "_law_some"] d5.scope (cE T ["_law_state", "_law_some"] fuel d5.scope) fuel) d5.body = some b__law_pick := by kernel_rfl
def d6 : He.DefD := defD (top 17) ("_law_marks", none) "_law_marks" "_law_marks" []
theorem sc6 : FnScope ["_law_error", "_law_marks_here"] ["_law_error"] d6.scope := ⟨by kernel_rfl, by kernel_rfl, by kernel_rfl, by decide +kernel, by kernel_rfl, by decide +kernel, by decide +kernel⟩
theorem tr6 : cSs (cS T ["_law_error", "_law_marks_here"] d6.scope (cE T ["_law_error", "_law_marks_here"] fuel d6.scope) fuel) d6.body = some b__law_marks := by kernel_rfl
def d7 : He.DefD := defD (top 18) ("_law_all", none) "_law_all" "_law_all" []
theorem sc7 : FnScope ["_law_word", "_law_number", "_law_some"] ["_law_word", "_law_number"] d7.scope := ⟨by kernel_rfl, by kernel_rfl, by kernel_rfl, by decide +kernel, by kernel_rfl, by decide +kernel, by decide +kernel⟩
theorem tr7 : cSs (cS T ["_law_word", "_law_number", "_law_some"] d7.scope (cE T ["_law_word", "_law_number", "_law_some"] fuel d7.scope) fuel) d7.body = some b__law_all := by kernel_rfl
def d8 : He.DefD := defD (top 19) ("law", none) "law" "law" []
theorem sc8 : FnScope ["_law_script", "_law_state", "_law_turn", "_law_number", "_law_some", "_law_place", "_law_error", "_law_k", "_law_fields"] ["_law_script"] d8.scope := ⟨by kernel_rfl, by kernel_rfl, by kernel_rfl, by decide +kernel, by kernel_rfl, by decide +kernel, by decide +kernel⟩
theorem tr8 : cSs (cS T ["_law_script", "_law_state", "_law_turn", "_law_number", "_law_some", "_law_place", "_law_error", "_law_k", "_law_fields"] d8.scope (cE T ["_law_script", "_law_state", "_law_turn", "_law_number", "_law_some", "_law_place", "_law_error", "_law_k", "_law_fields"] fuel d8.scope) fuel) d8.body = some b_law := by kernel_rfl
theorem df0 : DefOk T fuel (funs.getD 0 fi0) d0 := ⟨rfl, sc0, tr0, rfl, rfl, fun K fd F => ⟨bind0 F rfl fun kV doc pm an cdv ct us hl => match us, hl with | [_, _], _ => by kernel_rfl, fun _ _ => kb0 (a := "self") (b := "at") F fun kV doc pm an cdv ct u v => by kernel_rfl⟩⟩
theorem df1 : DefOk T fuel (funs.getD 1 fi0) d1 := ⟨rfl, sc1, tr1, rfl, rfl, fun K fd F => ⟨bind0 F rfl fun kV doc pm an cdv ct us hl => match us, hl with | [_, _], _ => by kernel_rfl, fun _ _ => kb0 (a := "self") (b := "most") F fun kV doc pm an cdv ct u v => by kernel_rfl⟩⟩
theorem df2 : DefOk T fuel (funs.getD 2 fi0) d2 := ⟨rfl, sc2, tr2, rfl, rfl, fun K fd F => ⟨bind0 F rfl fun kV doc pm an cdv ct us hl => match us, hl with | [_, _], _ => by kernel_rfl, fun _ _ => kb0 (a := "self") (b := "row") F fun kV doc pm an cdv ct u v => by kernel_rfl⟩⟩
theorem df3 : DefOk T fuel (funs.getD 3 fi0) d3 := ⟨rfl, sc3, tr3, rfl, rfl, fun K fd F => ⟨bind0 F rfl fun kV doc pm an cdv ct us hl => match us, hl with | [_], _ => by kernel_rfl, fun h1 h2 => absurd h1 (by decide)⟩⟩
theorem df4 : DefOk T fuel (funs.getD 4 fi0) d4 := ⟨rfl, sc4, tr4, rfl, rfl, fun K fd F => ⟨bind0 F rfl fun kV doc pm an cdv ct us hl => match us, hl with | [_, _], _ => by kernel_rfl, fun _ _ => kb0 (a := "_law_state") (b := "_law_size") F fun kV doc pm an cdv ct u v => by kernel_rfl⟩⟩
theorem df5 : DefOk T fuel (funs.getD 5 fi0) d5 := ⟨rfl, sc5, tr5, rfl, rfl, fun K fd F => ⟨bind0 F rfl fun kV doc pm an cdv ct us hl => match us, hl with | [_, _], _ => by kernel_rfl, fun _ _ => kb0 (a := "_law_state") (b := "_law_some") F fun kV doc pm an cdv ct u v => by kernel_rfl⟩⟩
theorem df6 : DefOk T fuel (funs.getD 6 fi0) d6 := ⟨rfl, sc6, tr6, rfl, rfl, fun K fd F => ⟨bind0 F rfl fun kV doc pm an cdv ct us hl => match us, hl with | [_], _ => by kernel_rfl, fun h1 h2 => absurd h1 (by decide)⟩⟩
theorem df7 : DefOk T fuel (funs.getD 7 fi0) d7 := ⟨rfl, sc7, tr7, rfl, rfl, fun K fd F => ⟨bind0 F rfl fun kV doc pm an cdv ct us hl => match us, hl with | [_, _], _ => by kernel_rfl, fun _ _ => kb0 (a := "_law_word") (b := "_law_number") F fun kV doc pm an cdv ct u v => by kernel_rfl⟩⟩
theorem df8 : DefOk T fuel (funs.getD 8 fi0) d8 := ⟨rfl, sc8, tr8, rfl, rfl, fun K fd F => ⟨bind0 F rfl fun kV doc pm an cdv ct us hl => match us, hl with | [_], _ => by kernel_rfl, fun h1 h2 => absurd h1 (by decide)⟩⟩
def fn : List He.DefD := [d0, d1, d2, d3, d4, d5, d6, d7, d8]
theorem stat : Stat T fuel fn where
  nd := by decide +kernel
  ln := rfl
  df := fun i fi d h1 h2 => match i, h1, h2 with
    | 0, h1, h2 => by cases h1; cases h2; exact df0
    | 1, h1, h2 => by cases h1; cases h2; exact df1
    | 2, h1, h2 => by cases h1; cases h2; exact df2
    | 3, h1, h2 => by cases h1; cases h2; exact df3
    | 4, h1, h2 => by cases h1; cases h2; exact df4
    | 5, h1, h2 => by cases h1; cases h2; exact df5
    | 6, h1, h2 => by cases h1; cases h2; exact df6
    | 7, h1, h2 => by cases h1; cases h2; exact df7
    | 8, h1, h2 => by cases h1; cases h2; exact df8
    | n + 9, h1, _ => nomatch h1
end K00
end
section
set_option linter.all false
set_option maxRecDepth 100000
set_option maxHeartbeats 4000000
namespace Z
open PySem PySem.Spec PyProof.Rows L2
section
variable {P : Program} {w : World} {K : PySem.W.Frag} {mg : Str → Option Value} {base : Heap} {T : Tab} {fuel : Nat}
/-- the f-th def keeps its promise, whichever datum tells it -/
theorem fn_okZ (A : ProgS P w K mg T fuel) {k f : Nat} {fi : FunInfo} {fd : FuncData} {d : Src} {dvs : List V} (h : T.funs[f]? = some fi) (F : FunD K d.name d.qual d.params d.body d.scope dvs [] (zAd K fi.place) fd) (S : FnScope fi.N fi.ps d.scope)
    (hc : cSs (cS T fi.N d.scope (cE T fi.N fuel d.scope) fuel) d.body = some fi.body) : FnOk P w K mg base (L2.CX P w) (2 * (k + 1)) (zAd K fi.place) fd fi.ps (spF P w K T.toNames (wCall T (k + 1)) fi.np f) := by
  have PR : Prog P w K mg base T (wCall T k) (2 * k) := prog_ok A k
  refine FunD.ok (k := 2 * k + 1) F S (fun vs H Q E h' => h'.1.trans (A.len f fi h).symm) fun cdv A' outer s H vs Q E hr hsp => ?_
  obtain ⟨hl, ρ, ds, st, r, rd, z⟩ := hsp
  unfold wCall at z
  rw [h] at z
  dsimp only at z
  have g : GdS (cxOf (L2.CX P w) P w K mg base fi.N d.qual d.scope (zAd K fi.place) cdv A' outer s H E) T (wCall T k) fi.N d.scope (fun cls dd _ H => E cls dd H) (2 * k) :=
    { nm := rfl, sc := rfl, nd := S.nd, calm := rfl, room := hr, tk := takes_of rfl rfl rfl rfl, pr := PR, pas := passes_of (K := fun e s'' => L2.CX P w outer H s E e s'') rfl, fn := fun _ => rfl, kind := S.kind }
  refine ⟨_, s_sss g.toGd (fun st s' h => sS g (f_ok g.toGd fuel) fuel st s' h) _ _ hc, ρ, _, st, r, sl_start rd, g.mS fi.body ?_ z.2⟩
  exact ⟨fun σ s h ρ' H' σv e r' s' => h ρ' H' .non e r' .non, fun dd s h => h, fun σ s h => h.elim, fun σ s h => h.elim, fun x σ s h ρ' H' σv c dd e r' s' rx => h ρ' H' c dd e r' rx⟩
end
/-- the law's end -/
theorem walkZ {l : PySem.W.OpenLaw} {T : Tab} {fuel m k i : Nat} {fn : List He.DefD} {fi : FunInfo} {dd : He.DefD} {q : Program} {loose : List Str} {XP : (Str → Option Value) → Heap → Prop} {YP : World → Heap → Prop} {d : DefRec} {x nm : Str} {M : Nat}
    (hn : l.most = some m) (hn2 : m ≤ sizeLine) (hdf : d.params.defaults = []) (hk : k ≤ M) (hr : Room (2 * (M + 1)) callerA) (hY : ∀ w h, YP w h → ∃ K : PySem.W.Frag, K.In h ∧ SaysZ fn (fzT T) K) (S : Stat T fuel fn)
    (hi : T.funs[i]? = some fi) (hd : fn[i]? = some dd) (hp : fi.place = (nm, none)) (hname : d.name = nm) (hps : fi.ps = [x]) (hdd : dd.dfl = [])
    (hb : ∀ (kV doc pm : Value) (an : Option Addr) (cdv ct : Value) (us : List Value), us.length = [x].length → bindArgs (PySem.W.fnOf dd.name dd.qual dd.params dd.body dd.scope .none kV doc pm an cdv ct) ⟨us, []⟩ = pure ([x].zip us))
    (law : ∀ ns : List Int, ns.length ≤ m → wCall T (k + 1) i [.fro (ns.map .int)] [] (fun d _ => d = .bl true) (fun _ _ => False)) :
    PySem.W.WalkO q loose XP YP l.row.toRowW d [] (fun f vs => PySem.call f vs) := by
  refine Att.attach_call hn hdf fun w s₀ s₁ mg mb fa o pm cd doc a vs ns G Y ho hg1 hcd hmg hobj hints hlen hg => ?_
  obtain ⟨K, KX, c⟩ := hY w _ Y
  have A : ProgS l.prog w K mg T fuel := progS_of KX G.T.g c S
  have D := S.df i fi dd hi hd
  obtain ⟨fd, F⟩ := c.def_ i hd
  have e1 : dd.kws K = [] := by unfold He.DefD.kws; rw [D.kw]; rfl
  have e2 : dd.dvs K = [] := by unfold He.DefD.dvs; rw [hdd]; rfl
  rw [e1, e2] at F
  have hfa : fa = zAd K fi.place := by
    have q1 := A.fnG i fi nm hi hp
    have q2 : mg nm = some (.ref fa) := by rw [← hname]; exact hmg
    rw [q2] at q1
    cases q1; rfl
  subst hfa
  have hF : ∀ base : Heap, K.In base → base.Ns mainGlobals mg → FnOk l.prog w K mg base (L2.CX l.prog w) (2 * (k + 1)) (zAd K fi.place) fd [x] (spF l.prog w K T.toNames (wCall T (k + 1)) fi.np i) := fun base _ _ => by
    rw [← hps]
    exact fn_okZ A (d := ⟨dd.name, dd.qual, dd.params, dd.body, dd.scope⟩) hi (by rw [← D.at_]; exact F) D.sc D.tr
  have hnp : fi.np = 1 := by rw [← D.np, hps]; rfl
  refine law_call KX G.T.g G.T.b G.T.builtins G.T.nolimit hg hobj hints (Nat.le_trans hlen hn2) (hr.mono (by omega)) hF (fun s u => (F.bindsA hb) s [u] rfl) (fun H hO hS => ?_) fun H e s' hc => ?_
  · refine ⟨hnp ▸ rfl, [], [.fro (ns.map .int)], [], ⟨rfl, List.nodup_nil, fun i o a h1 _ => by simp at h1⟩, ⟨.ref a, [], rfl, ⟨a, ns.map V.int, rfl, ?_, ?_⟩, rfl⟩, ?_⟩
    · rcases hS with h1 | h1
      · rcases hO a with h2 | ⟨o, xs, h2⟩
        · rcases h1 with h1 | ⟨o, h1⟩
          · rw [h2] at h1; cases h1
          · rw [h2] at h1; cases h1
        · rcases h1 with h1 | ⟨o', h1⟩
          · rw [h2] at h1; cases h1
          · exact .inl ⟨o', h1⟩
      · exact .inr h1
    · clear law hS hlen hints
      induction ns with
      | nil => rfl
      | cons n ns ih => exact ⟨_, _, rfl, rfl, ih⟩
    · refine monC (k + 1) _ _ _ _ _ _ _ (fun d st' e => ?_) (fun x st' e => e.elim) (law ns hlen)
      subst e
      exact fun ρ' H' v _ _ rd => rd
  · obtain ⟨_, _, _, _, _, _, _, _, _, _, _, _, z⟩ := hc
    exact z
end Z
end
section
set_option linter.all false
set_option maxRecDepth 100000
set_option maxHeartbeats 4000000
namespace Z
open PySem PySem.Spec PyProof.Rows L2
/-- a def of the table: without defaults -/
structure Has (T : Tab) (f np n : Nat) (b : S) : Prop where
  ex : ∃ fi, T.funs[f]? = some fi ∧ fi.np = np ∧ fi.N.length = n ∧ fi.body = b
section
variable {T : Tab} {k f np n : Nat} {b : S} {ds : List D} {st : Sto} {Q : QE} {X : XP}
theorem Has.call (h : Has T f np n b) (hl : ds.length = np) (hw : wS T (wCall T k) b (ds.map some ++ List.replicate (n - ds.length) none) st { nx := fun _ st' => Q .non st', rt := Q, bk := fun _ _ => False, ct := fun _ _ => False, xc := fun x _ st' => X x st' }) : wCall T (k + 1) f ds st Q X := by
  obtain ⟨fi, h1, h2, h3, h4⟩ := h.ex
  subst h2 h3 h4
  exact call_ok h1 hl hw
theorem Has.callF {C : CallS} (h : Has T f np n b) (hl : ds.length = np) (hw : C f ds st Q X) : callF T C f ds st Q X := by
  obtain ⟨fi, h1, h2, h3, h4⟩ := h.ex
  exact callF_ok h1 (hl.trans h2.symm) hw
end
/-! ## the draws, in their first form -/
def bBeginA : S :=
  (.cons (.asg (.name 1) (.lc [2] (.name 2) (.seq (.var 0)) (.op .abs [.var 2])))
  (.cons (.ret (.ddisp [.cst (.str "large"), .lcif [2] (.name 2) (.seq (.var 1)) (.op .ge [.var 2, .op .pow [.cst (.int 10), .cst (.int 18)]]) (.op .sub [.var 2, .op .pow [.cst (.int 10), .cst (.int 18)]]), .cst (.str "cells"), .var 1, .cst (.str "rest"), .cst (.int 0), .cst (.str "turn"), .cst (.int 0)])) .nil))
def bDrawA : S :=
  (.cons (.whl (.and (.op .eq [.op .ix [.var 0, .cst (.str "rest")], .cst (.int 0)]) (.op .ne [.op .ix [.var 0, .cst (.str "large")], .op .lst []]))
    (.cons (.asgS (.var 0) (.cst (.str "rest")) (.bm .popAt (.op .ix [.var 0, .cst (.str "large")]) [.cst (.int 0)])) .nil))
  (.cons (.ife (.op .gt [.op .ix [.var 0, .cst (.str "rest")], .cst (.int 0)])
    (.cons (.asg (.name 2) (.op .mod [.op .int [.op .ix [.var 0, .cst (.str "rest")]], .var 1]))
    (.cons (.asgS (.var 0) (.cst (.str "rest")) (.op .fdiv [.op .ix [.var 0, .cst (.str "rest")], .var 1]))
    (.cons (.ret (.var 2)) .nil)))
    .nil)
  (.cons (.asg (.name 3) (.op .add [.op .ix [.var 0, .cst (.str "turn")], .cst (.int 1)]))
  (.cons (.asgS (.var 0) (.cst (.str "turn")) (.var 3))
  (.cons (.asg (.name 4) (.ifx (.op .ne [.op .ix [.var 0, .cst (.str "cells")], .op .lst []]) (.op .ix [.op .ix [.var 0, .cst (.str "cells")], .op .mod [.op .int [.var 3], .op .len [.op .ix [.var 0, .cst (.str "cells")]]]]) (.cst (.int 0))))
  (.cons (.asg (.name 5) (.op .mod [.op .int [.op .pow [.op .add [.op .add [.op .mod [.op .int [.var 4], .cst (.int 2147483629)], .op .mul [.cst (.int 69621), .var 3]], .cst (.int 12345)], .cst (.int 3)]], .cst (.int 2147483647)]))
  (.cons (.ret (.op .mod [.op .int [.op .fdiv [.op .mod [.op .int [.op .pow [.op .add [.var 5, .op .mul [.cst (.int 104729), .var 3]], .cst (.int 5)]], .cst (.int 2147483587)], .cst (.int 13)]], .var 1])) .nil)))))))
def bPickA (draw : Nat) : S :=
  (.cons (.ret (.op .ix [.var 1, .call draw [.var 0, .op .len [.var 1]]])) .nil)
def dA (g c : Nat) (l t : Int) : List (D × D) := [(.str "large", .ref g), (.str "cells", .ref c), (.str "rest", .int l), (.str "turn", .int t)]
/-- the source of draws at i; n: at most so many draws so far -/
structure DrA (i g c n : Nat) (st : Sto) : Prop where
  ne : g ≠ c
  di : ∃ l t : Int, st[i]? = some (.dic (dA g c l t)) ∧ 0 ≤ l ∧ 0 ≤ t ∧ t ≤ n
  la : ∃ xs : List Int, st[g]? = some (.lst (xs.map .int)) ∧ ∀ x ∈ xs, 0 ≤ x
  ce : ∃ ys : List Int, st[c]? = some (.lst (ys.map .int))
section
variable {st : Sto} {Q : QE} {i g c n : Nat} {l t : Int}
theorem kf (x : Str) : keyFits (dA g c l t) (.str x) = true := by simp [keyFits, dA, flat, keyOf]
theorem dA_rest : dget (dA g c l t) (.str "rest") = some (.int l) := by kernel_rfl
theorem dA_turn : dget (dA g c l t) (.str "turn") = some (.int t) := by kernel_rfl
theorem dA_large : dget (dA g c l t) (.str "large") = some (.ref g) := by kernel_rfl
theorem dA_cells : dget (dA g c l t) (.str "cells") = some (.ref c) := by kernel_rfl
theorem dA_setR {l' : Int} : dset (dA g c l t) (.str "rest") (.int l') = dA g c l' t := by kernel_rfl
theorem dA_setT {t' : Int} : dset (dA g c l t) (.str "turn") (.int t') = dA g c l t' := by kernel_rfl
theorem oks_int (xs : List Int) : D.oks (xs.map .int) = true := oks_all.mpr fun d hd => by
  obtain ⟨x, _, rfl⟩ := List.mem_map.mp hd; rfl
theorem nbs_int (xs : List Int) : D.nbs (xs.map .int) = true := nbs_all.mpr fun d hd => by
  obtain ⟨x, _, rfl⟩ := List.mem_map.mp hd; rfl
theorem deps_int (xs : List Int) {m : Nat} : D.deps (xs.map .int) ≤ m := deps_le.mpr fun d hd => by
  obtain ⟨x, _, rfl⟩ := List.mem_map.mp hd; simp [D.dep]
end
end Z
end
section
set_option linter.all false
set_option maxRecDepth 100000
set_option maxHeartbeats 4000000
namespace Z
open PySem PySem.Spec PyProof.Rows L2
section
variable {T : Tab} {C : CallS}
theorem cons_ok {a b : S} {σ : Loc} {st : Sto} {D' : EndS} (h : wS T C a σ st { D' with nx := fun σ' st' => wS T C b σ' st' D' }) : wS T C (.cons a b) σ st D' := by
  unfold wS; exact h
theorem seq_ok (hC : MonC C) (R : Loc → Sto → Prop) {a b : S} {σ : Loc} {st : Sto} {D' : EndS} (h : wS T C a σ st { D' with nx := R }) (h2 : ∀ σ' st', R σ' st' → wS T C b σ' st' D') : wS T C (.cons a b) σ st D' := by
  refine cons_ok (mS hC a _ _ _ _ ?_ h)
  exact ⟨h2, fun _ _ z => z, fun _ _ z => z, fun _ _ z => z, fun _ _ _ z => z⟩
end
theorem p_popAt0I {st : Sto} {Q : QE} {i : Nat} {x : Int} {l : List Int} (hi : st[i]? = some (.lst ((x :: l).map .int))) : prim .popAt [.ref i, .int 0] st Q = Q (.int x) (st.set i (.lst (l.map .int))) := p_popAt0 (x := .int x) hi
theorem len0 : ([] : List D).length ≤ sizeLine := by decide
section
variable {T : Tab} {k f : Nat} {st : Sto} {Q : QE} {X : XP} {i g c n : Nat}
def lenAt (s : Sto) (g : Nat) : Nat := match s[g]? with
  | some (.lst l) => l.length
  | _ => 0
theorem lenAt_of {s : Sto} {g : Nat} {l : List D} (h : s[g]? = some (.lst l)) : lenAt s g = l.length := by unfold lenAt; rw [h]
theorem eqD_ints {s : Sto} {i j : Nat} {xs ys : List Int} (h1 : s[i]? = some (.lst (xs.map .int))) (h2 : s[j]? = some (.lst (ys.map .int))) : eqD s (.ref i) (.ref j) = some (decide (xs = ys)) := by
  rw [eqD_lst_nb h1 h2 (oks_int _) (oks_int _) (deps_int _) (deps_int _) (nbs_int _) (nbs_int _)]
  congr 1
  rw [Bool.eq_iff_iff, decide_eq_true_eq, decide_eq_true_eq]
  exact ⟨fun h => List.map_inj_right (fun a b e => by cases e; rfl) |>.mp h, fun h => by rw [h]⟩
namespace DrA
theorem push (D : DrA i g c n st) (l : Sto) : DrA i g c n (st ++ l) := by
  obtain ⟨l1, t, hd, hl, ht, htn⟩ := D.di
  obtain ⟨xs, hg, hx⟩ := D.la
  obtain ⟨ys, hc⟩ := D.ce
  exact ⟨D.ne, ⟨l1, t, (Upd.push (M := []) l).at_ hd (by simp), hl, ht, htn⟩, ⟨xs, (Upd.push (M := []) l).at_ hg (by simp), hx⟩, ⟨ys, (Upd.push (M := []) l).at_ hc (by simp)⟩⟩
theorem upd {st' : Sto} {M : List Nat} (D : DrA i g c n st) (u : Upd M st st') (h1 : i ∉ M) (h2 : g ∉ M) (h3 : c ∉ M) : DrA i g c n st' := by
  obtain ⟨l1, t, hd, hl, ht, htn⟩ := D.di
  obtain ⟨xs, hg, hx⟩ := D.la
  obtain ⟨ys, hc⟩ := D.ce
  exact ⟨D.ne, ⟨l1, t, u.at_ hd h1, hl, ht, htn⟩, ⟨xs, u.at_ hg h2, hx⟩, ⟨ys, u.at_ hc h3⟩⟩
theorem mono {m : Nat} (D : DrA i g c n st) (h : n ≤ m) : DrA i g c m st := by
  obtain ⟨l1, t, hd, hl, ht, htn⟩ := D.di
  exact ⟨D.ne, ⟨l1, t, hd, hl, ht, by omega⟩, D.la, D.ce⟩
theorem lt (D : DrA i g c n st) : i < st.length ∧ g < st.length ∧ c < st.length := by
  obtain ⟨l1, t, hd, hl, ht, htn⟩ := D.di
  obtain ⟨xs, hg, hx⟩ := D.la
  obtain ⟨ys, hc⟩ := D.ce
  exact ⟨lt_of_at hd, lt_of_at hg, lt_of_at hc⟩
/-- another object is none of its own -/
theorem ne_i {j : Nat} {l : List D} (D : DrA i g c n st) (h : st[j]? = some (.lst l)) : j ≠ i := by
  obtain ⟨l1, t, hd, hl, ht, htn⟩ := D.di
  exact ne_at h hd (by simp)
theorem setI {m : Nat} {l' t' : Int} (D : DrA i g c n st) (hl : 0 ≤ l') (ht : 0 ≤ t') (hm : t' ≤ m) : DrA i g c m (st.set i (.dic (dA g c l' t'))) := by
  obtain ⟨l1, t, hd, _⟩ := D.di
  obtain ⟨xs, hg, hx⟩ := D.la
  obtain ⟨ys, hc⟩ := D.ce
  have h1 : i ≠ g := ne_at hd hg (by simp)
  have h2 : i ≠ c := ne_at hd hc (by simp)
  exact ⟨D.ne, ⟨l', t', at_set hd, hl, ht, hm⟩, ⟨xs, by rw [set_ne h1]; exact hg, hx⟩, ⟨ys, by rw [set_ne h2]; exact hc⟩⟩
theorem setG {xs : List Int} (D : DrA i g c n st) (hx : ∀ x ∈ xs, 0 ≤ x) : DrA i g c n (st.set g (.lst (xs.map .int))) := by
  obtain ⟨l1, t, hd, hl, ht, htn⟩ := D.di
  obtain ⟨xs', hg, _⟩ := D.la
  obtain ⟨ys, hc⟩ := D.ce
  have h1 : g ≠ i := ne_at hg hd (by simp)
  exact ⟨D.ne, ⟨l1, t, by rw [set_ne h1]; exact hd, hl, ht, htn⟩, ⟨xs, at_set hg, hx⟩, ⟨ys, by rw [set_ne D.ne]; exact hc⟩⟩
end DrA
theorem fmod_lt {a b : Int} (h : 0 < b) : 0 ≤ a.fmod b ∧ a.fmod b < b := ⟨Int.fmod_nonneg_of_pos a h, Int.fmod_lt_of_pos a h⟩
theorem draw_okA (h : Has T f 2 6 bDrawA) (D : DrA i g c n st) (hn : n < 2 ^ 40) {size : Int} (h1 : 0 < size) (h2 : size < 2 ^ 30) (q : ∀ r st', 0 ≤ r → r < size → Upd [i, g] st st' → DrA i g c (n + 1) st' → Q (.int r) st') : wCall T (k + 1) f [.ref i, .int size] st Q X := by
  refine h.call rfl ?_
  show wS T (wCall T k) bDrawA [some (.ref i), some (.int size), none, none, none, none] st _
  unfold bDrawA
  refine seq_ok (monC k) (fun σ s => σ = [some (.ref i), some (.int size), none, none, none, none] ∧ Upd [i, g] st s ∧ DrA i g c n s) (whl_ok (fun σ s => σ = [some (.ref i), some (.int size), none, none, none, none] ∧ Upd [i, g] st s ∧ DrA i g c n s) (fun _ s => lenAt s g) ⟨rfl, .refl, D⟩ ?_ (monC k)) ?_
  · rintro _ s ⟨rfl, u, D⟩
    obtain ⟨l, t, hd, hl, ht, htn⟩ := D.di
    obtain ⟨xs, hg, hx⟩ := D.la
    have e1 : ∀ {Q : QE}, prim .ix [.ref i, .str "rest"] s Q = Q (.int l) s := p_ixD hd (kf _) dA_rest
    have e2 : ∀ {Q : QE}, prim .ix [.ref i, .str "large"] s Q = Q (.ref g) s := p_ixD hd (kf _) dA_large
    have u1 : Upd [i, g] s (s ++ [.lst []]) := .push _
    have D1 := D.push [.lst []]
    have hg1 := (Upd.push (M := []) (a := s) [.lst []]).at_ hg (by simp)
    have hd1 := (Upd.push (M := []) (a := s) [.lst []]).at_ hd (by simp)
    have e3 : ∀ {Q : QE}, prim .ne [.ref g, .ref s.length] (s ++ [.lst []]) Q = Q (.bl (!decide (xs = []))) (s ++ [.lst []]) := p_ne (eqD_ints hg1 (ys := []) at_push)
    have e4 : ∀ {Q : QE}, prim .ix [.ref i, .str "large"] (s ++ [.lst []]) Q = Q (.ref g) (s ++ [.lst []]) := p_ixD hd1 (kf _) dA_large
    simp only [wE, wEs, List.getElem?_cons_zero, e1, e2, p_eqI, bl2_b, decide_eq_true_eq, p_lst len0, e3]
    split
    · cases xs with
      | nil =>
        simp only [decide_true, Bool.not_true, Bool.false_eq_true, if_false]
        exact ⟨trivial, u.trans u1, D1⟩
      | cons x xs =>
        have hx0 : 0 ≤ x := hx x (List.mem_cons_self ..)
        have D2 := D1.setG (xs := xs) fun y hy => hx y (List.mem_cons_of_mem _ hy)
        have D3 := D2.setI (m := n) hx0 ht htn
        have h3 : g ≠ i := ne_at hg hd (by simp)
        have hd2 : ((s ++ [O.lst []]).set g (.lst (xs.map .int)))[i]? = some (.dic (dA g c l t)) := by rw [set_ne h3]; exact hd1
        have hlt : (dA g c l t).length < sizeLine := by show 4 < _; decide
        simp only [reduceCtorEq, decide_false, Bool.not_false, if_true]
        refine cons_ok ?_
        simp only [wS, wE, wEs, List.getElem?_cons_zero, e4, recvOk, isLst, hg1, p_popAt0I hg1, hd2, dA_setR, kf, hlt, true_and]
        refine ⟨⟨?_, D3⟩, ?_⟩
        · exact u.trans (u1.trans ((Upd.set (by simp)).trans (Upd.set (by simp))))
        · rw [lenAt_of hg, lenAt_of (l := xs.map .int) (by rw [set_ne (Ne.symm h3)]; exact at_set hg1)]
          simp
    · exact ⟨trivial, u, D⟩
  · rintro _ s ⟨rfl, u, D⟩
    obtain ⟨l, t, hd, hl, ht, htn⟩ := D.di
    obtain ⟨ys, hc⟩ := D.ce
    have e1 : ∀ {Q : QE}, prim .ix [.ref i, .str "rest"] s Q = Q (.int l) s := p_ixD hd (kf _) dA_rest
    have e2 : ∀ {Q : QE}, prim .ix [.ref i, .str "turn"] s Q = Q (.int t) s := p_ixD hd (kf _) dA_turn
    have hlt : ∀ l t, (dA g c l t).length < sizeLine := fun l t => by show 4 < _; decide
    have hs0 : size ≠ 0 := by omega
    have hcd : CDivN l size := ⟨hs0, by omega⟩
    have e5 : ∀ {Q : QE}, prim .fdiv [.int l, .int size] s Q = Q (.int (l.fdiv size)) s := p_fdiv hcd
    refine cons_ok ?_
    simp only [wS, wE, wEs, List.getElem?_cons_zero, List.getElem?_cons_succ, e1, e2, p_gt, bl2_b, decide_eq_true_eq, p_int, p_mod hs0, e5, wTg, List.set_cons_zero, List.set_cons_succ, hd, dA_setR, dA_setT, kf, hlt, true_and, p_add]
    split
    · exact q _ _ (fmod_lt h1).1 (fmod_lt h1).2 (u.trans (Upd.set (by simp))) (D.setI (Int.fdiv_nonneg hl (by omega)) ht (by omega))
    · have D2 := D.setI (m := n + 1) hl (t' := t + 1) (by omega) (by omega)
      have u2 : Upd [i, g] st (s.set i (.dic (dA g c l (t + 1)))) := u.trans (Upd.set (by simp))
      have hc2 : (s.set i (.dic (dA g c l (t + 1))))[c]? = some (.lst (ys.map .int)) := by rw [set_ne (ne_at hd hc (by simp))]; exact hc
      have hd2 : (s.set i (.dic (dA g c l (t + 1))))[i]? = some (.dic (dA g c l (t + 1))) := at_set hd
      generalize s.set i (.dic (dA g c l (t + 1))) = s2 at *
      have hd3 := (Upd.push (M := []) (a := s2) [.lst []]).at_ hd2 (by simp)
      have hc3 := (Upd.push (M := []) (a := s2) [.lst []]).at_ hc2 (by simp)
      have ht1 : 0 ≤ t + 1 ∧ t + 1 ≤ 2 ^ 40 := by omega
      generalize ht2 : t + 1 = t1 at *
      have D3 : DrA i g c (n + 1) (s2 ++ [.lst []]) := D2.push _
      have u3 : Upd [i, g] st (s2 ++ [.lst []]) := u2.trans (.push _)
      have e6 : ∀ {Q : QE}, prim .ix [.ref i, .str "cells"] s2 Q = Q (.ref c) s2 := p_ixD hd2 (kf _) dA_cells
      have e7 : ∀ {Q : QE}, prim .ix [.ref i, .str "cells"] (s2 ++ [.lst []]) Q = Q (.ref c) (s2 ++ [.lst []]) := p_ixD hd3 (kf _) dA_cells
      have e8 : ∀ {Q : QE}, prim .ne [.ref c, .ref s2.length] (s2 ++ [.lst []]) Q = Q (.bl (!decide (ys = []))) (s2 ++ [.lst []]) := p_ne (eqD_ints hc3 (ys := []) at_push)
      have m1 : ∀ {s' : Sto} {Q : QE}, prim .mul [.int 69621, .int t1] s' Q = Q (.int (69621 * t1)) s' := p_mul (.inl (by decide))
      have m2 : ∀ {s' : Sto} {Q : QE}, prim .mul [.int 104729, .int t1] s' Q = Q (.int (104729 * t1)) s' := p_mul (.inl (by decide))
      have w1 : ∀ {v : Int} {s' : Sto} {Q : QE}, prim .pow [.int (v.fmod 2147483629 + 69621 * t1 + 12345), .int 3] s' Q = Q (.int ((v.fmod 2147483629 + 69621 * t1 + 12345) ^ (3 : Int).toNat)) s' := fun {v s' Q} =>
        p_pow ⟨by decide, by decide, by have := fmod_lt (a := v) (b := 2147483629) (by decide); omega⟩
      have w2 : ∀ {v : Int} {s' : Sto} {Q : QE}, prim .pow [.int (v.fmod 2147483647 + 104729 * t1), .int 5] s' Q = Q (.int ((v.fmod 2147483647 + 104729 * t1) ^ (5 : Int).toNat)) s' := fun {v s' Q} =>
        p_pow ⟨by decide, by decide, by have := fmod_lt (a := v) (b := 2147483647) (by decide); omega⟩
      have f1 : ∀ {v : Int} {s' : Sto} {Q : QE}, prim .fdiv [.int v, .int 13] s' Q = Q (.int (v.fdiv 13)) s' := p_fdiv ⟨by decide, by decide⟩
      have n1 : (2147483629 : Int) ≠ 0 := by decide
      have n2 : (2147483647 : Int) ≠ 0 := by decide
      have n3 : (2147483587 : Int) ≠ 0 := by decide
      simp only [e6, e7, e8, p_lst len0, bl2_b, p_lenL hc3, List.length_map]
      cases ys with
      | nil =>
        simp only [decide_true, Bool.not_true, Bool.false_eq_true, if_false, p_int, p_mod n1, p_mod n2, p_mod n3, p_mod hs0, p_add, m1, m2, w1, w2, f1]
        exact q _ _ (fmod_lt h1).1 (fmod_lt h1).2 u3 D3
      | cons y ys =>
        have hy : ((y :: ys).length : Int) ≠ 0 := by simp only [List.length_cons]; omega
        have hy2 := fmod_lt (a := t1) (b := ((y :: ys).length : Int)) (by simp only [List.length_cons]; omega)
        have ha : atI ((y :: ys).map Z.D.int) (t1.fmod ((y :: ys).length : Int)) = some (Z.D.int ((y :: ys)[(t1.fmod ((y :: ys).length : Int)).toNat]'(by omega))) := by
          unfold atI ixN
          rw [if_pos hy2.1, List.length_map, if_pos hy2.2]
          simp only [Option.bind_some, List.getElem?_map]
          rw [List.getElem?_eq_getElem (by omega)]; rfl
        have e9 : ∀ {Q : QE}, prim .ix [.ref c, .int (t1.fmod ((y :: ys).length : Int))] (s2 ++ [.lst []]) Q = _ := p_ixL hc3 ha
        simp only [reduceCtorEq, decide_false, Bool.not_false, if_true, p_int, p_mod hy, e9, p_mod n1, p_mod n2, p_mod n3, p_mod hs0, p_add, m1, m2, w1, w2, f1]
        exact q _ _ (fmod_lt h1).1 (fmod_lt h1).2 u3 D3
end
end Z
end
section
set_option linter.all false
set_option maxRecDepth 100000
set_option maxHeartbeats 4000000
namespace Z
open PySem PySem.Spec PyProof.Rows L2
section
variable {T : Tab} {k f : Nat} {st : Sto} {Q : QE} {X : XP} {i g c n : Nat}
theorem begin_okA (h : Has T f 1 3 bBeginA) {ns : List Int} (hl : ns.length < sizeLine) (q : ∀ i g c st', Upd [] st st' → DrA i g c 0 st' → Q (.ref i) st') : wCall T (k + 1) f [.fro (ns.map .int)] st Q X := by
  refine h.call rfl ?_
  show wS T (wCall T k) bBeginA [some (.fro (ns.map .int)), none, none] st _
  unfold bBeginA
  refine cons_ok ?_
  rw [wS]
  refine lc_ok (monC k) [] ?_
  simp only [wIt, wE, List.getElem?_cons_zero, seqIt]
  refine ⟨fun l acc s => (∃ ys : List Int, l = ys.map .int) ∧ ∃ xs : List Int, acc = xs.map .int ∧ ∀ x ∈ xs, 0 ≤ x, by simp, fun _ _ => trivial, by simpa using hl, fun _ _ _ _ _ z => z, ⟨⟨ns, rfl⟩, [], rfl, by simp⟩, ?_, ?_⟩
  · rintro d l acc s u hs ⟨⟨ys, hy⟩, xs, rfl, hx⟩
    cases ys with
    | nil => cases hy
    | cons y ys =>
      rw [List.map_cons] at hy
      injection hy with h1 h2
      subst h1 h2
      refine ⟨[some (.fro (ns.map .int)), none, some (.int y)], rfl, ?_⟩
      simp only [wE, wEs, List.getElem?_cons_zero, List.getElem?_cons_succ, p_abs]
      refine ⟨.refl, ⟨ys, rfl⟩, xs ++ [if y < 0 then -y else y], by simp, fun x hx2 => ?_⟩
      rcases List.mem_append.mp hx2 with h | h
      · exact hx x h
      · rw [List.mem_singleton] at h
        subst h
        split <;> omega
  · rintro acc s u hs ⟨⟨ys, hy⟩, xs, rfl, hx⟩ hlen
    simp only [wTg, List.set_cons_zero, List.set_cons_succ]
    refine cons_ok ?_
    have hm : ∀ {s' : Sto} {Q : QE}, prim .pow [.int 10, .int 18] s' Q = Q (.int (10 ^ (18 : Int).toNat)) s' := p_pow ⟨by decide, by decide, by decide⟩
    have hs0 : st.length < s.length := lt_of_at hs
    have hs1 : (s ++ [O.dic []])[st.length]? = some (.lst (xs.map .int)) := (Upd.push (M := []) _).at_ hs (by simp)
    rw [wS, wE]
    simp only [wEs]
    rw [wE]
    refine lcif_ok (monC k) [] ?_
    simp only [wIt, wE, List.getElem?_cons_zero, List.getElem?_cons_succ, seqIt, hs1]
    refine ⟨fun l acc _ => (∃ ys : List Int, l = ys.map .int) ∧ ∃ xs : List Int, acc = xs.map .int ∧ ∀ x ∈ xs, 0 ≤ x, by simp, fun s' u' => ?_, ?_, fun _ _ _ _ _ z => z, ⟨⟨xs, rfl⟩, [], rfl, by simp⟩, ?_, ?_⟩
    · exact u'.at_ hs1 (by simp)
    · rw [hlen]; simpa using hl
    · rintro d l acc s' u' hs' ⟨⟨ys, hy⟩, zs, rfl, hz⟩
      cases ys with
      | nil => cases hy
      | cons y ys =>
        rw [List.map_cons] at hy
        injection hy with h1 h2
        subst h1 h2
        refine ⟨[some (.fro (ns.map .int)), some (.ref st.length), some (.int y)], rfl, ?_⟩
        simp only [wE, wEs, List.getElem?_cons_zero, List.getElem?_cons_succ, hm, p_ge, bl2_b, decide_eq_true_eq, p_sub]
        refine ⟨.refl, ?_⟩
        split
        · rename_i hge
          refine ⟨.refl, ⟨ys, rfl⟩, zs ++ [y - 10 ^ (18 : Int).toNat], by simp, fun x hx2 => ?_⟩
          rcases List.mem_append.mp hx2 with h | h
          · exact hz x h
          · rw [List.mem_singleton] at h
            subst h
            omega
        · exact ⟨⟨ys, rfl⟩, zs, rfl, hz⟩
    · rintro acc s' u' hs' ⟨⟨ys, hy⟩, zs, rfl, hz⟩ hlen'
      try simp only [wEs, wE, List.getElem?_cons_zero, List.getElem?_cons_succ]
      have hd : s'[s.length]? = some (.dic []) := u'.at_ at_push (by simp)
      have hc : s'[st.length]? = some (.lst (xs.map .int)) := u'.at_ hs1 (by simp)
      have hz1 : (s ++ [O.dic []]).length = s.length + 1 := by simp
      rw [hz1] at hs' ⊢
      refine ⟨hd, ?_⟩
      have hp : pairsOf [D.str "large", .ref (s.length + 1), .str "cells", .ref st.length, .str "rest", .int 0, .str "turn", .int 0] = some (dA (s.length + 1) st.length 0 0) := rfl
      rw [hp]
      refine ⟨(by show 4 ≤ 15; decide), rfl, ?_⟩
      have hmg : mergeD [] (dA (s.length + 1) st.length 0 0) = dA (s.length + 1) st.length 0 0 := by kernel_rfl
      rw [hmg]
      refine q s.length (s.length + 1) st.length _ ?_ ⟨by omega, ⟨0, 0, at_set hd, by decide, by decide, by decide⟩, ⟨zs, ?_, hz⟩, ⟨xs, ?_⟩⟩
      · exact (u.trans ((Upd.push _).trans u')).setNew (by omega)
      · rw [set_ne (by omega)]; exact hs'
      · rw [set_ne (by omega)]; exact hc
/-- the draws, by their places -/
structure DrawsA (T : Tab) (fb fd fp : Nat) : Prop where
  b : Has T fb 1 3 bBeginA
  d : Has T fd 2 6 bDrawA
  p : Has T fp 2 2 (bPickA fd)
theorem pick_okA {fb fd fp : Nat} (h : DrawsA T fb fd fp) (D : DrA i g c n st) (hn : n < 2 ^ 40) {j : Nat} {l : List Z.D} (hj : st[j]? = some (.lst l)) (hg : j ≠ g) (h1 : l ≠ []) (h2 : l.length < 2 ^ 30) (q : ∀ (r : Nat) (d : Z.D) st', l[r]? = some d → Upd [i, g] st st' → DrA i g c (n + 1) st' → Q d st') : wCall T (k + 2) fp [.ref i, .ref j] st Q X := by
  refine h.p.call rfl ?_
  show wS T (wCall T (k + 1)) (bPickA fd) [some (.ref i), some (.ref j)] st _
  unfold bPickA
  refine cons_ok ?_
  simp only [wS, wE, wEs, List.getElem?_cons_zero, List.getElem?_cons_succ, p_lenL hj]
  have hpos : 0 < (l.length : Int) := by
    have := List.length_pos_iff.mpr h1
    omega
  refine h.d.callF rfl (draw_okA h.d D hn hpos (by omega) fun r st' r0 r1 u D' => ?_)
  have hj' := u.at_ hj (by simp only [List.mem_cons, List.not_mem_nil, or_false, not_or]; exact ⟨D.ne_i hj, hg⟩)
  have hr : atI l r = some (l[r.toNat]'(by omega)) := by
    unfold atI ixN
    rw [if_pos r0, if_pos r1]
    simp only [Option.bind_some]
    exact List.getElem?_eq_getElem (by omega)
  rw [p_ixL hj' hr]
  exact q r.toNat _ st' (List.getElem?_eq_getElem (by omega)) u D'
end
end Z
end
section
set_option linter.all false
set_option maxRecDepth 100000
set_option maxHeartbeats 4000000
namespace Z
open PySem PySem.Spec PyProof.Rows L2
/-! ## new objects, as rules -/
section
variable {s : Sto} {Q : QE} {i j : Nat} {l m : List D}
theorem small {l : List D} (h : l.length ≤ 100) : l.length ≤ sizeLine := Nat.le_trans h (by decide)
theorem a_new {o : O} {R : Nat → Sto → Prop} (h : ∀ j s', Upd [] s s' → s'[j]? = some o → s.length ≤ j → R j s') : R s.length (s ++ [o]) := h _ _ (.push _) at_push (Nat.le_refl _)
theorem a_lst (hl : l.length ≤ sizeLine) (h : ∀ j s', Upd [] s s' → s'[j]? = some (.lst l) → s.length ≤ j → Q (.ref j) s') : prim .lst l s Q := by
  rw [p_lst hl]; exact a_new h
theorem a_addL (hi : s[i]? = some (.lst l)) (hj : s[j]? = some (.lst m)) (hl : (l ++ m).length ≤ sizeLine) (h : ∀ j s', Upd [] s s' → s'[j]? = some (.lst (l ++ m)) → s.length ≤ j → Q (.ref j) s') : prim .add [.ref i, .ref j] s Q := by
  rw [p_addL hi hj hl]; exact a_new h
theorem a_mulL {k : Int} (hi : s[i]? = some (.lst l)) (hk : -(2 ^ 63) ≤ k ∧ k < 2 ^ 63 ∧ l.length * k.toNat ≤ sizeLine) (h2 : (List.replicate k.toNat l).flatten.length ≤ sizeLine) (h : ∀ j s', Upd [] s s' → s'[j]? = some (.lst (List.replicate k.toNat l).flatten) → s.length ≤ j → Q (.ref j) s') : prim .mul [.ref i, .int k] s Q := by
  rw [p_mulL hi hk h2]; exact a_new h
end
section
variable {T : Tab} {C : CallS} {σ : Loc} {st : Sto} {Q : QE} {X : XP} {D' : EndS}
theorem var_ok {i : Nat} {d : D} (h : σ[i]? = some (some d)) (q : Q d st) : wE T C (.var i) σ st Q X := by
  rw [wE, h]; exact q
theorem cst_ok {d : D} (q : Q d st) : wE T C (.cst d) σ st Q X := by
  rw [wE]; exact q
theorem op_ok {o : Op} {es : List E} (h : wEs T C es σ st (fun ds st' => prim o ds st' Q) X) : wE T C (.op o es) σ st Q X := by
  rw [wE]; exact h
theorem call_e {f : Nat} {es : List E} (h : wEs T C es σ st (fun ds st' => callF T C f ds st' Q X) X) : wE T C (.call f es) σ st Q X := by
  rw [wE]; exact h
theorem es_nil {R : List D → Sto → Prop} (h : R [] st) : wEs T C [] σ st R X := by rw [wEs]; exact h
theorem es_cons {e : E} {es : List E} {R : List D → Sto → Prop} (h : wE T C e σ st (fun d st' => wEs T C es σ st' (fun ds st'' => R (d :: ds) st'') X) X) : wEs T C (e :: es) σ st R X := by rw [wEs]; exact h
theorem asg_ok {tg : Tg} {e : E} (h : wE T C e σ st (fun d st' => match wTg tg d σ with
    | some σ' => D'.nx σ' st'
    | none => False) (fun x st' => D'.xc x σ st')) : wS T C (.asg tg e) σ st D' := by rw [wS]; exact h
theorem ret_ok {e : E} (h : wE T C e σ st D'.rt (fun x st' => D'.xc x σ st')) : wS T C (.ret e) σ st D' := by rw [wS]; exact h
theorem lc_map (hC : MonC C) {own : List Nat} {tg : Tg} {it : It} {elt : E} (g : D → D) (h : wIt T C it σ st (fun ds G st1 => (∀ s, Upd [] st1 s → G s) ∧ ds.length < sizeLine ∧
      (∀ d ∈ ds, ∀ s, Upd [] st1 s → ∃ σ2, wTg tg d (wipeD σ own) = some σ2 ∧ wE T C elt σ2 s (fun y s' => Upd [] s s' ∧ y = g d) (fun _ _ => False)) ∧
      ∀ s n, Upd [] st1 s → st1.length ≤ n → s[n]? = some (.lst (ds.map g)) → Q (.ref n) s) X) : wE T C (.lc own tg it elt) σ st Q X := by
  refine lc_ok hC [] (mI hC it _ _ _ _ _ _ (fun ds G st1 q => ?_) (fun _ _ z => z) h)
  obtain ⟨hG, hl, ht, he⟩ := q
  refine ⟨fun l acc s => ∃ pre, ds = pre ++ l ∧ acc = pre.map g, by simp, hG, hl, fun _ _ _ _ _ z => z, ⟨[], rfl, rfl⟩, ?_, ?_⟩
  · rintro d l acc s u hs ⟨pre, e1, rfl⟩
    obtain ⟨σ2, h1, h2⟩ := ht d (by rw [e1]; simp) s u
    refine ⟨σ2, h1, mE hC elt _ _ _ _ _ _ (fun y s' z => ⟨z.1, pre ++ [d], by simp [e1], by simp [z.2]⟩) (fun _ _ z => z) h2⟩
  · rintro acc s u hs ⟨pre, e1, rfl⟩ _
    rw [List.append_nil] at e1
    subst e1
    exact he s _ u (Nat.le_refl _) hs
theorem lcif_map (hC : MonC C) {own : List Nat} {tg : Tg} {it : It} {t elt : E} (p : D → Bool) (g : D → D) (h : wIt T C it σ st (fun ds G st1 => (∀ s, Upd [] st1 s → G s) ∧ ds.length < sizeLine ∧
      (∀ d ∈ ds, ∀ s, Upd [] st1 s → ∃ σ2, wTg tg d (wipeD σ own) = some σ2 ∧ wE T C t σ2 s (fun b s1 => Upd [] s s1 ∧ b = .bl (p d) ∧ (p d = true → wE T C elt σ2 s1 (fun y s' => Upd [] s1 s' ∧ y = g d) (fun _ _ => False))) (fun _ _ => False)) ∧
      ∀ s n, Upd [] st1 s → st1.length ≤ n → s[n]? = some (.lst ((ds.filter p).map g)) → Q (.ref n) s) X) : wE T C (.lcif own tg it t elt) σ st Q X := by
  refine lcif_ok hC [] (mI hC it _ _ _ _ _ _ (fun ds G st1 q => ?_) (fun _ _ z => z) h)
  obtain ⟨hG, hl, ht, he⟩ := q
  refine ⟨fun l acc s => ∃ pre, ds = pre ++ l ∧ acc = (pre.filter p).map g, by simp, hG, hl, fun _ _ _ _ _ z => z, ⟨[], rfl, rfl⟩, ?_, ?_⟩
  · rintro d l acc s u hs ⟨pre, e1, rfl⟩
    obtain ⟨σ2, h1, h2⟩ := ht d (by rw [e1]; simp) s u
    refine ⟨σ2, h1, mE hC t _ _ _ _ _ _ (fun b s1 z => ?_) (fun _ _ z => z) h2⟩
    obtain ⟨z1, rfl, z2⟩ := z
    refine ⟨z1, ?_⟩
    cases hp : p d with
    | true => exact mE hC elt _ _ _ _ _ _ (fun y s' z => ⟨z.1, pre ++ [d], by simp [e1], by simp [z.2, hp]⟩) (fun _ _ z => z) (z2 hp)
    | false => exact ⟨pre ++ [d], by simp [e1], by simp [hp]⟩
  · rintro acc s u hs ⟨pre, e1, rfl⟩ _
    rw [List.append_nil] at e1
    subst e1
    exact he s _ u (Nat.le_refl _) hs
theorem eqD_bls {s : Sto} {i j : Nat} {xs ys : List Bool} (h1 : s[i]? = some (.lst (xs.map .bl))) (h2 : s[j]? = some (.lst (ys.map .bl))) : eqD s (.ref i) (.ref j) = some (decide (xs = ys)) := by
  have ok : ∀ l : List Bool, D.oks (l.map .bl) = true := fun l => oks_all.mpr fun d hd => by
    obtain ⟨x, _, rfl⟩ := List.mem_map.mp hd; rfl
  have dp : ∀ l : List Bool, D.deps (l.map .bl) ≤ 11 := fun l => deps_le.mpr fun d hd => by
    obtain ⟨x, _, rfl⟩ := List.mem_map.mp hd; simp [D.dep]
  rw [eqD_lst h1 h2 (ok _) (ok _) (dp _) (dp _), eqvAll_bl]
end
end Z
end
section
set_option linter.all false
set_option maxRecDepth 100000
set_option maxHeartbeats 4000000
namespace K00
open PySem PySem.Spec PyProof.Rows L2 Z
theorem draws : DrawsA T 3 4 5 := ⟨⟨_, rfl, rfl, rfl, rfl⟩, ⟨_, rfl, rfl, rfl, rfl⟩, ⟨_, rfl, rfl, rfl, rfl⟩⟩
theorem h_no : Has T 0 2 2 b_NoOperation___init__ := ⟨_, rfl, rfl, rfl, rfl⟩
theorem h_tl : Has T 1 2 2 b_TooLarge___init__ := ⟨_, rfl, rfl, rfl, rfl⟩
theorem h_nt : Has T 2 2 2 b_NoText___init__ := ⟨_, rfl, rfl, rfl, rfl⟩
theorem h_marks : Has T 6 1 2 b__law_marks := ⟨_, rfl, rfl, rfl, rfl⟩
theorem h_all : Has T 7 2 3 b__law_all := ⟨_, rfl, rfl, rfl, rfl⟩
theorem h_law : Has T 8 1 9 b_law := ⟨_, rfl, rfl, rfl, rfl⟩
/-- which of the eleven -/
def marks (e : Nat) : List Bool := [isxB (some 1) e, isxB (some 2) e, isxB (some 3) e, isxB (some 4) e, isxB (some 5) e, isxB (some 6) e, isxB (some 7) e, isxB (some 8) e, isxB (some 9) e, isxB (some 10) e, isxB (some 11) e]
section
variable {k : Nat} {st : Sto} {Q : QE} {X : XP} {n e i : Nat} {fs : List (Nat × D)}
theorem marks_ok (he : st[i]? = some (.exn e fs)) (q : ∀ j st', Upd [] st st' → st'[j]? = some (.lst ((marks e).map .bl)) → st.length ≤ j → Q (.ref j) st') : wCall T (k + 1) 6 [.ref i] st Q X := by
  refine h_marks.call rfl ?_
  show wS T (wCall T k) b__law_marks [some (.ref i), none] st _
  unfold b__law_marks
  have x0 : ∀ {s : Sto} {c : Option Nat} {Q : QE}, Upd [] st s → prim (.isx c) [.ref i] s Q = Q (.bl (isxB c e)) s := fun u => p_isx (u.at_ he (by simp))
  simp only [wS, wE, wEs, List.getElem?_cons_zero, x0 .refl]
  refine a_lst (small (by simp)) fun i1 s1 u1 g1 f1 => ?_
  simp only [wTg, List.set_cons_zero, List.set_cons_succ, List.getElem?_cons_zero, List.getElem?_cons_succ, x0 u1]
  refine a_lst (small (by simp)) fun i2 s2 u2 g2 f2 => ?_
  refine a_addL (u2.at_ g1 (by simp)) g2 (small (by simp)) fun i3 s3 u3 g3 f3 => ?_
  have v3 := (u1.trans u2).trans u3
  simp only [x0 v3]
  refine a_lst (small (by simp)) fun i4 s4 u4 g4 f4 => ?_
  refine a_addL (u4.at_ g3 (by simp)) g4 (small (by simp)) fun i5 s5 u5 g5 f5 => ?_
  have v5 := (v3.trans u4).trans u5
  simp only [x0 v5]
  refine a_lst (small (by simp)) fun i6 s6 u6 g6 f6 => ?_
  refine a_addL (u6.at_ g5 (by simp)) g6 (small (by simp)) fun i7 s7 u7 g7 f7 => ?_
  have v7 := (v5.trans u6).trans u7
  exact q i7 s7 v7 g7 (Nat.le_trans ((v5.trans u6).len) f7)
/-- an exception with a field -/
theorem init_ok {x : Nat} {m : Nat} {nm f : Str} {d : D} {b : S} (h : Has T x 2 2 b) (hb : b = .cons (.asgF (.var 0) m (.var 1)) .nil) (hi : st[i]? = some (.exn e [])) (hx : T.excs[e]? = some (nm, some f)) (hm : T.names[m]? = some f)
    (q : Q .non (st.set i (.exn e [(m, d)]))) : wCall T (k + 1) x [.ref i, d] st Q X := by
  refine h.call rfl ?_
  subst hb
  show wS T (wCall T k) _ [some (.ref i), some d] st _
  simp only [wS, wE, wEs, List.getElem?_cons_zero, List.getElem?_cons_succ, hi]
  exact ⟨trivial, ⟨nm, f, hx, hm⟩, q⟩
/-- the field of an error -/
def fld (c : Nat) (d : D) : List (Nat × D) := if c = 5 then [(0, d)] else if c = 10 then [(1, d)] else if c = 11 then [(2, d)] else []
theorem xnew_ok {c : Nat} {a : E} {σ : Z.Loc} {d : D} (ha : ∀ (Q' : QE), Q' d st → wE T (wCall T (k + 1)) a σ st Q' X) (q : ∀ j st', Upd [] st st' → st'[j]? = some (.exn c (fld c d)) → st.length ≤ j → Q (.ref j) st') : wE T (wCall T (k + 1)) (.xnew c [a]) σ st Q X := by
  simp only [wE, wEs]
  refine ha _ ?_
  have hl : (st ++ [O.exn c []])[st.length]? = some (.exn c []) := at_push
  have hu : ∀ o, Upd [] st ((st ++ [O.exn c []]).set st.length o) := fun o => (Upd.push _).setNew (Nat.le_refl _)
  by_cases h5 : c = 5
  · subst h5
    show callF _ _ 0 _ _ _ _
    refine h_no.callF rfl (init_ok h_no rfl hl rfl rfl ⟨rfl, ?_⟩)
    exact q _ _ (hu _) (at_set hl) (Nat.le_refl _)
  · by_cases h10 : c = 10
    · subst h10
      show callF _ _ 1 _ _ _ _
      refine h_tl.callF rfl (init_ok h_tl rfl hl rfl rfl ⟨rfl, ?_⟩)
      exact q _ _ (hu _) (at_set hl) (Nat.le_refl _)
    · by_cases h11 : c = 11
      · subst h11
        show callF _ _ 2 _ _ _ _
        refine h_nt.callF rfl (init_ok h_nt rfl hl rfl rfl ⟨rfl, ?_⟩)
        exact q _ _ (hu _) (at_set hl) (Nat.le_refl _)
      · have hn : T.xinits.lookup c = none := by
          show List.lookup c [(5, 0), (10, 1), (11, 2)] = none
          have b5 : (c == 5) = false := by simp [h5]
          have b10 : (c == 10) = false := by simp [h10]
          have b11 : (c == 11) = false := by simp [h11]
          rw [List.lookup_cons, b5]; simp only
          rw [List.lookup_cons, b10]; simp only
          rw [List.lookup_cons, b11]; rfl
        rw [hn]
        refine ⟨rfl, q _ _ (.push _) ?_ (Nat.le_refl _)⟩
        unfold fld
        rw [if_neg h5, if_neg h10, if_neg h11]
        exact hl
theorem all_ok {wd num : D} (q : ∀ r (js : List Nat) st', Upd [] st st' → js.length = 11 → st'[r]? = some (.lst (js.map .ref)) → (∀ (p j : Nat), js[p]? = some j → st'[j]? = some (O.exn (p + 1) (fld (p + 1) num))) → st.length ≤ r → Q (.ref r) st') : wCall T (k + 2) 7 [wd, num] st Q X := by
  refine h_all.call rfl ?_
  show wS T (wCall T (k + 1)) b__law_all [some wd, some num, none] st _
  unfold b__law_all
  have v0 : ∀ (s : Sto) (o : Option D) (X : XP) (Q' : QE), Q' wd s → wE T (wCall T (k + 1)) (.var 0) [some wd, some num, o] s Q' X := fun s o X Q' z => by simp only [wE, List.getElem?_cons_zero]; exact z
  have v1 : ∀ (s : Sto) (o : Option D) (X : XP) (Q' : QE), Q' num s → wE T (wCall T (k + 1)) (.var 1) [some wd, some num, o] s Q' X := fun s o X Q' z => by simp only [wE, List.getElem?_cons_zero, List.getElem?_cons_succ]; exact z
  refine cons_ok ?_
  rw [wS, wE]
  simp only [wEs]
  refine xnew_ok (v0 _ _ _) fun j1 s1 u1 g1 f1 => ?_
  refine xnew_ok (v0 _ _ _) fun j2 s2 u2 g2 f2 => ?_
  refine xnew_ok (v0 _ _ _) fun j3 s3 u3 g3 f3 => ?_
  refine xnew_ok (v0 _ _ _) fun j4 s4 u4 g4 f4 => ?_
  refine xnew_ok (v1 _ _ _) fun j5 s5 u5 g5 f5 => ?_
  refine xnew_ok (v0 _ _ _) fun j6 s6 u6 g6 f6 => ?_
  refine a_lst (small (by simp)) fun i1 t1 w1 k1 m1 => ?_
  simp only [wTg, List.set_cons_zero, List.set_cons_succ]
  refine cons_ok (ret_ok (op_ok (es_cons (var_ok rfl (es_cons (op_ok ?_))))))
  simp only [wEs]
  refine xnew_ok (v0 _ _ _) fun j7 s7 u7 g7 f7 => ?_
  refine xnew_ok (v0 _ _ _) fun j8 s8 u8 g8 f8 => ?_
  refine xnew_ok (v0 _ _ _) fun j9 s9 u9 g9 f9 => ?_
  refine xnew_ok (v1 _ _ _) fun j10 s10 u10 g10 f10 => ?_
  refine xnew_ok (v1 _ _ _) fun j11 s11 u11 g11 f11 => ?_
  refine a_lst (small (by simp)) fun i2 t2 w2 k2 m2 => ?_
  have c11 : Upd [] s11 t2 := w2
  have c10 := u11.trans c11
  have c9 := u10.trans c10
  have c8 := u9.trans c9
  have c7 := u8.trans c8
  have ct := u7.trans c7
  have c6 := w1.trans ct
  have c5 := u6.trans c6
  have c4 := u5.trans c5
  have c3 := u4.trans c4
  have c2 := u3.trans c3
  have c1 := u2.trans c2
  refine a_addL (ct.at_ k1 (by simp)) k2 (small (by simp)) fun i3 t3 w3 k3 m3 => ?_
  refine q i3 [j1, j2, j3, j4, j5, j6, j7, j8, j9, j10, j11] t3 (u1.trans (c1.trans w3)) rfl k3 (fun p j hp => ?_) (Nat.le_trans (u1.trans c1).len m3)
  match p, hp with
  | 0, hp => cases hp; exact (c1.trans w3).at_ g1 (by simp)
  | 1, hp => cases hp; exact (c2.trans w3).at_ g2 (by simp)
  | 2, hp => cases hp; exact (c3.trans w3).at_ g3 (by simp)
  | 3, hp => cases hp; exact (c4.trans w3).at_ g4 (by simp)
  | 4, hp => cases hp; exact (c5.trans w3).at_ g5 (by simp)
  | 5, hp => cases hp; exact (c6.trans w3).at_ g6 (by simp)
  | 6, hp => cases hp; exact (c7.trans w3).at_ g7 (by simp)
  | 7, hp => cases hp; exact (c8.trans w3).at_ g8 (by simp)
  | 8, hp => cases hp; exact (c9.trans w3).at_ g9 (by simp)
  | 9, hp => cases hp; exact (c10.trans w3).at_ g10 (by simp)
  | 10, hp => cases hp; exact (c11.trans w3).at_ g11 (by simp)
  | p + 11, hp => simp at hp
theorem marks_pt : ∀ p : Nat, p < 11 → marks (p + 1) = (List.range 11).map fun (k : Nat) => decide ((k : Int) = (p : Int)) := by decide
theorem marks0 : (true ∈ marks 0) = False := by simp [marks, isxB]
theorem bls_in {s : Sto} {j : Nat} {xs : List Bool} {b : Bool} (h : s[j]? = some (.lst (xs.map .bl))) : prim .isin [.bl b, .ref j] s Q = Q (.bl (decide (b ∈ xs))) s := by
  refine p_isinL h ?_
  have ok : D.oks (xs.map .bl) = true := oks_all.mpr fun d hd => by
    obtain ⟨x, _, rfl⟩ := List.mem_map.mp hd; rfl
  have dp : D.deps (xs.map .bl) ≤ 12 := deps_le.mpr fun d hd => by
    obtain ⟨x, _, rfl⟩ := List.mem_map.mp hd; simp [D.dep]
  rw [inD_ok rfl ok (by simp [D.dep]) dp]
  congr 1
  rw [Bool.eq_iff_iff, List.any_eq_true, decide_eq_true_eq]
  constructor
  · rintro ⟨z, hz, e⟩
    obtain ⟨x, hx, rfl⟩ := List.mem_map.mp hz
    simp only [D.toP, PyData.eqv, beq_iff_eq] at e
    exact e ▸ hx
  · intro hb
    exact ⟨.bl b, List.mem_map.mpr ⟨b, hb, rfl⟩, by simp [D.toP, PyData.eqv]⟩
theorem enum_at {L : List D} {p : Nat} {d : D} {l : List D} (h : (enumD L).drop p = d :: l) : ∃ x, L[p]? = some x ∧ d = .tup [.int p, x] ∧ l = (enumD L).drop (p + 1) := by
  have h1 : (enumD L)[p]? = some d := by
    have : ((enumD L).drop p)[0]? = some d := by rw [h]; rfl
    rwa [List.getElem?_drop, Nat.add_zero] at this
  unfold enumD at h1
  rw [List.getElem?_mapIdx] at h1
  obtain ⟨x, hx, rfl⟩ := Option.map_eq_some_iff.mp h1
  refine ⟨x, hx, rfl, ?_⟩
  rw [← List.drop_drop, h]; rfl
def gp (p : Nat) : D → D
  | .int y => .bl (decide (y = p))
  | _ => .non
theorem atI_nat {l : List D} {n : Nat} {x : D} (h : l[n]? = some x) : atI l (n : Int) = some x := by
  have hl := (List.getElem?_eq_some_iff.mp h).1
  unfold atI ixN
  rw [if_pos (by omega), if_pos (by omega)]
  simpa using h
theorem attr_ok {C : CallS} {o : E} {x : Nat} {σ : Z.Loc} {st : Sto} {Q : QE} {X : XP} (hC : MonC C) (h : wE T C o σ st (fun d s => ∃ i c fs v, d = .ref i ∧ s[i]? = some (.exn c fs) ∧ fs.lookup x = some v ∧ Q v s) X) : wE T C (.attr o x) σ st Q X := by
  rw [wE]
  refine mE hC o _ _ _ _ _ _ (fun d s z => ?_) (fun _ _ z => z) h
  obtain ⟨i, c, fs, v, rfl, h1, h2, q⟩ := z
  simp only [h1, h2]
  exact q
theorem law_ok (ns : List Int) (hns : ns.length ≤ 63) : wCall T (9 + 1) 8 [.fro (ns.map .int)] [] (fun d _ => d = .bl true) (fun _ _ => False) := by
  refine h_law.call rfl ?_
  show wS T (wCall T 9) b_law [some (.fro (ns.map .int)), none, none, none, none, none, none, none, none] [] _
  unfold b_law
  have M := monC (T := T) 9
  refine cons_ok (asg_ok (call_e (es_cons (var_ok rfl (es_nil ?_)))))
  refine draws.b.callF rfl (begin_okA (k := 8) draws.b (Nat.lt_of_le_of_lt hns (by decide)) fun i g c st u0 D0 => ?_)
  simp only [wTg, List.set_cons_zero, List.set_cons_succ]
  refine seq_ok M (fun σ s => True) (fore_ok M ?_) fun σ' s' _ => cons_ok (ret_ok (cst_ok rfl))
  simp only [wIt, wE]
  refine ⟨by decide, by decide, fun l σ s => (∃ a2 a3 a4 a5 a6 a7 a8, σ = [some (.fro (ns.map .int)), some (.ref i), a2, a3, a4, a5, a6, a7, a8]) ∧ ∃ m, DrA i g c m s ∧ m + 3 * l.length ≤ 9, ⟨⟨_, _, _, _, _, _, _, rfl⟩, 0, D0, by decide⟩, ?_, fun _ _ _ => trivial⟩
  rintro d l _ s ⟨⟨a2, a3, a4, a5, a6, a7, a8, rfl⟩, m, D, hm⟩
  simp only [forF, wTg, List.set_cons_zero, List.set_cons_succ]
  simp only [List.length_cons] at hm
  have w9 : ∀ {s : Sto} {Q : QE}, prim .pow [.int 10, .int 9] s Q = Q (.int (10 ^ (9 : Int).toNat)) s := p_pow ⟨by decide, by decide, by decide⟩
  -- the number
  refine cons_ok (asg_ok (call_e (es_cons (var_ok rfl (es_cons (op_ok ?_))))))
  simp only [wE, wEs, List.getElem?_cons_zero, List.getElem?_cons_succ, w9]
  refine draws.d.callF rfl (draw_okA (k := 8) draws.d D (by omega) (by decide) (by decide) fun r s1 r0 r1 u1 D1 => ?_)
  refine a_lst (small (by simp)) fun j2 s2 u2 g2 f2 => ?_
  have D2 := D1.upd u2 (by simp) (by simp) (by simp)
  refine draws.p.callF rfl (pick_okA (k := 7) draws D2 (by omega) g2 (fun e => ?_) (by simp) (by simp) fun r2 num s3 hr2 u3 D3 => ?_)
  · have := D1.lt; omega
  obtain ⟨num, rfl⟩ : ∃ x : Int, num = .int x := by
    have := List.mem_of_getElem? hr2
    simp only [List.mem_cons, List.not_mem_nil, or_false] at this
    rcases this with h | h | h | h <;> exact ⟨_, h⟩
  -- the errors
  refine cons_ok (asg_ok (call_e ?_))
  simp only [wE, wEs, List.getElem?_cons_zero, List.getElem?_cons_succ, List.set_cons_zero, List.set_cons_succ]
  refine a_lst (small (by simp)) fun j4 s4 u4 g4 f4 => ?_
  have D4 := D3.upd u4 (by simp) (by simp) (by simp)
  refine draws.p.callF rfl (pick_okA (k := 7) draws D4 (by omega) g4 (fun e => ?_) (by simp) (by simp) fun r5 wd s5 hr5 u5 D5 => ?_)
  · have := D3.lt; omega
  simp only [wTg, wE, wEs, List.getElem?_cons_zero, List.getElem?_cons_succ, List.set_cons_zero, List.set_cons_succ]
  refine h_all.callF rfl (all_ok (k := 7) fun r6 js s6 u6 l6 g6 e6 f6 => ?_)
  have D6 := D5.upd u6 (by simp) (by simp) (by simp)
  -- each of them
  refine seq_ok M (fun σ s => Upd [] s6 s ∧ ∃ a5 a6 a7, σ = [some (.fro (ns.map .int)), some (.ref i), some d, some (.int num), some (.ref r6), a5, a6, a7, a8]) (fore_ok M ?_) ?_
  · simp only [wIt, wE, List.getElem?_cons_zero, List.getElem?_cons_succ, seqIt2, g6]
    refine ⟨fun l σ s => Upd [] s6 s ∧ (∃ a5 a6 a7, σ = [some (.fro (ns.map .int)), some (.ref i), some d, some (.int num), some (.ref r6), a5, a6, a7, a8]) ∧ ∃ p, l = (enumD (js.map .ref)).drop p, ⟨.refl, ⟨_, _, _, rfl⟩, 0, rfl⟩, ?_, fun σ s h => ⟨h.1, h.2.1⟩⟩
    rintro d' l' _ s7 ⟨u7, ⟨a5, a6, a7, rfl⟩, p, hp⟩
    obtain ⟨x, hx, rfl, rfl⟩ := enum_at hp.symm
    rw [List.getElem?_map] at hx
    obtain ⟨j, hj, rfl⟩ := Option.map_eq_some_iff.mp hx
    have hp11 : p < 11 := by rw [← l6]; exact (List.getElem?_eq_some_iff.mp hj).1
    have hexc := u7.at_ (e6 p j hj) (by simp)
    simp only [forF, wTg, wTgs, List.set_cons_zero, List.set_cons_succ]
    refine cons_ok ?_
    rw [wS]
    refine op_ok (es_cons (call_e (es_cons (var_ok rfl (es_nil ?_)))))
    refine h_marks.callF rfl (marks_ok (k := 8) hexc fun j8 s8 u8 g8 f8 => ?_)
    refine es_cons (lc_map M (gp p) ?_)
    simp only [wIt, wE]
    refine ⟨by decide, by decide, fun _ _ => trivial, by decide, fun y hy s' u' => ?_, fun s9 n9 u9 f9 g9 => ?_⟩
    · obtain ⟨y, hy, rfl⟩ := List.mem_map.mp hy
      refine ⟨_, rfl, ?_⟩
      simp only [wE, wEs, wipeD, List.getElem?_cons_zero, List.getElem?_cons_succ, List.set_cons_zero, List.set_cons_succ, p_eqI]
      exact ⟨.refl, rfl⟩
    · have hm2 : (rngD 0 (11 : Int).toNat).map (gp p) = (marks (p + 1)).map Z.D.bl := by
        rw [marks_pt p hp11, rngD, List.map_map, List.map_map]
        refine List.map_congr_left fun k _ => ?_
        simp [gp]
      rw [hm2] at g9
      refine es_nil ?_
      rw [p_ne (eqD_bls (u9.at_ g8 (by simp)) g9)]
      simp only [decide_true, Bool.not_true, bl2_b, Bool.false_eq_true, if_false, wS]
      have x9 := (u8.trans u9).at_ hexc (by simp)
      simp only [wE, wEs, List.getElem?_cons_zero, List.getElem?_cons_succ, List.set_cons_zero, List.set_cons_succ, p_isx x9, isxB, bl2_b]
      simp only [or_true, decide_true, if_true, bl2_b, Bool.false_eq_true, if_false]
      have u10 := u7.trans (u8.trans u9)
      exact ⟨u10.at_ g6 (by simp), u10, ⟨_, _, _, rfl⟩, p + 1, rfl⟩
  · rintro _ s7 ⟨u7, a5, a6, a7, rfl⟩
    have q4 : ∃ j, js[4]? = some j ∧ s7[j]? = some (.exn 5 [(0, Z.D.int num)]) := ⟨_, List.getElem?_eq_getElem (by omega), u7.at_ (e6 4 _ (List.getElem?_eq_getElem (by omega))) (by simp)⟩
    have q9 : ∃ j, js[9]? = some j ∧ s7[j]? = some (.exn 10 [(1, Z.D.int num)]) := ⟨_, List.getElem?_eq_getElem (by omega), u7.at_ (e6 9 _ (List.getElem?_eq_getElem (by omega))) (by simp)⟩
    have q10 : ∃ j, js[10]? = some j ∧ s7[j]? = some (.exn 11 [(2, Z.D.int num)]) := ⟨_, List.getElem?_eq_getElem (by omega), u7.at_ (e6 10 _ (List.getElem?_eq_getElem (by omega))) (by simp)⟩
    obtain ⟨k4, b4, c4⟩ := q4
    obtain ⟨k9, b9, c9⟩ := q9
    obtain ⟨k10, b10, c10⟩ := q10
    have g7 := u7.at_ g6 (by simp)
    have at4 : ∀ {n m : Nat} (i : Int), i = n → js[n]? = some m → atI (js.map Z.D.ref) i = some (.ref m) := fun i e h => by subst e; exact atI_nat (by rw [List.getElem?_map, h]; rfl)
    have y4 : ∀ {Q : QE}, prim .ix [.ref r6, .int 4] s7 Q = Q (.ref k4) s7 := p_ixL g7 (at4 4 rfl b4)
    have y9 : ∀ {Q : QE}, prim .ix [.ref r6, .int 9] s7 Q = Q (.ref k9) s7 := p_ixL g7 (at4 9 rfl b9)
    have y10 : ∀ {Q : QE}, prim .ix [.ref r6, .int 10] s7 Q = Q (.ref k10) s7 := p_ixL g7 (at4 10 rfl b10)
    refine cons_ok (asg_ok ?_)
    simp only [wE, wEs, List.getElem?_cons_zero, List.getElem?_cons_succ, y4, y9, y10, c4, c9, c10, List.lookup_cons, beq_self_eq_true]
    refine a_lst (small (by simp)) fun j8 s8 u8 g8 f8 => ?_
    simp only [wTg, List.set_cons_zero, List.set_cons_succ]
    -- by keyword
    refine cons_ok (asg_ok (op_ok (es_cons ?_)))
    refine var_ok rfl (es_cons (op_ok (es_cons (attr_ok M ?_))))
    refine xnew_ok (k := 8) (d := .int num) (fun Q' z => by exact var_ok rfl z) fun j9 s9 u9 g9 f9 => ?_
    refine ⟨_, _, _, _, rfl, g9, rfl, es_cons (attr_ok M ?_)⟩
    refine xnew_ok (k := 8) (d := .int num) (fun Q' z => by exact var_ok rfl z) fun j10 s10 u10 g10 f10 => ?_
    refine ⟨_, _, _, _, rfl, g10, rfl, es_cons (attr_ok M ?_)⟩
    refine xnew_ok (k := 8) (d := .int num) (fun Q' z => by exact var_ok rfl z) fun j11 s11 u11 g11 f11 => ?_
    refine ⟨_, _, _, _, rfl, g11, rfl, es_nil ?_⟩
    refine a_lst (small (by simp)) fun j12 s12 u12 g12 f12 => es_nil ?_
    have v12 := u9.trans (u10.trans (u11.trans u12))
    refine a_addL (v12.at_ g8 (by simp)) g12 (small (by simp)) fun j13 s13 u13 g13 f13 => ?_
    simp only [wTg, List.set_cons_zero, List.set_cons_succ]
    have v13 := u7.trans (u8.trans (v12.trans u13))
    -- the tests
    refine cons_ok ?_
    rw [wS, wE]
    refine op_ok (es_cons (var_ok rfl (es_cons (op_ok (es_cons (op_ok (es_cons (var_ok rfl (es_nil ?_)))))))))
    refine a_lst (small (by simp)) fun j14 s14 u14 g14 f14 => es_cons (cst_ok (es_nil ?_))
    refine a_mulL g14 ⟨by decide, by decide, (by show 1 * 6 ≤ sizeLine; decide)⟩ (small (by simp)) fun j15 s15 u15 g15 f15 => es_nil ?_
    have e15 : eqD s15 (.ref j13) (.ref j15) = some true := by
      have a1 : s15[j13]? = some (.lst ([num, num, num, num, num, num].map .int)) := (u14.trans u15).at_ g13 (by simp)
      have a2 : s15[j15]? = some (.lst ([num, num, num, num, num, num].map .int)) := g15
      rw [eqD_ints a1 a2]; simp
    rw [p_ne e15]
    simp only [Bool.not_true, bl2_b, Bool.false_eq_true, if_false]
    refine op_ok (es_cons (cst_ok (es_cons (call_e (es_cons ?_)))))
    refine xnew_ok (k := 8) (d := .str "x") (fun Q' z => cst_ok z) fun j16 s16 u16 g16 f16 => es_nil ?_
    refine h_marks.callF rfl (marks_ok (k := 8) g16 fun j17 s17 u17 g17 f17 => es_nil ?_)
    rw [bls_in g17]
    simp only [marks0, decide_false, bl2_b, Bool.false_eq_true, if_false, wS]
    have v17 := v13.trans (u14.trans (u15.trans (u16.trans u17)))
    exact ⟨trivial, ⟨_, _, _, _, _, _, _, rfl⟩, m + 1 + 1 + 1, D6.upd v17 (by simp) (by simp) (by simp), by omega⟩
end
end K00
end
open PySem PySem.W PyProof.Rows
namespace K00
theorem law_plain (ns : List Int) (h : ns.length ≤ 63) : Z.wCall T (9 + 1) 8 [.fro (ns.map .int)] [] (fun d _ => d = .bl true) (fun _ _ => False) := by
  exact law_ok ns h
theorem walk {q : Program} {loose : List PySem.Str} {XP : (PySem.Str → Option Value) → Heap → Prop} {d : DefRec} (h1 : d.params.defaults = []) (h2 : d.name = "law") :
    PySem.W.WalkO q loose XP (Z.hookZ 6 fn (Z.fzT T)).says (PySem.Challenge.rw_pathgrafts_k00_errors_made).row.toRowW d [] (fun f vs => PySem.call f vs) :=
  Z.walkZ (l := PySem.Challenge.rw_pathgrafts_k00_errors_made) (m := 63) (k := 9) (i := 8) (fn := fn) (fi := funs.getD 8 fi0) (dd := d8) (x := "_law_script") (nm := "law") (M := 20) (fuel := fuel)
    rfl (by decide) h1 (by decide) ⟨rfl, by decide, by decide⟩ (fun w h y => y) stat rfl rfl rfl h2 rfl rfl (fun kV doc pm an cdv ct us hl => match us, hl with | [_], _ => by kernel_rfl) law_plain
end K00
set_option maxRecDepth 100000 in
set_option maxHeartbeats 8000000 in
theorem PySem.Challenge.cw_pathgrafts_k00_errors_made_holds : PySem.Challenge.rw_pathgrafts_k00_errors_made.Holds := by
  w_on; o_law; o_head (Z.hookZ 6 K00.fn (Z.fzT K00.T))
  case hw => w_witness2
  case hc => exact K00.walk (by kernel_rfl) (by kernel_rfl)
