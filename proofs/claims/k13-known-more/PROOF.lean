import PyProof.Rows.All
import Wide.All
import OpenK.AllK
import Wide.FinOn
import HandS.ForMost
import HandS.ForExc
import HandS.HeadHook2
import KE.KDictKeyed
import HandS.CallSlots
import HandS.Deep
import HandS.TupAny
import HandS.TupMul
import HandS.Star
import HandS.Style
import HandS.Wide
import HandS.MakeKwOnly
import HandS.Defaults
import HandS.WideBits
import HandS.TupLe
import KE.KDictWalk
import KE.GoesDict
import HandS.Small
import HandS.Zip
import KE.GoesNew
import HandS.Conv
import HandS.IsInst
import KE.KTupSum
import HandS.TupLen
import HandS.SlotsOwn
import KE.KDictDisplayH
import HandS.Iter
import HandS.DictComp
import KE.KDictCopyH
import KE.KDictOf
import HandS.Words
import HandS.HeadEnd
import HandS.Head2
import KE.KDictPairs
import PyProof.InstEq
import KE.KEqNest
import KE.DataEq
import HandS.TryMany
import HandS.ExcOwn
import HandS.ExcField
import PyProof.ExcBaseAll.ValueError
import HandS.Comp
import KE.KRevSl
import KE.KDictZip
import KE.KStar
import KE.DatumOrd
import KE.DataCmp
import Lean
import KE.KStateDown
import PySem.Challenge.RW_roundshares_k13_known_more
set_option Elab.async false
set_option linter.all false
set_option maxRecDepth 1000000
set_option maxHeartbeats 4000000
namespace Sh
open PySem L2

/-! ### data: immutable values by value, mutable objects by number -/
inductive D where
  | non | bl (b : Bool) | int (i : Int) | str (x : Str) | tup (l : List D) | ref (n : Nat) | ty (n : String)

mutual
def D.beq : D → D → Bool
  | .non, .non => true
  | .bl a, .bl b => a == b
  | .int a, .int b => a == b
  | .str a, .str b => decide (a = b)
  | .tup l, .tup r => D.beqs l r
  | .ref a, .ref b => a == b
  | .ty a, .ty b => a == b
  | _, _ => false
def D.beqs : List D → List D → Bool
  | [], [] => true
  | a :: l, b :: r => D.beq a b && D.beqs l r
  | _, _ => false
end
mutual
theorem D.beq_eq : ∀ (a b : D), D.beq a b = true ↔ a = b
  | .non, b => by cases b <;> simp [D.beq]
  | .bl a, b => by cases b <;> simp [D.beq]
  | .int a, b => by cases b <;> simp [D.beq]
  | .str a, b => by cases b <;> simp [D.beq]
  | .tup l, b => by
    cases b with
    | tup r => simp only [D.beq, D.tup.injEq]; exact D.beqs_eq l r
    | _ => simp [D.beq]
  | .ref a, b => by cases b <;> simp [D.beq]
  | .ty a, b => by cases b <;> simp [D.beq]
theorem D.beqs_eq : ∀ (a b : List D), D.beqs a b = true ↔ a = b
  | [], [] => by simp [D.beqs]
  | [], _ :: _ => by simp [D.beqs]
  | _ :: _, [] => by simp [D.beqs]
  | a :: l, b :: r => by
    simp only [D.beqs, Bool.and_eq_true, List.cons.injEq]
    exact and_congr (D.beq_eq a b) (D.beqs_eq l r)
end
instance : DecidableEq D := fun a b => if h : D.beq a b = true then .isTrue ((D.beq_eq a b).mp h) else .isFalse fun e => h ((D.beq_eq a b).mpr e)

inductive DO where
  | lst (l : List D)
  | fz (l : List D)
  | dct (kvs : List (D × D))
  | dlk (kvs : List (D × D))
  | ins (c : Nat) (fs : List (Str × D))
  | set (l : List Int)
  | dead
  | exn (c : Nat) (fs : List (Str × D))
  | sdc (fs : List (Str × D))
  deriving DecidableEq

abbrev Store := List DO
inductive Res (α : Type) where
  | ok (a : α) (M : Store)
  | exc (c : Nat) (fs : List (Str × D)) (M : Store)
  | bad
@[inline] def Res.bind {α β : Type} (r : Res α) (f : α → Store → Res β) : Res β := match r with
  | .ok a M => f a M
  | .exc c fs M => .exc c fs M
  | .bad => .bad
abbrev Env := List (Option D)
abbrev EF := Env → Store → Res D
abbrev TF := Env → Store → Res Bool
abbrev AF := Env → Store → Res (List D)
inductive Fl where
  | nx (σ : Env) | rt (d : D) | bk (σ : Env) | ct (σ : Env) | xc (c : Nat) (fs : List (Str × D)) (σ : Env)
abbrev SF := Env → Store → Res Fl
/-- behind an expression of a statement: what it raises is raised where the slots are σ -/
@[inline] def Res.bindS {α : Type} (σ : Env) (r : Res α) (f : α → Store → Res Fl) : Res Fl := match r with
  | .ok a M => f a M
  | .exc c fs M => .ok (.xc c fs σ) M
  | .bad => .bad
@[inline] def ofO {α : Type} : Option (α × Store) → Res α
  | some (a, M) => .ok a M
  | none => .bad
abbrev FF := List D → Store → Res D

/-- the program's classes, by number -/
def cnm : Nat → Str
  | 0 => "Rule" | 1 => "Bounded" | 2 => "Endless" | 3 => "Drift" | 4 => "Cheapest" | 5 => "NoChoice" | 6 => "Alike" | 7 => "Parted" | 8 => "Desk" | 9 => "Trial"
  | 10 => "Orderless" | 11 => "Ordered" | 12 => "Settled" | 13 => "Unsettled" | 14 => "ShareError" | 15 => "BadRule" | 16 => "BadReceiver" | 17 => "BadRow" | 18 => "BadSide" | 19 => "TooLarge"
  | 20 => "BadGoals" | 21 => "BadPrices" | 22 => "BadChoice" | 23 => "Unlike" | 24 => "BadAmount" | 25 => "NothingDone" | 26 => "BadText"
  | _ => ""
def ca (K : PySem.W.Frag) (n : Nat) : Addr := He.ga K (cnm n)

/-! ### what data are in the heap -/
section
variable (K : PySem.W.Frag) (ι : List Addr) (H : Hp)
mutual
def Rep : D → V → Prop
  | .non, v => v = .non
  | .bl b, v => v = .bl b
  | .int i, v => v = .int i
  | .str x, v => v = .str x
  | .tup l, v => ∃ a vs, v = .ref a ∧ SqT K H a vs ∧ Reps l vs
  | .ref n, v => ∃ a, ι[n]? = some a ∧ v = .ref a
  | .ty n, v => v = .ty n
def Reps : List D → List V → Prop
  | [], vs => vs = []
  | d :: l, vs => ∃ v r, vs = v :: r ∧ Rep d v ∧ Reps l r
end
end
end Sh

namespace Sh
open PySem L2

/-! ### keys of dicts -/
mutual
def nk : D → Option NestedKey
  | .non => some .none
  | .int i => some (.num i)
  | .str x => some (.text x)
  | .tup l => (nks l).map .tup
  | _ => none
def nks : List D → Option (List NestedKey)
  | [] => some []
  | d :: l => match nk d, nks l with
    | some k, some r => some (k :: r)
    | _, _ => none
end
/-- a key that a dict may have: a tuple, not too deep -/
def nkey : D → Option NestedKey
  | .tup l => match nks l with
    | some ks => if (NestedKey.tup ks).depth ≤ 8 then some (.tup ks) else none
    | none => none
  | _ => none

/-! ### objects -/
section
variable (K : PySem.W.Frag) (ι : List Addr) (H : Hp)
def FRel (fs : List (Str × D)) (vs : List (Str × V)) : Prop := Paired (fun (p : Str × D) (q : Str × V) => p.1 = q.1 ∧ Rep K ι H p.2 q.2) fs vs
/-- an entry: the key's tuple stands at q.2.1, the value is q.2.2 -/
def EntR (p : D × D) (q : NestedKey × Addr × Value) : Prop := nkey p.1 = some q.1 ∧ Rep K ι H p.1 (.ref q.2.1) ∧ ∃ v, RelV v q.2.2 ∧ Rep K ι H p.2 v
def entK (q : NestedKey × Addr × Value) (e : DictEntry) : Prop := True
def DctAt (P : Program) (w : World) (a : Addr) (kvs : List (D × D)) (o : Obj) : Prop :=
  (a == sysModules) = false ∧ kvs.length ≤ sizeLine ∧ o.ExactDict ∧ ∃ (es : Array DictEntry) (ep : Nat) (xs : List (NestedKey × Addr × Value)),
    o.data = .dict es ep ∧ es.toList = xs.map (entryOfKey (nestedKind P w)) ∧ (xs.map (·.1)).Nodup ∧ Paired (EntR K ι H) kvs xs
/-- what is known of the dict's object -/
def dctO (a : Addr) (o : Obj) : HO := .ext fun h => h.get? a = some o
def ORep (P : Program) (w : World) (a : Addr) : DO → Prop
  | .lst l => ∃ vs, H a = some (.lst vs) ∧ Reps K ι H l vs
  | .fz l => ∃ vs o, H a = some (.frz o (.lst vs)) ∧ Reps K ι H l vs
  | .ins c fs => ∃ dx vs, H a = some (.ins (ca K c) dx vs) ∧ FRel K ι H fs vs
  | .dct kvs => ∃ o, H a = some (dctO a o) ∧ DctAt K ι H P w a kvs o
  | .dlk kvs => ∃ o, H a = some (.frz o (dctO a o)) ∧ DctAt K ι H P w a kvs o
  | .set l => ∃ S, H a = some (.set S l.length) ∧ l.Nodup ∧ ∀ i, S i = decide (i ∈ l)
  | .dead => (∃ u, H a = some u) ∧ ∀ xs, ¬ Rd H a (.tup xs)
  | .exn c fs => ∃ oe : Obj, H a = some (dctO a oe) ∧ oe.cls = .ref (ca K c) ∧ (∃ vs, oe.data = .fields vs) ∧ ((fs = [] ∧ oe.dict = none) ∨ ∃ x ox vs, oe.dict = some x ∧ H x = some (.frz ox (.xd vs)) ∧ FRel K ι H fs vs)
  | .sdc fs => ∃ vs : List (Str × V), H a = some (.dK (vs.map fun p => (Sum.inr p.1, p.2))) ∧ FRel K ι H fs vs
structure Abs (P : Program) (w : World) (M : Store) : Prop where
  len : ι.length = M.length
  nd : ι.Nodup
  obj : ∀ (n : Nat) (a : Addr) (o : DO), ι[n]? = some a → M[n]? = some o → ORep K ι H P w a o
def EnvR (env : Env) (σ : St) : Prop := env.length = σ.length ∧ ∀ (i : Nat) (d : D), env[i]? = some (some d) → ∃ v, σ[i]? = some (some v) ∧ Rep K ι H d v
end
structure Step (ι : List Addr) (H : Hp) (ι' : List Addr) (H' : Hp) : Prop where
  pre : ∃ more, ι' = ι ++ more
  frame : ∀ a o, H a = some o → a ∉ ι → H' a = some o
  fresh : ∀ a, a ∈ ι' → a ∉ ι → H a = none
  frz : ∀ a o u, H a = some (.frz o u) → H' a = some (.frz o u)
section
variable {K : PySem.W.Frag} {P : Program} {w : World} {ι ι' ι'' : List Addr} {H H' H'' : Hp} {M M' : Store}
theorem Step.refl : Step ι H ι H := ⟨⟨[], by simp⟩, fun _ _ h _ => h, fun _ h n => absurd h n, fun _ _ _ h => h⟩
theorem Step.trans (s : Step ι H ι' H') (t : Step ι' H' ι'' H'') : Step ι H ι'' H'' where
  pre := by
    obtain ⟨a, rfl⟩ := s.pre
    obtain ⟨b, rfl⟩ := t.pre
    exact ⟨a ++ b, by simp⟩
  frame := fun a o h n => t.frame a o (s.frame a o h n) fun m => by rw [s.fresh a m n] at h; cases h
  fresh := fun a h n => by
    by_cases m : a ∈ ι'
    · exact s.fresh a m n
    · cases e : H a with
      | none => rfl
      | some o => have := s.frame a o e n; rw [t.fresh a h m] at this; cases this
  frz := fun a o u h => t.frz a o u (s.frz a o u h)
theorem Step.ix (s : Step ι H ι' H') {n : Nat} {a : Addr} (e : ι[n]? = some a) : ι'[n]? = some a := by
  obtain ⟨m, rfl⟩ := s.pre
  rw [List.getElem?_append_left (List.getElem?_eq_some_iff.mp e).1]; exact e
/-- no number stands for a tuple -/
def NT (ι : List Addr) (H : Hp) : Prop := ∀ a ∈ ι, ∀ xs, ¬ Rd H a (.tup xs)
theorem ORep.nt {a : Addr} {o : DO} (h : ORep K ι H P w a o) : ∀ xs, ¬ Rd H a (.tup xs) := by
  intro xs r
  cases o with
  | lst l => obtain ⟨vs, e, _⟩ := h; rcases r with r | ⟨o, r⟩ <;> (rw [e] at r; cases r)
  | fz l => obtain ⟨vs, o, e, _⟩ := h; rcases r with r | ⟨o, r⟩ <;> (rw [e] at r; cases r)
  | ins c fs => obtain ⟨dx, vs, e, _⟩ := h; rcases r with r | ⟨o, r⟩ <;> (rw [e] at r; cases r)
  | dct kvs => obtain ⟨o, e, _⟩ := h; rcases r with r | ⟨o, r⟩ <;> (rw [e] at r; cases r)
  | dlk kvs => obtain ⟨o, e, _⟩ := h; rcases r with r | ⟨o, r⟩ <;> (rw [e] at r; cases r)
  | set l => obtain ⟨S, e, _⟩ := h; rcases r with r | ⟨o, r⟩ <;> (rw [e] at r; cases r)
  | dead => exact h.2 xs r
  | exn c fs => obtain ⟨oe, e, _⟩ := h; rcases r with r | ⟨o, r⟩ <;> (rw [e] at r; cases r)
  | sdc fs => obtain ⟨vs, e, _⟩ := h; rcases r with r | ⟨o, r⟩ <;> (rw [e] at r; cases r)
theorem Abs.nt (A : Abs K ι H P w M) : NT ι H := fun a m => by
  obtain ⟨n, hn, e⟩ := List.getElem_of_mem m
  have h1 : ι[n]? = some a := by rw [List.getElem?_eq_getElem hn, e]
  have h2 : M[n]? = some (M[n]'(by rw [← A.len]; exact hn)) := List.getElem?_eq_getElem (by rw [← A.len]; exact hn)
  exact (A.obj n a _ h1 h2).nt
theorem NT.no (n : NT ι H) {a : Addr} : ∀ xs, Rd H a (.tup xs) → a ∉ ι := fun xs r m => n a m xs r
theorem _root_.L2.SqT.keep {a : Addr} {vs : List V} (h : SqT K H a vs) (n : ∀ xs, Rd H a (.tup xs) → a ∉ ι) (s : Step ι H ι' H') : SqT K H' a vs := by
  rcases h with h | h
  · refine .inl ?_
    have na := n _ h
    rcases h with h | ⟨o, h⟩
    · exact .inl (s.frame _ _ h na)
    · exact .inr ⟨o, s.frame _ _ h na⟩
  · exact .inr h
/-- tuples kept, numbers kept -/
structure Ext (K : PySem.W.Frag) (ι : List Addr) (H : Hp) (ι' : List Addr) (H' : Hp) : Prop where
  ix : ∀ (n : Nat) (a : Addr), ι[n]? = some a → ι'[n]? = some a
  tup : ∀ a vs, SqT K H a vs → SqT K H' a vs
  frz : ∀ a o u, H a = some (.frz o u) → H' a = some (.frz o u)
theorem Step.ext (s : Step ι H ι' H') (nt : NT ι H) : Ext K ι H ι' H' := ⟨fun _ _ e => s.ix e, fun _ _ h => h.keep nt.no s, s.frz⟩
mutual
theorem Rep.ext (s : Ext K ι H ι' H') : ∀ {d : D} {v : V}, Rep K ι H d v → Rep K ι' H' d v
  | .non, _, h => by simpa only [Rep] using h
  | .bl _, _, h => by simpa only [Rep] using h
  | .int _, _, h => by simpa only [Rep] using h
  | .str _, _, h => by simpa only [Rep] using h
  | .ty _, _, h => by simpa only [Rep] using h
  | .ref n, _, h => by
    simp only [Rep] at h ⊢
    obtain ⟨a, e, rfl⟩ := h
    exact ⟨a, s.ix n a e, rfl⟩
  | .tup l, _, h => by
    simp only [Rep] at h ⊢
    obtain ⟨a, vs, rfl, h1, h2⟩ := h
    exact ⟨a, vs, rfl, s.tup a vs h1, Reps.ext s h2⟩
theorem Reps.ext (s : Ext K ι H ι' H') : ∀ {l : List D} {vs : List V}, Reps K ι H l vs → Reps K ι' H' l vs
  | [], _, h => by simpa only [Reps] using h
  | d :: l, _, h => by
    simp only [Reps] at h ⊢
    obtain ⟨v, r, rfl, h1, h2⟩ := h
    exact ⟨v, r, rfl, Rep.ext s h1, Reps.ext s h2⟩
end
theorem FRel.ext (s : Ext K ι H ι' H') {fs : List (Str × D)} {vs : List (Str × V)} (h : FRel K ι H fs vs) : FRel K ι' H' fs vs := Paired.mapP h fun _ _ z => ⟨z.1, z.2.ext s⟩
theorem EntR.ext (s : Ext K ι H ι' H') {p : D × D} {q : NestedKey × Addr × Value} (h : EntR K ι H p q) : EntR K ι' H' p q := ⟨h.1, h.2.1.ext s, let ⟨v, r, z⟩ := h.2.2; ⟨v, r, z.ext s⟩⟩
theorem DctAt.ext (s : Ext K ι H ι' H') {a : Addr} {kvs : List (D × D)} {o : Obj} (h : DctAt K ι H P w a kvs o) : DctAt K ι' H' P w a kvs o :=
  let ⟨h1, h2, h3, es, ep, xs, h4, h5, h6, h7⟩ := h
  ⟨h1, h2, h3, es, ep, xs, h4, h5, h6, Paired.mapP h7 fun _ _ z => z.ext s⟩
theorem EnvR.ext (s : Ext K ι H ι' H') {env : Env} {σ : St} (h : EnvR K ι H env σ) : EnvR K ι' H' env σ := ⟨h.1, fun i d e => let ⟨v, e2, r⟩ := h.2 i d e; ⟨v, e2, r.ext s⟩⟩
theorem ORep.ext (s : Ext K ι H ι' H') {a : Addr} {o : DO} (e : ∀ u, H a = some u → H' a = some u) (hd : ∀ xs, Rd H' a (.tup xs) → Rd H a (.tup xs)) (h : ORep K ι H P w a o) : ORep K ι' H' P w a o := by
  cases o with
  | lst l => obtain ⟨vs, h1, h2⟩ := h; exact ⟨vs, e _ h1, h2.ext s⟩
  | fz l => obtain ⟨vs, o, h1, h2⟩ := h; exact ⟨vs, o, e _ h1, h2.ext s⟩
  | ins c fs => obtain ⟨dx, vs, h1, h2⟩ := h; exact ⟨dx, vs, e _ h1, h2.ext s⟩
  | dct kvs => obtain ⟨o, h1, h2⟩ := h; exact ⟨o, e _ h1, h2.ext s⟩
  | dlk kvs => obtain ⟨o, h1, h2⟩ := h; exact ⟨o, e _ h1, h2.ext s⟩
  | set l => obtain ⟨S, h1, h2⟩ := h; exact ⟨S, e _ h1, h2⟩
  | dead => exact ⟨let ⟨u, q⟩ := h.1; ⟨u, e u q⟩, fun xs r => h.2 xs (hd xs r)⟩
  | exn c fs =>
    obtain ⟨oe, h1, h2, h3, h4⟩ := h
    refine ⟨oe, e _ h1, h2, h3, ?_⟩
    rcases h4 with h4 | ⟨x, ox, vs, g1, g2, g3⟩
    · exact .inl h4
    · exact .inr ⟨x, ox, vs, g1, s.frz _ _ _ g2, g3.ext s⟩
  | sdc fs => obtain ⟨vs, h1, h2⟩ := h; exact ⟨vs, e _ h1, h2.ext s⟩
theorem Abs.have (A : Abs K ι H P w M) {n : Nat} {o : DO} (e : M[n]? = some o) : ∃ a, ι[n]? = some a ∧ ORep K ι H P w a o := by
  have hn : n < ι.length := by rw [A.len]; exact (List.getElem?_eq_some_iff.mp e).1
  exact ⟨ι[n], List.getElem?_eq_getElem hn, A.obj n _ o (List.getElem?_eq_getElem hn) e⟩
theorem ix_inj (nd : ι.Nodup) {n m : Nat} {a : Addr} (h1 : ι[n]? = some a) (h2 : ι[m]? = some a) : n = m := by
  exact (List.getElem?_inj (List.getElem?_eq_some_iff.mp h1).1 nd).mp (h1.trans h2.symm)
theorem ORep.some {a : Addr} {o : DO} (h : ORep K ι H P w a o) : ∃ u, H a = some u := by
  cases o with
  | lst l => obtain ⟨vs, e, _⟩ := h; exact ⟨_, e⟩
  | fz l => obtain ⟨vs, o, e, _⟩ := h; exact ⟨_, e⟩
  | ins c fs => obtain ⟨dx, vs, e, _⟩ := h; exact ⟨_, e⟩
  | dct kvs => obtain ⟨o, e, _⟩ := h; exact ⟨_, e⟩
  | dlk kvs => obtain ⟨o, e, _⟩ := h; exact ⟨_, e⟩
  | set l => obtain ⟨S, e, _⟩ := h; exact ⟨_, e⟩
  | dead => exact h.1
  | exn c fs => obtain ⟨oe, e, _⟩ := h; exact ⟨_, e⟩
  | sdc fs => obtain ⟨vs, e, _⟩ := h; exact ⟨_, e⟩
theorem Abs.tracked (A : Abs K ι H P w M) {a : Addr} (m : a ∈ ι) : ∃ u, H a = some u := by
  obtain ⟨n, hn, e⟩ := List.getElem_of_mem m
  have h1 : ι[n]? = some a := by rw [List.getElem?_eq_getElem hn, e]
  have h2 : M[n]? = some (M[n]'(by rw [← A.len]; exact hn)) := List.getElem?_eq_getElem (by rw [← A.len]; exact hn)
  exact (A.obj n a _ h1 h2).some
theorem Abs.notin (A : Abs K ι H P w M) {p : Addr} (hp : H p = none) : p ∉ ι := fun m => by
  obtain ⟨u, e⟩ := A.tracked m
  rw [hp] at e; cases e
/-! #### steps of the heap -/
theorem ext_new {p : Addr} {u : HO} (hp : H p = none) (more : List Addr) : Ext K ι H (ι ++ more) (upd H p u) where
  ix := fun n a e => by rw [List.getElem?_append_left (List.getElem?_eq_some_iff.mp e).1]; exact e
  tup := fun a vs h => by
    rcases h with (h | ⟨o, h⟩) | h
    · exact .inl (.inl (by rw [upd_ne (ne_of_none h hp)]; exact h))
    · exact .inl (.inr ⟨o, by rw [upd_ne (ne_of_none h hp)]; exact h⟩)
    · exact .inr h
  frz := fun a o u h => by rw [upd_ne (ne_of_none h hp)]; exact h
theorem step_new {p : Addr} {u : HO} (hp : H p = none) : Step ι H (ι ++ [p]) (upd H p u) where
  pre := ⟨[p], rfl⟩
  frame := fun a o h _ => by rw [upd_ne (ne_of_none h hp)]; exact h
  fresh := fun a h n => by
    rcases List.mem_append.mp h with h | h
    · exact absurd h n
    · rw [List.mem_singleton.mp h]; exact hp
  frz := fun a o u h => by rw [upd_ne (ne_of_none h hp)]; exact h
theorem step_tmp {p : Addr} {u : HO} (hp : H p = none) : Step ι H ι (upd H p u) where
  pre := ⟨[], by simp⟩
  frame := fun a o h _ => by rw [upd_ne (ne_of_none h hp)]; exact h
  fresh := fun a h n => absurd h n
  frz := fun a o u h => by rw [upd_ne (ne_of_none h hp)]; exact h
theorem ORep.new {a p : Addr} {u : HO} {o : DO} {more : List Addr} (hp : H p = none) (h : ORep K ι H P w a o) : ORep K (ι ++ more) (upd H p u) P w a o := by
  obtain ⟨q, hq⟩ := h.some
  have ne := ne_of_none hq hp
  exact h.ext (ext_new hp more) (fun u e => by rw [upd_ne ne]; exact e) fun xs r => by
    rcases r with r | ⟨o, r⟩
    · exact .inl (by rw [upd_ne ne] at r; exact r)
    · exact .inr ⟨o, by rw [upd_ne ne] at r; exact r⟩
theorem Abs.tmp (A : Abs K ι H P w M) {p : Addr} {u : HO} (hp : H p = none) : Abs K ι (upd H p u) P w M :=
  ⟨A.len, A.nd, fun n a o h1 h2 => by have := (A.obj n a o h1 h2).new (u := u) (more := []) hp; simpa using this⟩
theorem Abs.new (A : Abs K ι H P w M) {p : Addr} {u : HO} {o : DO} (hp : H p = none) (ho : ORep K (ι ++ [p]) (upd H p u) P w p o) : Abs K (ι ++ [p]) (upd H p u) P w (M ++ [o]) where
  len := by simp [A.len]
  nd := by
    rw [List.nodup_append]
    refine ⟨A.nd, by simp, fun a ha b hb e => ?_⟩
    rw [List.mem_singleton.mp hb] at e
    rw [e] at ha
    exact A.notin hp ha
  obj := fun n a o' h1 h2 => by
    by_cases hn : n < ι.length
    · rw [List.getElem?_append_left hn] at h1
      rw [List.getElem?_append_left (by rw [← A.len]; exact hn)] at h2
      exact (A.obj n a o' h1 h2).new hp
    · rw [List.getElem?_append_right (by omega)] at h1
      rw [List.getElem?_append_right (by rw [← A.len]; omega)] at h2
      cases q : n - ι.length with
      | zero =>
        rw [q] at h1
        rw [← A.len, q] at h2
        simp at h1 h2
        subst h1 h2
        exact ho
      | succ k => rw [q] at h1; simp at h1
/-- what is not locked -/
def NF (H : Hp) (a : Addr) : Prop := ∀ o u, H a ≠ some (.frz o u)
theorem NF.of {H : Hp} {a : Addr} {x : HO} (h : H a = some x) (n : ∀ o u, x ≠ .frz o u) : NF H a := fun o u e => n o u (Option.some.inj (h.symm.trans e))
theorem ext_upd (nt : NT ι H) {a : Addr} {u : HO} (ha : a ∈ ι) (nf : NF H a) : Ext K ι H ι (upd H a u) where
  ix := fun _ _ e => e
  tup := fun b vs h => by
    rcases h with (h | ⟨o, h⟩) | h
    · exact .inl (.inl (by rw [upd_ne fun z => nt a ha vs (by rw [← z]; exact .inl h)]; exact h))
    · exact .inl (.inr ⟨o, by rw [upd_ne fun z => nt a ha vs (by rw [← z]; exact .inr ⟨o, h⟩)]; exact h⟩)
    · exact .inr h
  frz := fun b o u h => by rw [upd_ne fun z => nf o u (by rw [← z]; exact h)]; exact h
theorem step_upd {a : Addr} {u : HO} (ha : a ∈ ι) (nf : NF H a) : Step ι H ι (upd H a u) where
  pre := ⟨[], by simp⟩
  frame := fun b o h n => by rw [upd_ne fun z => n (by rw [z]; exact ha)]; exact h
  fresh := fun a h n => absurd h n
  frz := fun b o u h => by rw [upd_ne fun z => nf o u (by rw [← z]; exact h)]; exact h
theorem Abs.upd (A : Abs K ι H P w M) {n : Nat} {a : Addr} {u : HO} {o : DO} (nf : NF H a) (ha : ι[n]? = some a) (ho : ORep K ι (upd H a u) P w a o) : Abs K ι (upd H a u) P w (M.set n o) where
  len := by simp [A.len]
  nd := A.nd
  obj := fun m b o' h1 h2 => by
    by_cases e : n = m
    · subst e
      rw [ha] at h1; cases h1
      have hl : n < M.length := by rw [← A.len]; exact (List.getElem?_eq_some_iff.mp ha).1
      rw [List.getElem?_set_self hl] at h2; cases h2
      exact ho
    · rw [List.getElem?_set_ne e] at h2
      have ne : b ≠ a := fun z => e (ix_inj A.nd ha (by rw [← z]; exact h1))
      exact (A.obj m b o' h1 h2).ext (ext_upd A.nt (List.mem_of_getElem? ha) nf) (fun u q => by rw [upd_ne ne]; exact q) fun xs r => by
        rcases r with r | ⟨o, r⟩
        · exact .inl (by rw [upd_ne ne] at r; exact r)
        · exact .inr ⟨o, by rw [upd_ne ne] at r; exact r⟩
end
end Sh

namespace Sh
open PySem L2

/-! ### a meaning as a reading -/
/-- what is known of an exception: its class, its own attributes -/
def XRep (K : PySem.W.Frag) (ι : List Addr) (H : Hp) (c : Nat) (fs : List (Str × D)) (cls : Value) (d : Option Addr) : Prop :=
  cls = .ref (ca K c) ∧ ((fs = [] ∧ d = none) ∨ ∃ x ox vs, d = some x ∧ H x = some (.frz ox (.xd vs)) ∧ FRel K ι H fs vs)
/-- the ground: module, program, world -/
structure Gd where
  K : PySem.W.Frag
  P : Program
  w : World
abbrev cgd (X : Cx) : Gd := ⟨X.K, X.prog, X.w⟩
section
variable (G : Gd) (W : WX) (ι : List Addr) (H : Hp)
def Post {α β : Type} (R : List Addr → Hp → α → β → Prop) (σ : St) (r : Res α) (Q : β → Hp → Prop) : Prop := match r with
  | .ok d M' => ∀ ι' H' v, Step ι H ι' H' → Abs G.K ι' H' G.P G.w M' → R ι' H' d v → Q v H'
  | .exc c fs M' => ∀ ι' H' cls d, Step ι H ι' H' → Abs G.K ι' H' G.P G.w M' → XRep G.K ι' H' c fs cls d → W cls d σ H'
  | .bad => False
abbrev PostE := Post G W ι H (Rep G.K)
abbrev PostA := Post G W ι H (Reps G.K)
abbrev PostT := Post G W ι H (fun _ _ (b c : Bool) => b = c)
def PostS (r : Res Fl) (C : Ends) : Prop := match r with
  | .ok (.nx env) M' => ∀ ι' H' σ', Step ι H ι' H' → Abs G.K ι' H' G.P G.w M' → EnvR G.K ι' H' env σ' → C.nx σ' H'
  | .ok (.rt d) M' => ∀ ι' H' v, Step ι H ι' H' → Abs G.K ι' H' G.P G.w M' → Rep G.K ι' H' d v → C.rt v H'
  | .ok (.bk env) M' => ∀ ι' H' σ', Step ι H ι' H' → Abs G.K ι' H' G.P G.w M' → EnvR G.K ι' H' env σ' → C.bk σ' H'
  | .ok (.ct env) M' => ∀ ι' H' σ', Step ι H ι' H' → Abs G.K ι' H' G.P G.w M' → EnvR G.K ι' H' env σ' → C.ct σ' H'
  | .ok (.xc c fs env) M' => ∀ ι' H' σ' cls d, Step ι H ι' H' → Abs G.K ι' H' G.P G.w M' → EnvR G.K ι' H' env σ' → XRep G.K ι' H' c fs cls d → W cls d σ' H'
  | .exc _ _ _ => False
  | .bad => False
def PostO (r : Option (D × Store)) (Q : VK) : Prop := match r with
  | some (d, M') => ∀ ι' H' v, Step ι H ι' H' → Abs G.K ι' H' G.P G.w M' → Rep G.K ι' H' d v → Q v H'
  | none => False
end
def tE (G : Gd) (W : WX) (f : EF) : TE := fun σ H Q => ∃ ι M env, Abs G.K ι H G.P G.w M ∧ EnvR G.K ι H env σ ∧ PostE G W ι H σ (f env M) Q
def tT (G : Gd) (W : WX) (f : TF) : TT := fun σ H Q => ∃ ι M env, Abs G.K ι H G.P G.w M ∧ EnvR G.K ι H env σ ∧ PostT G W ι H σ (f env M) Q
def tA (G : Gd) (W : WX) (f : AF) : TA := fun σ H Q => ∃ ι M env, Abs G.K ι H G.P G.w M ∧ EnvR G.K ι H env σ ∧ PostA G W ι H σ (f env M) Q
def tS (G : Gd) (W : WX) (f : SF) : TS := fun C σ H => ∃ ι M env, Abs G.K ι H G.P G.w M ∧ EnvR G.K ι H env σ ∧ PostS G W ι H (f env M) C
theorem _root_.L2.PE.imp {X : Cx} {e : Expr} {t t' : TE} (h : PE X e t) (i : ∀ σ H Q, t' σ H Q → t σ H Q) : PE X e t' := ⟨fun pins s σ H Q I q => h.run pins s σ H Q I (i σ H Q q)⟩
theorem _root_.L2.PT.imp {X : Cx} {e : Expr} {t t' : TT} (h : PT X e t) (i : ∀ σ H Q, t' σ H Q → t σ H Q) : PT X e t' := ⟨fun pins s σ H Q I q => h.run pins s σ H Q I (i σ H Q q)⟩
theorem _root_.L2.PW.imp {X : Cx} {e : Expr} {t t' : TT} (h : PW X e t) (i : ∀ σ H Q, t' σ H Q → t σ H Q) : PW X e t' := ⟨fun wh pins s σ H Q I q => h.run wh pins s σ H Q I (i σ H Q q)⟩
theorem _root_.L2.PA.imp {X : Cx} {e : List Expr} {t t' : TA} (h : PA X e t) (i : ∀ σ H Q, t' σ H Q → t σ H Q) : PA X e t' := ⟨fun p pins s σ H Q I q => h.run p pins s σ H Q I (i σ H Q q)⟩
theorem _root_.L2.PS.imp {X : Cx} {e : Stmt} {t t' : TS} (h : PS X e t) (i : ∀ C σ H, t' C σ H → t C σ H) : PS X e t' := ⟨fun pins s σ H Q I q => h.run pins s σ H Q I (i Q σ H q)⟩
theorem _root_.L2.PSs.imp {X : Cx} {e : List Stmt} {t t' : TS} (h : PSs X e t) (i : ∀ C σ H, t' C σ H → t C σ H) : PSs X e t' := ⟨fun pins s σ H Q I q => h.run pins s σ H Q I (i Q σ H q)⟩

abbrev SE (X : Cx) (W : WX) (e : Expr) (f : EF) : Prop := PE X e (tE (cgd X) W f)
abbrev ST (X : Cx) (W : WX) (e : Expr) (f : TF) : Prop := PT X e (tT (cgd X) W f)
abbrev SA (X : Cx) (W : WX) (e : List Expr) (f : AF) : Prop := PA X e (tA (cgd X) W f)
abbrev SS (X : Cx) (W : WX) (e : Stmt) (f : SF) : Prop := PS X e (tS (cgd X) W f)
abbrev SSs (X : Cx) (W : WX) (e : List Stmt) (f : SF) : Prop := PSs X e (tS (cgd X) W f)

section
variable {G : Gd} {W : WX} {ι : List Addr} {H : Hp} {σ : St} {M : Store} {env : Env} {α β : Type} {R : List Addr → Hp → α → β → Prop}
theorem Post.mono {r : Res α} {Q Q' : β → Hp → Prop} (h : Post G W ι H R σ r Q) (i : ∀ v H', Q v H' → Q' v H') : Post G W ι H R σ r Q' := by
  cases r with
  | ok d M' => exact fun ι' H' v s a q => i _ _ (h ι' H' v s a q)
  | exc c fs M' => exact h
  | bad => exact h
theorem Post.step {ι' : List Addr} {H' : Hp} {r : Res α} {Q : β → Hp → Prop} (s : Step ι H ι' H') (h : Post G W ι H R σ r Q) : Post G W ι' H' R σ r Q := by
  cases r with
  | ok d M' => exact fun ι'' H'' v t a q => h ι'' H'' v (s.trans t) a q
  | exc c fs M' => exact fun ι'' H'' v d t a q => h ι'' H'' v d (s.trans t) a q
  | bad => exact h
theorem PostS.step {ι' : List Addr} {H' : Hp} {r : Res Fl} {C : Ends} (s : Step ι H ι' H') (h : PostS G W ι H r C) : PostS G W ι' H' r C := by
  cases r with
  | ok d M' => cases d with
    | xc c fs env => exact fun ι'' H'' v cls d t a e q => h ι'' H'' v cls d (s.trans t) a e q
    | _ => exact fun ι'' H'' v t a q => h ι'' H'' v (s.trans t) a q
  | exc c fs M' => exact h
  | bad => exact h
theorem PostO.step {ι' : List Addr} {H' : Hp} {r : Option (D × Store)} {Q : VK} (s : Step ι H ι' H') (h : PostO G ι H r Q) : PostO G ι' H' r Q := by
  cases r with
  | none => exact h
  | some p => exact fun ι'' H'' v t a q => h ι'' H'' v (s.trans t) a q
theorem Post.ofO {r : Option (D × Store)} {Q : VK} (h : PostE G W ι H σ (ofO r) Q) : PostO G ι H r Q := by
  cases r with
  | none => exact h
  | some p => exact h
theorem tE.mono {f : EF} {Q Q' : VK} (h : tE G W f σ H Q) (i : ∀ v H', Q v H' → Q' v H') : tE G W f σ H Q' := let ⟨ι, M, env, A, E, h⟩ := h; ⟨ι, M, env, A, E, Post.mono h i⟩
theorem tT.mono {f : TF} {Q Q' : Bool → Hp → Prop} (h : tT G W f σ H Q) (i : ∀ v H', Q v H' → Q' v H') : tT G W f σ H Q' := let ⟨ι, M, env, A, E, h⟩ := h; ⟨ι, M, env, A, E, Post.mono h i⟩
theorem tA.mono {f : AF} {Q Q' : List V → Hp → Prop} (h : tA G W f σ H Q) (i : ∀ v H', Q v H' → Q' v H') : tA G W f σ H Q' := let ⟨ι, M, env, A, E, h⟩ := h; ⟨ι, M, env, A, E, Post.mono h i⟩
/-- one part behind another: the reading of the first is asked with what the second wants -/
theorem tE.seq {γ : Type} {δ : Type} {R2 : List Addr → Hp → γ → δ → Prop} {f : EF} {g : D → Store → Res γ} {Q : δ → Hp → Prop} (A : Abs G.K ι H G.P G.w M) (E : EnvR G.K ι H env σ)
    (h : Post G W ι H R2 σ ((f env M).bind g) Q) :
    tE G W f σ H fun x H1 => ∃ ι1 M1 d, Step ι H ι1 H1 ∧ Abs G.K ι1 H1 G.P G.w M1 ∧ EnvR G.K ι1 H1 env σ ∧ Rep G.K ι1 H1 d x ∧ f env M = .ok d M1 ∧ Post G W ι1 H1 R2 σ (g d M1) Q := by
  refine ⟨ι, M, env, A, E, ?_⟩
  cases e : f env M with
  | ok d M1 =>
    rw [e] at h
    exact fun ι' H' v s a r => ⟨ι', M1, d, s, a, E.ext (s.ext A.nt), r, rfl, Post.step s h⟩
  | exc c fs M1 => rw [e] at h; exact h
  | bad => rw [e] at h; exact h
theorem tE.seqS {f : EF} {g : D → Store → Res Fl} {C : Ends} (A : Abs G.K ι H G.P G.w M) (E : EnvR G.K ι H env σ)
    (h : PostS G W ι H ((f env M).bindS env g) C) :
    tE G W f σ H fun x H1 => ∃ ι1 M1 d, Step ι H ι1 H1 ∧ Abs G.K ι1 H1 G.P G.w M1 ∧ EnvR G.K ι1 H1 env σ ∧ Rep G.K ι1 H1 d x ∧ f env M = .ok d M1 ∧ PostS G W ι1 H1 (g d M1) C := by
  refine ⟨ι, M, env, A, E, ?_⟩
  cases e : f env M with
  | ok d M1 =>
    rw [e] at h
    exact fun ι' H' v s a r => ⟨ι', M1, d, s, a, E.ext (s.ext A.nt), r, rfl, PostS.step s h⟩
  | exc c fs M1 => rw [e] at h; exact fun ι' H' cls d s a x => h ι' H' σ cls d s a (E.ext (s.ext A.nt)) x
  | bad => rw [e] at h; exact h
theorem tT.seq {γ : Type} {δ : Type} {R2 : List Addr → Hp → γ → δ → Prop} {f : TF} {g : Bool → Store → Res γ} {Q : δ → Hp → Prop} (A : Abs G.K ι H G.P G.w M) (E : EnvR G.K ι H env σ)
    (h : Post G W ι H R2 σ ((f env M).bind g) Q) :
    tT G W f σ H fun x H1 => ∃ ι1 M1, Step ι H ι1 H1 ∧ Abs G.K ι1 H1 G.P G.w M1 ∧ EnvR G.K ι1 H1 env σ ∧ f env M = .ok x M1 ∧ Post G W ι1 H1 R2 σ (g x M1) Q := by
  refine ⟨ι, M, env, A, E, ?_⟩
  cases e : f env M with
  | ok d M1 =>
    rw [e] at h
    exact fun ι' H' v s a r => by subst r; exact ⟨ι', M1, s, a, E.ext (s.ext A.nt), rfl, Post.step s h⟩
  | exc c fs M1 => rw [e] at h; exact h
  | bad => rw [e] at h; exact h
theorem tT.seqS {f : TF} {g : Bool → Store → Res Fl} {C : Ends} (A : Abs G.K ι H G.P G.w M) (E : EnvR G.K ι H env σ)
    (h : PostS G W ι H ((f env M).bindS env g) C) :
    tT G W f σ H fun x H1 => ∃ ι1 M1, Step ι H ι1 H1 ∧ Abs G.K ι1 H1 G.P G.w M1 ∧ EnvR G.K ι1 H1 env σ ∧ f env M = .ok x M1 ∧ PostS G W ι1 H1 (g x M1) C := by
  refine ⟨ι, M, env, A, E, ?_⟩
  cases e : f env M with
  | ok d M1 =>
    rw [e] at h
    exact fun ι' H' v s a r => by subst r; exact ⟨ι', M1, s, a, E.ext (s.ext A.nt), rfl, PostS.step s h⟩
  | exc c fs M1 => rw [e] at h; exact fun ι' H' cls d s a x => h ι' H' σ cls d s a (E.ext (s.ext A.nt)) x
  | bad => rw [e] at h; exact h
theorem tA.seq {γ : Type} {δ : Type} {R2 : List Addr → Hp → γ → δ → Prop} {f : AF} {g : List D → Store → Res γ} {Q : δ → Hp → Prop} (A : Abs G.K ι H G.P G.w M) (E : EnvR G.K ι H env σ)
    (h : Post G W ι H R2 σ ((f env M).bind g) Q) :
    tA G W f σ H fun x H1 => ∃ ι1 M1 d, Step ι H ι1 H1 ∧ Abs G.K ι1 H1 G.P G.w M1 ∧ EnvR G.K ι1 H1 env σ ∧ Reps G.K ι1 H1 d x ∧ f env M = .ok d M1 ∧ Post G W ι1 H1 R2 σ (g d M1) Q := by
  refine ⟨ι, M, env, A, E, ?_⟩
  cases e : f env M with
  | ok d M1 =>
    rw [e] at h
    exact fun ι' H' v s a r => ⟨ι', M1, d, s, a, E.ext (s.ext A.nt), r, rfl, Post.step s h⟩
  | exc c fs M1 => rw [e] at h; exact h
  | bad => rw [e] at h; exact h
/-- a value told at once -/
theorem PostO.val {d : D} {v : V} {Q : VK} (A : Abs G.K ι H G.P G.w M) (r : Rep G.K ι H d v) (h : PostO G ι H (some (d, M)) Q) : Q v H := h ι H v Step.refl A r
theorem PostO.tup {l : List D} {vs : List V} {Q : VK} (A : Abs G.K ι H G.P G.w M) (r : Reps G.K ι H l vs) (h : PostO G ι H (some (.tup l, M)) Q) : ∀ p, H p = none → Q (.ref p) (upd H p (.tup vs)) := fun p hp =>
  h ι _ _ (step_tmp hp) (A.tmp hp) (by
    have e : Ext G.K ι H ι (upd H p (.tup vs)) := by have := ext_new (K := G.K) (ι := ι) (u := .tup vs) hp []; simpa using this
    simp only [Rep]
    exact ⟨p, vs, rfl, SqT.of upd_same, r.ext e⟩)
theorem PostO.lst {l : List D} {vs : List V} {Q : VK} (A : Abs G.K ι H G.P G.w M) (r : Reps G.K ι H l vs) (h : PostO G ι H (some (.ref M.length, M ++ [.lst l])) Q) : ∀ p, H p = none → Q (.ref p) (upd H p (.lst vs)) := fun p hp =>
  h (ι ++ [p]) _ _ (step_new hp) (A.new hp ⟨vs, upd_same, r.ext (ext_new hp _)⟩) (by
    simp only [Rep]
    exact ⟨p, by rw [← A.len]; simp, rfl⟩)
end
end Sh

namespace Sh
open PySem L2

/-! ### values by values -/
abbrev O1 := D → Store → Option (D × Store)
abbrev O2 := D → D → Store → Option (D × Store)
abbrev ON := List D → Store → Option (D × Store)
section
variable (G : Gd)
def rO1 (op : O1) : V → Hp → VK → Prop := fun x H Q => ∃ ι M d, Abs G.K ι H G.P G.w M ∧ Rep G.K ι H d x ∧ PostO G ι H (op d M) Q
def rO2 (op : O2) : R2 := fun x y H Q => ∃ ι M d e, Abs G.K ι H G.P G.w M ∧ Rep G.K ι H d x ∧ Rep G.K ι H e y ∧ PostO G ι H (op d e M) Q
def rON (op : ON) : List V → Hp → VK → Prop := fun xs H Q => ∃ ι M ds, Abs G.K ι H G.P G.w M ∧ Reps G.K ι H ds xs ∧ PostO G ι H (op ds M) Q
end
theorem _root_.L2.OpR.imp {X : Cx} {f : Value → Value → Sem Value} {r r' : R2} (h : OpR X f r) (i : ∀ x y H Q, r' x y H Q → r x y H Q) : OpR X f r' := fun pins s σ H x y v u Q I a b q => h pins s σ H x y v u Q I a b (i x y H Q q)
theorem _root_.L2.CallR.imp {X : Cx} {f : Value} {r r' : List V → Hp → VK → Prop} (h : CallR X f r) (i : ∀ x H Q, r' x H Q → r x H Q) : CallR X f r' := fun pins s σ H x v Q I a q => h pins s σ H x v Q I a (i x H Q q)
theorem _root_.L2.UnR.imp {X : Cx} {f : Value → Sem Value} {r r' : V → Hp → VK → Prop} (h : UnR X f r) (i : ∀ x H Q, r' x H Q → r x H Q) : UnR X f r' := fun pins s σ H x v Q I a q => h pins s σ H x v Q I a (i x H Q q)
theorem _root_.L2.IxR.imp {X : Cx} {r r' : R2} (h : IxR X r) (i : ∀ x y H Q, r' x y H Q → r x y H Q) : IxR X r' := fun a b pins s σ H x y v u Q I h1 h2 q => h a b pins s σ H x y v u Q I h1 h2 (i x y H Q q)

abbrev SOp (X : Cx) (f : Value → Value → Sem Value) (op : O2) : Prop := OpR X f (rO2 (cgd X) op)
abbrev SUn (X : Cx) (f : Value → Sem Value) (op : O1) : Prop := UnR X f (rO1 (cgd X) op)
abbrev SCl (X : Cx) (f : Value) (op : ON) : Prop := CallR X f (rON (cgd X) op)

/-! ### meanings of expressions -/
def eVar (i : Nat) : EF := fun σ M => match σ[i]? with
  | some (some d) => .ok d M
  | _ => .bad
def eC (d : D) : EF := fun _ M => .ok d M
def eBin (op : O2) (a b : EF) : EF := fun σ M => (a σ M).bind fun x M1 => (b σ M1).bind fun y M2 => ofO (op x y M2)
def eUn (op : O1) (a : EF) : EF := fun σ M => (a σ M).bind fun x M1 => ofO (op x M1)
def aNil : AF := fun _ M => .ok [] M
def aCons (a : EF) (r : AF) : AF := fun σ M => (a σ M).bind fun x M1 => (r σ M1).bind fun xs M2 => .ok (x :: xs) M2
def toB : D → Option Bool
  | .bl b => some b
  | _ => none
def eAnd (a b : EF) : EF := fun σ M => (a σ M).bind fun x M1 => match x with
  | .bl true => b σ M1
  | .bl false => .ok (.bl false) M1
  | _ => .bad
def eOr (a b : EF) : EF := fun σ M => (a σ M).bind fun x M1 => match x with
  | .bl true => .ok (.bl true) M1
  | .bl false => b σ M1
  | _ => .bad
def eNot (a : EF) : EF := fun σ M => (a σ M).bind fun x M1 => match x with
  | .bl b => .ok (.bl (!b)) M1
  | _ => .bad
def eIf (c : TF) (a b : EF) : EF := fun σ M => (c σ M).bind fun x M1 => if x = true then a σ M1 else b σ M1
def tVal (a : EF) : TF := fun σ M => (a σ M).bind fun x M1 => match x with
  | .bl b => .ok b M1
  | _ => .bad
def tAnd (a b : TF) : TF := fun σ M => (a σ M).bind fun x M1 => if x = true then b σ M1 else .ok false M1
def tOr (a b : TF) : TF := fun σ M => (a σ M).bind fun x M1 => if x = true then .ok true M1 else b σ M1
def tNot (a : TF) : TF := fun σ M => (a σ M).bind fun x M1 => .ok (!x) M1
def eTup (a : AF) : EF := fun σ M => (a σ M).bind fun l M1 => if l.length ≤ 1000000 then .ok (.tup l) M1 else .bad
def eLst (a : AF) : EF := fun σ M => (a σ M).bind fun l M1 => if l.length ≤ 1000000 then .ok (.ref M1.length) (M1 ++ [.lst l]) else .bad
def eChain (op op' : O2) (a b c : EF) : EF := fun σ M => (a σ M).bind fun x M1 => (b σ M1).bind fun y M2 => (ofO (op x y M2)).bind fun k M3 => match k with
  | .bl true => (c σ M3).bind fun z M4 => ofO (op' y z M4)
  | .bl false => .ok (.bl false) M3
  | _ => .bad
def eFld (f : Str) (ok : Nat → Bool) (a : EF) : EF := fun σ M => (a σ M).bind fun x M1 => match x with
  | .ref n => match M1[n]? with
    | some (.ins c fs) => if ok c = true then (match fs.lookup f with
      | some d => .ok d M1
      | none => .bad) else .bad
    | _ => .bad
  | _ => .bad

theorem lim_le {n : Nat} (h : n ≤ 1000000) : n ≤ sizeLine := Nat.le_trans h (by decide)
section
variable {X : Cx} {W : WX}
theorem se_var {i : Nat} {x : Str} {pos : Pos} (hN : X.N[i]? = some x) (hv : Vis X.env.scope x) (hd : (x == ("__debug__" : Str)) = false := by decide) (hcd : (x == ("__classdict__" : Str)) = false := by decide) : SE X W (.Name x pos) (eVar i) :=
  (pe_var hN hv hd hcd).imp fun σ H Q h => by
    obtain ⟨ι, M, env, A, E, h⟩ := h
    unfold eVar at h
    cases e : env[i]? with
    | none => rw [e] at h; exact h.elim
    | some o =>
      cases o with
      | none => rw [e] at h; exact h.elim
      | some d =>
        rw [e] at h
        obtain ⟨v, e2, r⟩ := E.2 i d e
        exact ⟨v, e2, h ι H v Step.refl A r⟩
theorem se_c {e : Expr} {v : V} {d : D} (h : PE X e (tC v)) (hr : ∀ ι H, Rep X.K ι H d v) : SE X W e (eC d) := h.imp fun σ H Q h => by
  obtain ⟨ι, M, env, A, E, h⟩ := h
  exact h ι H v Step.refl A (hr ι H)
theorem se_int {i j pos} : SE X W (.Constant (.int i) j pos) (eC (.int i)) := se_c pe_int fun _ _ => by simp only [Rep]
theorem se_bl {b j pos} : SE X W (.Constant (.bool b) j pos) (eC (.bl b)) := se_c pe_bl fun _ _ => by simp only [Rep]
theorem se_non {j pos} : SE X W (.Constant .none j pos) (eC .non) := se_c pe_non fun _ _ => by simp only [Rep]
theorem se_str {x j pos} : SE X W (.Constant (.str x) j pos) (eC (.str x)) := se_c pe_str fun _ _ => by simp only [Rep]
theorem bin_imp {G : Gd} {f : O2} {fa fb : EF} {σ : St} {H : Hp} {Q : VK} (h : tE G W (eBin f fa fb) σ H Q) : tOp (rO2 G f) (tE G W fa) (tE G W fb) σ H Q := by
  obtain ⟨ι, M, env, A, E, h⟩ := h
  refine tE.mono (tE.seq A E h) fun x H1 ⟨ι1, M1, d1, s1, A1, E1, r1, _, h1⟩ => ?_
  refine tE.mono (tE.seq A1 E1 h1) fun y H2 ⟨ι2, M2, d2, s2, A2, E2, r2, _, h2⟩ => ?_
  exact ⟨ι2, M2, d1, d2, A2, r1.ext (s2.ext A1.nt), r2, Post.ofO h2⟩
theorem test_imp {G : Gd} {f : EF} {t : TE} (i : ∀ σ H Q, tE G W f σ H Q → t σ H Q) {σ : St} {H : Hp} {Q : Bool → Hp → Prop} (h : tT G W (tVal f) σ H Q) : tTest t σ H Q := by
  obtain ⟨ι, M, env, A, E, h⟩ := h
  refine i _ _ _ ⟨ι, M, env, A, E, ?_⟩
  have h : Post G W ι H (fun _ _ (b c : Bool) => b = c) σ ((f env M).bind fun x M1 => match x with | .bl b => .ok b M1 | _ => .bad) Q := h
  cases e : f env M with
  | ok d M1 =>
    rw [e] at h
    intro ι1 H1 v s1 A1 r1
    cases d with
    | bl k =>
      simp only [Rep] at r1
      exact ⟨k, r1, h ι1 H1 _ s1 A1 rfl⟩
    | _ => exact h.elim
  | exc c fs M1 => rw [e] at h; exact h
  | bad => rw [e] at h; exact h
theorem se_bin {op : Operator} {f : O2} {a b : Expr} {fa fb : EF} {pos : Pos} (ho : SOp X (binaryOp op) f) (ha : SE X W a fa) (hb : SE X W b fb) : SE X W (.BinOp a op b pos) (eBin f fa fb) :=
  (pe_op ho ha hb).imp fun σ H Q h => bin_imp h
theorem se_cmp {op : CmpOp} {f : O2} {a b : Expr} {fa fb : EF} {pos : Pos} (ho : SOp X (compareOp op) f) (ha : SE X W a fa) (hb : SE X W b fb) (hm : behindInMarks op b = false) : SE X W (.Compare a [op] [b] pos) (eBin f fa fb) :=
  (pe_cmpR ho ha hb hm).imp fun σ H Q h => bin_imp h
theorem st_cmp {op : CmpOp} {f : O2} {a b : Expr} {fa fb : EF} {pos : Pos} (ho : SOp X (compareOp op) f) (ha : SE X W a fa) (hb : SE X W b fb) (hm : behindInMarks op b = false) : ST X W (.Compare a [op] [b] pos) (tVal (eBin f fa fb)) :=
  (pt_cmpR ho ha hb hm).imp fun σ H Q h => test_imp (fun _ _ _ q => bin_imp q) h
theorem se_un {op : UnaryOp} {f : O1} {a : Expr} {fa : EF} {pos : Pos} (ho : SUn X (unaryOp op) f) (ha : SE X W a fa) : SE X W (.UnaryOp op a pos) (eUn f fa) :=
  (pe_un ho ha).imp fun σ H Q h => by
    obtain ⟨ι, M, env, A, E, h⟩ := h
    refine tE.mono (tE.seq A E h) fun x H1 ⟨ι1, M1, d1, s1, A1, E1, r1, _, h1⟩ => ?_
    exact ⟨ι1, M1, d1, A1, r1, Post.ofO h1⟩
theorem se_and {a b : Expr} {rest : List Expr} {fa fb : EF} {pos : Pos} (ha : SE X W a fa) (hb : SE X W (.BoolOp .And (b :: rest) pos) fb) : SE X W (.BoolOp .And (a :: b :: rest) pos) (eAnd fa fb) :=
  (pe_and ha hb).imp fun σ H Q h => by
    obtain ⟨ι, M, env, A, E, h⟩ := h
    refine tE.mono (tE.seq A E h) fun x H1 ⟨ι1, M1, d1, s1, A1, E1, r1, _, h1⟩ => ?_
    cases d1 with
    | bl k =>
      simp only [Rep] at r1
      subst r1
      cases k with
      | true => exact ⟨true, rfl, by rw [if_pos rfl]; exact ⟨ι1, M1, env, A1, E1, h1⟩⟩
      | false => exact ⟨false, rfl, by rw [if_neg (by decide)]; exact h1 ι1 H1 _ Step.refl A1 (by simp only [Rep])⟩
    | _ => exact h1.elim
theorem se_or {a b : Expr} {rest : List Expr} {fa fb : EF} {pos : Pos} (ha : SE X W a fa) (hb : SE X W (.BoolOp .Or (b :: rest) pos) fb) : SE X W (.BoolOp .Or (a :: b :: rest) pos) (eOr fa fb) :=
  (pe_or ha hb).imp fun σ H Q h => by
    obtain ⟨ι, M, env, A, E, h⟩ := h
    refine tE.mono (tE.seq A E h) fun x H1 ⟨ι1, M1, d1, s1, A1, E1, r1, _, h1⟩ => ?_
    cases d1 with
    | bl k =>
      simp only [Rep] at r1
      subst r1
      cases k with
      | true => exact ⟨true, rfl, by rw [if_pos rfl]; exact h1 ι1 H1 _ Step.refl A1 (by simp only [Rep])⟩
      | false => exact ⟨false, rfl, by rw [if_neg (by decide)]; exact ⟨ι1, M1, env, A1, E1, h1⟩⟩
    | _ => exact h1.elim
theorem se_one {op} {a : Expr} {fa : EF} {pos : Pos} (ha : SE X W a fa) : SE X W (.BoolOp op [a] pos) fa := pe_one ha
theorem se_not {a : Expr} {fa : EF} {pos : Pos} (ha : SE X W a fa) : SE X W (.UnaryOp .Not a pos) (eNot fa) :=
  (pe_not ha).imp fun σ H Q h => by
    obtain ⟨ι, M, env, A, E, h⟩ := h
    refine tE.mono (tE.seq A E h) fun x H1 ⟨ι1, M1, d1, s1, A1, E1, r1, _, h1⟩ => ?_
    cases d1 with
    | bl k =>
      simp only [Rep] at r1
      exact ⟨k, r1, h1 ι1 H1 _ Step.refl A1 (by simp only [Rep])⟩
    | _ => exact h1.elim
theorem se_if {c a b : Expr} {fc : TF} {fa fb : EF} {pos : Pos} (hc : ST X W c fc) (ha : SE X W a fa) (hb : SE X W b fb) : SE X W (.IfExp c a b pos) (eIf fc fa fb) :=
  (pe_ifExp hc ha hb).imp fun σ H Q h => by
    obtain ⟨ι, M, env, A, E, h⟩ := h
    refine tT.mono (tT.seq A E h) fun x H1 ⟨ι1, M1, s1, A1, E1, _, h1⟩ => ?_
    cases x with
    | true => rw [if_pos rfl] at h1 ⊢; exact ⟨ι1, M1, env, A1, E1, h1⟩
    | false => rw [if_neg (by decide)] at h1 ⊢; exact ⟨ι1, M1, env, A1, E1, h1⟩
/-! tests -/
theorem st_val {e : Expr} {f : EF} (h : SE X W e f) (he : ∀ whole, isTrue e X.env whole = (do let v ← whole; standAt e.pos; holding [v] (truthy v)) := by intro _; rfl) : ST X W e (tVal f) :=
  (pt_val h he).imp fun σ H Q h => by
    obtain ⟨ι, M, env, A, E, h⟩ := h
    refine tE.mono (tE.seq A E h) fun x H1 ⟨ι1, M1, d1, s1, A1, E1, r1, _, h1⟩ => ?_
    cases d1 with
    | bl k =>
      simp only [Rep] at r1
      exact ⟨k, r1, h1 ι1 H1 _ Step.refl A1 rfl⟩
    | _ => exact h1.elim
theorem sw_and1 {a : Expr} {fa : TF} {pos : Pos} (ha : ST X W a fa) : PW X (.BoolOp .And [a] pos) (tT (cgd X) W fa) := pw_and1 ha
theorem sw_or1 {a : Expr} {fa : TF} {pos : Pos} (ha : ST X W a fa) : PW X (.BoolOp .Or [a] pos) (tT (cgd X) W fa) := pw_or1 ha
theorem sw_and {a b : Expr} {rest : List Expr} {fa fb : TF} {pos : Pos} (ha : ST X W a fa) (hb : PW X (.BoolOp .And (b :: rest) pos) (tT (cgd X) W fb)) : PW X (.BoolOp .And (a :: b :: rest) pos) (tT (cgd X) W (tAnd fa fb)) :=
  (pw_and ha hb).imp fun σ H Q h => by
    obtain ⟨ι, M, env, A, E, h⟩ := h
    refine tT.mono (tT.seq A E h) fun x H1 ⟨ι1, M1, s1, A1, E1, _, h1⟩ => ?_
    cases x with
    | true => rw [if_pos rfl] at h1 ⊢; exact ⟨ι1, M1, env, A1, E1, h1⟩
    | false => rw [if_neg (by decide)] at h1 ⊢; exact h1 ι1 H1 _ Step.refl A1 rfl
theorem sw_or {a b : Expr} {rest : List Expr} {fa fb : TF} {pos : Pos} (ha : ST X W a fa) (hb : PW X (.BoolOp .Or (b :: rest) pos) (tT (cgd X) W fb)) : PW X (.BoolOp .Or (a :: b :: rest) pos) (tT (cgd X) W (tOr fa fb)) :=
  (pw_or ha hb).imp fun σ H Q h => by
    obtain ⟨ι, M, env, A, E, h⟩ := h
    refine tT.mono (tT.seq A E h) fun x H1 ⟨ι1, M1, s1, A1, E1, _, h1⟩ => ?_
    cases x with
    | true => rw [if_pos rfl] at h1 ⊢; exact h1 ι1 H1 _ Step.refl A1 rfl
    | false => rw [if_neg (by decide)] at h1 ⊢; exact ⟨ι1, M1, env, A1, E1, h1⟩
theorem st_w {e : Expr} {f : TF} (h : PW X e (tT (cgd X) W f)) : ST X W e f := h.pt
theorem st_not {a : Expr} {fa : TF} {pos : Pos} (ha : ST X W a fa) : ST X W (.UnaryOp .Not a pos) (tNot fa) :=
  (pt_not ha).imp fun σ H Q h => by
    obtain ⟨ι, M, env, A, E, h⟩ := h
    refine tT.mono (tT.seq A E h) fun x H1 ⟨ι1, M1, s1, A1, E1, _, h1⟩ => ?_
    exact h1 ι1 H1 _ Step.refl A1 rfl
/-! displays, arguments -/
theorem sa_nil : SA X W [] aNil := pa_nil.imp fun σ H Q h => by
  obtain ⟨ι, M, env, A, E, h⟩ := h
  exact h ι H _ Step.refl A (by simp only [Reps])
theorem sa_cons {e : Expr} {es : List Expr} {fe : EF} {fr : AF} (ha : SE X W e fe) (hr : SA X W es fr) (hs : starEach (e :: es) X.env = (false, eval e X.env) :: starEach es X.env := by rfl) : SA X W (e :: es) (aCons fe fr) :=
  (pa_cons ha hr hs).imp fun σ H Q h => by
    obtain ⟨ι, M, env, A, E, h⟩ := h
    refine tE.mono (tE.seq A E h) fun x H1 ⟨ι1, M1, d1, s1, A1, E1, r1, _, h1⟩ => ?_
    refine tA.mono (tA.seq A1 E1 h1) fun xs H2 ⟨ι2, M2, d2, s2, A2, E2, r2, _, h2⟩ => ?_
    exact h2 ι2 H2 _ Step.refl A2 (by simp only [Reps]; exact ⟨_, _, rfl, r1.ext (s2.ext A1.nt), r2⟩)
theorem Reps.length {K : PySem.W.Frag} {ι : List Addr} {H : Hp} : ∀ {l : List D} {vs : List V}, Reps K ι H l vs → l.length = vs.length
  | [], vs, h => by simp only [Reps] at h; simp [h]
  | d :: l, vs, h => by
    simp only [Reps] at h
    obtain ⟨v, r, rfl, _, h2⟩ := h
    simp [Reps.length h2]
theorem se_tup {es : List Expr} {x1} {f : AF} {pos : Pos} (h : SA X W es f) : SE X W (.Tuple es x1 pos) (eTup f) :=
  (pe_tup h).imp fun σ H Q h => by
    obtain ⟨ι, M, env, A, E, h⟩ := h
    refine tA.mono (tA.seq A E h) fun xs H1 ⟨ι1, M1, d1, s1, A1, E1, r1, _, h1⟩ => ?_
    by_cases hl : d1.length ≤ 1000000
    · rw [if_pos hl] at h1
      exact ⟨by rw [← r1.length]; exact lim_le hl, PostO.tup A1 r1 (fun ι' H' v s a r => h1 ι' H' v s a r)⟩
    · rw [if_neg hl] at h1; exact h1.elim
theorem se_lst {es : List Expr} {f : AF} {pos : Pos} (h : SA X W es f) : SE X W (.List es pos) (eLst f) :=
  (pe_lst h).imp fun σ H Q h => by
    obtain ⟨ι, M, env, A, E, h⟩ := h
    refine tA.mono (tA.seq A E h) fun xs H1 ⟨ι1, M1, d1, s1, A1, E1, r1, _, h1⟩ => ?_
    by_cases hl : d1.length ≤ 1000000
    · rw [if_pos hl] at h1
      exact ⟨by rw [← r1.length]; exact lim_le hl, PostO.lst A1 r1 (fun ι' H' v s a r => h1 ι' H' v s a r)⟩
    · rw [if_neg hl] at h1; exact h1.elim
theorem chain_imp {G : Gd} {f f' : O2} {fa fb fc : EF} {σ : St} {H : Hp} {Q : VK} (h : tE G W (eChain f f' fa fb fc) σ H Q) : tChain (rO2 G f) (rO2 G f') (tE G W fa) (tE G W fb) (tE G W fc) σ H Q := by
  obtain ⟨ι, M, env, A, E, h⟩ := h
  refine tE.mono (tE.seq A E h) fun x H1 ⟨ι1, M1, d1, s1, A1, E1, r1, _, h1⟩ => ?_
  refine tE.mono (tE.seq A1 E1 h1) fun y H2 ⟨ι2, M2, d2, s2, A2, E2, r2, _, h2⟩ => ?_
  refine ⟨ι2, M2, d1, d2, A2, r1.ext (s2.ext A1.nt), r2, ?_⟩
  cases e : f d1 d2 M2 with
  | none => rw [e] at h2; exact h2
  | some p =>
    rw [e] at h2
    intro ι3 H3 v s3 A3 r3
    obtain ⟨z, M3⟩ := p
    have h3 := Post.step s3 h2
    have E3 := E2.ext (s3.ext A2.nt)
    have r2' := r2.ext (s3.ext A2.nt)
    cases z with
    | bl k =>
      simp only [Rep] at r3
      refine ⟨k, r3, ?_⟩
      cases k with
      | true =>
        rw [if_pos rfl]
        refine tE.mono (tE.seq A3 E3 h3) fun z H4 ⟨ι4, M4, d4, s4, A4, E4, r4, _, h4⟩ => ?_
        exact ⟨ι4, M4, d2, d4, A4, r2'.ext (s4.ext A3.nt), r4, Post.ofO h4⟩
      | false => rw [if_neg (by decide)]; exact h3 ι3 H3 _ Step.refl A3 (by simp only [Rep])
    | _ => exact h3.elim
theorem se_chain {op op' : CmpOp} {f f' : O2} {a b c : Expr} {fa fb fc : EF} {pos : Pos} (ho : SOp X (compareOp op) f) (ho' : SOp X (compareOp op') f') (ha : SE X W a fa) (hb : SE X W b fb) (hc : SE X W c fc)
    (hm : lastMarks [op, op'] [b, c] = false := by with_unfolding_all rfl) : SE X W (.Compare a [op, op'] [b, c] pos) (eChain f f' fa fb fc) :=
  (pe_chain ho ho' ha hb hc hm).imp fun σ H Q h => chain_imp h
theorem st_chain {op op' : CmpOp} {f f' : O2} {a b c : Expr} {fa fb fc : EF} {pos : Pos} (ho : SOp X (compareOp op) f) (ho' : SOp X (compareOp op') f') (ha : SE X W a fa) (hb : SE X W b fb) (hc : SE X W c fc)
    (hm : lastMarks [op, op'] [b, c] = false := by with_unfolding_all rfl) : ST X W (.Compare a [op, op'] [b, c] pos) (tVal (eChain f f' fa fb fc)) :=
  (pt_chain ho ho' ha hb hc hm).imp fun σ H Q h => test_imp (fun _ _ _ q => chain_imp q) h
/-! fields -/
theorem FRel.look {K : PySem.W.Frag} {ι : List Addr} {H : Hp} {f : Str} {d : D} : ∀ {fs : List (Str × D)} {vs : List (Str × V)}, FRel K ι H fs vs → fs.lookup f = some d → ∃ v, vs.lookup f = some v ∧ Rep K ι H d v
  | _, _, .nil, e => by simp at e
  | (g, x) :: fs, (g', y) :: vs, .cons r t, e => by
    obtain ⟨q, r⟩ := r
    simp only at q
    subst q
    simp only [List.lookup_cons] at e ⊢
    cases h : f == g with
    | true => rw [h] at e; simp only at e ⊢; cases e; exact ⟨y, rfl, r⟩
    | false => rw [h] at e; simp only at e ⊢; exact FRel.look t e
theorem FRel.lookN {K : PySem.W.Frag} {ι : List Addr} {H : Hp} {f : Str} : ∀ {fs : List (Str × D)} {vs : List (Str × V)}, FRel K ι H fs vs → fs.lookup f = none → vs.lookup f = none
  | _, _, .nil, e => rfl
  | (g, x) :: fs, (g', y) :: vs, .cons r t, e => by
    obtain ⟨q, r⟩ := r
    simp only at q
    subst q
    simp only [List.lookup_cons] at e ⊢
    cases h : f == g with
    | true => rw [h] at e; simp only at e; cases e
    | false => rw [h] at e; simp only at e ⊢; exact FRel.lookN t e
theorem se_fld {e : Expr} {f : Str} {fe : EF} {ok : Nat → Bool} {pos : Pos} (hc : ∀ c, ok c = true → Cls X.K (ca X.K c) ∧ NoAttr X.K (ca X.K c) f) (he : SE X W e fe) (hb : attributeBase e f X.env (eval e X.env) = eval e X.env) : SE X W (.Attribute e f pos) (eFld f ok fe) :=
  (pe_fld he hb).imp fun σ H Q h => by
    obtain ⟨ι, M, env, A, E, h⟩ := h
    refine tE.mono (tE.seq A E h) fun x H1 ⟨ι1, M1, d1, s1, A1, E1, r1, _, h1⟩ => ?_
    cases d1 with
    | ref n =>
      simp only at h1
      cases e1 : M1[n]? with
      | none => rw [e1] at h1; exact h1.elim
      | some o =>
        rw [e1] at h1
        cases o with
        | ins c fs =>
          simp only at h1
          cases e2 : ok c with
          | false => rw [e2, if_neg (by decide)] at h1; exact h1.elim
          | true =>
            rw [e2, if_pos rfl] at h1
            cases e3 : fs.lookup f with
            | none => rw [e3] at h1; exact h1.elim
            | some d =>
              rw [e3] at h1
              simp only [Rep] at r1
              obtain ⟨a, ea, rfl⟩ := r1
              obtain ⟨dx, vs, hH, fr⟩ := A1.obj n a _ ea e1
              obtain ⟨v, hv, rv⟩ := fr.look e3
              exact ⟨a, ca X.K c, dx, vs, v, rfl, hH, (hc c e2).1, (hc c e2).2, hv, h1 ι1 H1 _ Step.refl A1 rv⟩
        | _ => exact h1.elim
    | _ => exact h1.elim
end
end Sh

namespace Sh
open PySem L2

/-! ### targets -/
abbrev GF := D → Env → Store → Option (Env × Store)
abbrev GFs := List D → Env → Store → Option (Env × Store)
section
variable (G : Gd)
def PostG (ι : List Addr) (H : Hp) (r : Option (Env × Store)) (Q : St → Hp → Prop) : Prop := match r with
  | some (env, M') => ∀ ι' H' σ', Step ι H ι' H' → Abs G.K ι' H' G.P G.w M' → EnvR G.K ι' H' env σ' → Q σ' H'
  | none => False
def tG (f : GF) : TG := fun v σ H Q => ∃ ι M env d, Abs G.K ι H G.P G.w M ∧ EnvR G.K ι H env σ ∧ Rep G.K ι H d v ∧ PostG G ι H (f d env M) Q
def tGs (f : GFs) : TGs := fun vs σ H Q => ∃ ι M env ds, Abs G.K ι H G.P G.w M ∧ EnvR G.K ι H env σ ∧ Reps G.K ι H ds vs ∧ PostG G ι H (f ds env M) Q
end
theorem _root_.L2.PG.imp {X : Cx} {e : Expr} {t t' : TG} (h : PG X e t) (i : ∀ v σ H Q, t' v σ H Q → t v σ H Q) : PG X e t' := ⟨fun pins s σ H v u Q I r q => h.run pins s σ H v u Q I r (i v σ H Q q)⟩
theorem _root_.L2.PGs.imp {X : Cx} {e : List Expr} {t t' : TGs} (h : PGs X e t) (i : ∀ v σ H Q, t' v σ H Q → t v σ H Q) : PGs X e t' := ⟨fun pins s σ H v u Q I r q => h.run pins s σ H v u Q I r (i v σ H Q q)⟩
theorem _root_.L2.PSet.imp {X : Cx} {t t' : TSet} (h : PSet X t) (i : ∀ x y v H Q, t' x y v H Q → t x y v H Q) : PSet X t' := fun pins s σ H o j v ov iv u Q I a b c q => h pins s σ H o j v ov iv u Q I a b c (i o j v H Q q)
theorem _root_.L2.PGet.imp {X : Cx} {t t' : V → V → Hp → VK → Prop} (h : PGet X t) (i : ∀ x y H Q, t' x y H Q → t x y H Q) : PGet X t' := fun pins s σ H o j ov iv Q I a b q => h pins s σ H o j ov iv Q I a b (i o j H Q q)
theorem _root_.L2.PIp.imp {X : Cx} {op : Operator} {t t' : TIp} (h : PIp X op t) (i : ∀ x y H Q, t' x y H Q → t x y H Q) : PIp X op t' := fun pins s σ H o j ov iv Q I a b q => h pins s σ H o j ov iv Q I a b (i o j H Q q)
abbrev SG (X : Cx) (e : Expr) (f : GF) : Prop := PG X e (tG (cgd X) f)
abbrev SGs (X : Cx) (e : List Expr) (f : GFs) : Prop := PGs X e (tGs (cgd X) f)
/-- a store by values -/
abbrev O3 := D → D → D → Store → Option Store
def rO3 (G : Gd) (op : O3) : TSet := fun o i v H Q => ∃ ι M a b c, Abs G.K ι H G.P G.w M ∧ Rep G.K ι H a o ∧ Rep G.K ι H b i ∧ Rep G.K ι H c v ∧ match op a b c M with
  | some M' => ∀ ι' H', Step ι H ι' H' → Abs G.K ι' H' G.P G.w M' → Q H'
  | none => False

def gNm (i : Nat) : GF := fun d env M => some (env.set i (some d), M)
def gsNil : GFs := fun ds env M => match ds with
  | [] => some (env, M)
  | _ => none
def gsCons (g : GF) (r : GFs) : GFs := fun ds env M => match ds with
  | d :: l => match g d env M with
    | some (env1, M1) => r l env1 M1
    | none => none
  | [] => none
def gTu (n : Nat) (r : GFs) : GF := fun d env M => match d with
  | .tup l => if l.length = n then r l env M else none
  | .ref k => match M[k]? with
    | some (.lst l) => if l.length = n then r l env M else none
    | _ => none
  | _ => none

/-! ### meanings of statements -/
def sSkip : SF := fun env M => .ok (.nx env) M
def sBad : SF := fun _ _ => .bad
def sSeq (a b : SF) : SF := fun env M => match a env M with
  | .ok (.nx env1) M1 => b env1 M1
  | r => r
def sExpr (f : EF) : SF := fun env M => (f env M).bindS env fun _ M1 => .ok (.nx env) M1
def sRet (f : EF) : SF := fun env M => (f env M).bindS env fun d M1 => .ok (.rt d) M1
def sRetN : SF := fun env M => .ok (.rt .non) M
def sBrk : SF := fun env M => .ok (.bk env) M
def sCont : SF := fun env M => .ok (.ct env) M
def sIf (c : TF) (a b : SF) : SF := fun env M => (c env M).bindS env fun x M1 => if x = true then a env M1 else b env M1
def sAsg (f : EF) (g : GF) : SF := fun env M => (f env M).bindS env fun d M1 => match g d env M1 with
  | some (env2, M2) => .ok (.nx env2) M2
  | none => .bad
abbrev sSet (i : Nat) (f : EF) : SF := sAsg f (gNm i)
def sStore (op : O3) (fv fo fi : EF) : SF := fun env M => (fv env M).bindS env fun v M1 => (fo env M1).bindS env fun o M2 => (fi env M2).bindS env fun i M3 => match op o i v M3 with
  | some M4 => .ok (.nx env) M4
  | none => .bad
def sAugS (get : O2) (ip : O2) (op : O3) (fo fi fv : EF) : SF := fun env M => (fo env M).bindS env fun o M1 => (fi env M1).bindS env fun i M2 => (ofO (get o i M2)).bindS env fun x M3 => (fv env M3).bindS env fun y M4 => (ofO (ip x y M4)).bindS env fun z M5 => match op o i z M5 with
  | some M6 => .ok (.nx env) M6
  | none => .bad
section
variable {X : Cx} {W : WX}
theorem EnvR.set {K : PySem.W.Frag} {ι : List Addr} {H : Hp} {env : Env} {σ : St} {i : Nat} {d : D} {v : V} (E : EnvR K ι H env σ) (r : Rep K ι H d v) : EnvR K ι H (env.set i (some d)) (σ.set i (some v)) := by
  refine ⟨by simp [E.1], fun j x e => ?_⟩
  by_cases h : i = j
  · subst h
    by_cases hl : i < env.length
    · rw [List.getElem?_set_self hl] at e
      cases e
      exact ⟨v, by rw [List.getElem?_set_self (by rw [← E.1]; exact hl)], r⟩
    · rw [List.getElem?_eq_none (by simpa using hl)] at e; cases e
  · rw [List.getElem?_set_ne h] at e ⊢
    exact E.2 j x e
theorem sg_nm {i : Nat} {x : Str} {pos : Pos} (hN : X.N.Nodup) (hi : X.N[i]? = some x) (hx : Loc X.env.scope x) (hf : X.fn x = true ∨ X.env.scope.names.lookup x = some .local := by first | exact .inl rfl | exact .inr rfl | assumption) : SG X (.Name x pos) (gNm i) :=
  (pg_name hN hi hx hf).imp fun v σ H Q h => by
    obtain ⟨ι, M, env, d, A, E, r, h⟩ := h
    exact h ι H _ Step.refl A (E.set r)
theorem sgs_nil : SGs X [] gsNil := pgs_nil.imp fun vs σ H Q h => by
  obtain ⟨ι, M, env, ds, A, E, r, h⟩ := h
  cases ds with
  | nil => simp only [Reps] at r; exact ⟨r, h ι H _ Step.refl A E⟩
  | cons _ _ => exact h.elim
theorem sgs_cons {e : Expr} {es : List Expr} {g : GF} {r : GFs} (h1 : SG X e g) (h2 : SGs X es r)
    (hs : (assignEach (e :: es) X.env).map (·.2) = assign e X.env :: (assignEach es X.env).map (·.2) := by rfl) : SGs X (e :: es) (gsCons g r) :=
  (pgs_cons h1 h2 hs).imp fun vs σ H Q h => by
    obtain ⟨ι, M, env, ds, A, E, rr, h⟩ := h
    cases ds with
    | nil => exact h.elim
    | cons d l =>
      simp only [Reps] at rr
      obtain ⟨v, rs, rfl, r1, r2⟩ := rr
      refine ⟨v, rs, rfl, ι, M, env, d, A, E, r1, ?_⟩
      have h : PostG (cgd X) ι H (match g d env M with | some (env1, M1) => r l env1 M1 | none => none) Q := h
      cases e : g d env M with
      | none => rw [e] at h; exact h
      | some p =>
        rw [e] at h
        intro ι1 H1 σ1 s1 A1 E1
        refine ⟨ι1, p.2, p.1, l, A1, E1, r2.ext (s1.ext A.nt), ?_⟩
        cases e2 : r l p.1 p.2 with
        | none => simp only [e2] at h; exact h
        | some q => simp only [e2] at h; exact fun ι2 H2 σ2 s2 A2 E2 => h ι2 H2 σ2 (s1.trans s2) A2 E2
/-- a, b = x : a tuple, or a list -/
theorem sg_tu {es : List Expr} {k : Nat} {r : GFs} {n : Nat} {pos : Pos} (hc : X.calm = true) (h : SGs X es r)
    (hn : (assignEach es X.env).length = n := by rfl) (hst : (assignEach es X.env).findIdx? (·.1) = none := by rfl) : SG X (.Tuple es k pos) (gTu n r) := by
  have p1 := pg_tup (pos := pos) (k := k) hc h hn hst
  have p2 := pg_lst (pos := pos) (k := k) hc h hn hst
  refine ⟨fun pins s σ H v u Q I rv q => ?_⟩
  obtain ⟨ι, M, env, d, A, E, rr, q⟩ := q
  cases d with
  | tup l =>
    simp only [Rep] at rr
    obtain ⟨a, vs, rfl, h1, h2⟩ := rr
    have q : PostG (cgd X) ι H (if l.length = n then r l env M else none) Q := q
    by_cases hl : l.length = n
    · rw [if_pos hl] at q
      exact p1.run pins s σ H _ u Q I rv ⟨a, vs, rfl, h1, by rw [← h2.length]; exact hl, ι, M, env, l, A, E, h2, q⟩
    · rw [if_neg hl] at q; exact q.elim
  | ref k =>
    simp only [Rep] at rr
    obtain ⟨a, ea, rfl⟩ := rr
    have q : PostG (cgd X) ι H (match M[k]? with | some (.lst l) => if l.length = n then r l env M else none | _ => none) Q := q
    cases e : M[k]? with
    | none => rw [e] at q; exact q.elim
    | some o =>
      rw [e] at q
      cases o with
      | lst l =>
        simp only at q
        obtain ⟨vs, h1, h2⟩ := A.obj k a _ ea e
        by_cases hl : l.length = n
        · rw [if_pos hl] at q
          exact p2.run pins s σ H _ u Q I rv ⟨a, vs, rfl, SqL.of h1, by rw [← h2.length]; exact hl, ι, M, env, l, A, E, h2, q⟩
        · rw [if_neg hl] at q; exact q.elim
      | _ => exact q.elim
  | _ => exact q.elim
/-! ### statements -/
theorem sss_nil : SSs X W [] sSkip := pss_nil.imp fun C σ H h => by
  obtain ⟨ι, M, env, A, E, h⟩ := h
  exact h ι H _ Step.refl A E
theorem ss_pass {pos : Pos} : SS X W (.Pass pos) sSkip := ps_pass.imp fun C σ H h => by
  obtain ⟨ι, M, env, A, E, h⟩ := h
  exact h ι H _ Step.refl A E
theorem ss_doc {x j pos pos'} : SS X W (.Expr (.Constant (.str x) j pos) pos') sSkip := ps_doc.imp fun C σ H h => by
  obtain ⟨ι, M, env, A, E, h⟩ := h
  exact h ι H _ Step.refl A E
theorem ss_bad {st : Stmt} : SS X W st sBad := ps_never.imp fun C σ H h => by
  obtain ⟨ι, M, env, A, E, h⟩ := h
  exact h.elim
theorem sss_bad {st : List Stmt} : SSs X W st sBad := pss_never.imp fun C σ H h => by
  obtain ⟨ι, M, env, A, E, h⟩ := h
  exact h.elim
theorem sss_cons {st : Stmt} {rest : List Stmt} {f g : SF} (h1 : SS X W st f) (h2 : SSs X W rest g) : SSs X W (st :: rest) (sSeq f g) :=
  (pss_cons h1 h2).imp fun C σ H h => by
    obtain ⟨ι, M, env, A, E, h⟩ := h
    refine ⟨ι, M, env, A, E, ?_⟩
    have h : PostS (cgd X) W ι H (match f env M with | .ok (.nx env1) M1 => g env1 M1 | r => r) C := h
    cases e : f env M with
    | ok fl M1 =>
      rw [e] at h
      cases fl with
      | nx env1 => exact fun ι1 H1 σ1 s1 A1 E1 => ⟨ι1, M1, env1, A1, E1, PostS.step s1 h⟩
      | _ => exact h
    | exc c fs M1 => rw [e] at h; exact h
    | bad => rw [e] at h; exact h
theorem sss_one {st : Stmt} {f : SF} (h1 : SS X W st f) : SSs X W [st] f := pss_one h1
theorem ss_expr {e : Expr} {f : EF} {pos : Pos} (he : SE X W e f) (hs : swapsWith e none pos.line X.env = pure false := by rfl) : SS X W (.Expr e pos) (sExpr f) :=
  (ps_expr he hs).imp fun C σ H h => by
    obtain ⟨ι, M, env, A, E, h⟩ := h
    refine tE.mono (tE.seqS A E h) fun x H1 ⟨ι1, M1, d1, s1, A1, E1, r1, _, h1⟩ => ?_
    exact h1 ι1 H1 _ Step.refl A1 E1
theorem ss_ret {e : Expr} {f : EF} {pos : Pos} (he : SE X W e f) : SS X W (.Return (some e) pos) (sRet f) :=
  (ps_ret he).imp fun C σ H h => by
    obtain ⟨ι, M, env, A, E, h⟩ := h
    refine tE.mono (tE.seqS A E h) fun x H1 ⟨ι1, M1, d1, s1, A1, E1, r1, _, h1⟩ => ?_
    exact h1 ι1 H1 _ Step.refl A1 r1
theorem ss_retN {pos : Pos} : SS X W (.Return none pos) sRetN := ps_retN.imp fun C σ H h => by
  obtain ⟨ι, M, env, A, E, h⟩ := h
  exact h ι H _ Step.refl A (by simp only [Rep])
theorem ss_brk {pos : Pos} : SS X W (.Break pos) sBrk := ps_break.imp fun C σ H h => by
  obtain ⟨ι, M, env, A, E, h⟩ := h
  exact h ι H _ Step.refl A E
theorem ss_cont {pos : Pos} : SS X W (.Continue pos) sCont := ps_continue.imp fun C σ H h => by
  obtain ⟨ι, M, env, A, E, h⟩ := h
  exact h ι H _ Step.refl A E
theorem ss_if {c : Expr} {a b : List Stmt} {fc : TF} {fa fb : SF} {pos : Pos} (hc : ST X W c fc) (ha : SSs X W a fa) (hb : SSs X W b fb) : SS X W (.If c a b pos) (sIf fc fa fb) :=
  (ps_if hc ha hb).imp fun C σ H h => by
    obtain ⟨ι, M, env, A, E, h⟩ := h
    refine tT.mono (tT.seqS A E h) fun x H1 ⟨ι1, M1, s1, A1, E1, _, h1⟩ => ?_
    cases x with
    | true => rw [if_pos rfl] at h1 ⊢; exact ⟨ι1, M1, env, A1, E1, h1⟩
    | false => rw [if_neg (by decide)] at h1 ⊢; exact ⟨ι1, M1, env, A1, E1, h1⟩
theorem asg_imp {f : EF} {g : GF} {C : Ends} {σ : St} {H : Hp} (h : tS (cgd X) W (sAsg f g) C σ H) : tAsg (tE (cgd X) W f) (tG (cgd X) g) C σ H := by
  obtain ⟨ι, M, env, A, E, h⟩ := h
  refine tE.mono (tE.seqS A E h) fun x H1 ⟨ι1, M1, d1, s1, A1, E1, r1, _, h1⟩ => ?_
  refine ⟨ι1, M1, env, d1, A1, E1, r1, ?_⟩
  cases e : g d1 env M1 with
  | none => rw [e] at h1; exact h1
  | some p => rw [e] at h1; exact h1
theorem ss_asg {tg e : Expr} {f : EF} {g : GF} {pos : Pos} (he : SE X W e f) (hg : SG X tg g) (hs : swapsWithSole [tg] e pos.line X.env = pure false := by rfl) (hw : swappedStores [tg] e X.env = pure none := by rfl)
    (h1 : (assignEach [tg] X.env).map (·.2) = [assign tg X.env] := by rfl) : SS X W (.Assign [tg] e pos) (sAsg f g) :=
  (ps_asg he hg hs hw h1).imp fun C σ H h => asg_imp h
theorem ss_set {i : Nat} {x : Str} {e : Expr} {f : EF} {pos pos' : Pos} (hN : X.N.Nodup) (hi : X.N[i]? = some x) (hx : Loc X.env.scope x) (he : SE X W e f) (hs : swapsWith e (some (.Name x pos')) pos.line X.env = pure false := by rfl) (hf : X.fn x = true ∨ X.env.scope.names.lookup x = some .local := by first | exact .inl rfl | exact .inr rfl | assumption) :
    SS X W (.Assign [.Name x pos'] e pos) (sSet i f) :=
  (ps_set hN hi hx he hs hf).imp fun C σ H h => by
    obtain ⟨ι, M, env, A, E, h⟩ := h
    refine tE.mono (tE.seqS A E h) fun x H1 ⟨ι1, M1, d1, s1, A1, E1, r1, _, h1⟩ => ?_
    exact h1 ι1 H1 _ Step.refl A1 (E1.set r1)
end
end Sh

namespace Sh
open PySem L2

/-! ### what is walked -/
structure Src where
  items : List D
  guard : Store → Bool
abbrev IF := Env → Store → Res Src
/-- the iterator J gives out the items, as long as the guard stands -/
def SimI (G : Gd) (ι0 : List Addr) (H0 : Hp) (J : It) (s : Src) : Prop := ∀ (i : Nat) (ι : List Addr) (H : Hp) (M : Store), Ext G.K ι0 H0 ι H → Abs G.K ι H G.P G.w M → s.guard M = true →
  (∀ d, s.items[i]? = some d → J.go i H ∧ ∀ x H', J.yld i H x H' → Step ι H ι H' ∧ Abs G.K ι H' G.P G.w M ∧ Rep G.K ι H' d x) ∧ (i = s.items.length → J.stop i H)
def tI (G : Gd) (W : WX) (f : IF) : TI := fun σ H R => ∃ ι M env, Abs G.K ι H G.P G.w M ∧ EnvR G.K ι H env σ ∧ Post G W ι H (fun ι' H' s J => SimI G ι' H' J s) σ (f env M) R
theorem _root_.L2.PI.imp {X : Cx} {tg e : Expr} {t t' : TI} (h : PI X tg e t) (i : ∀ σ H R, t' σ H R → t σ H R) : PI X tg e t' := ⟨fun pins s σ H R I q => h.run pins s σ H R I (i σ H R q)⟩
abbrev SI (X : Cx) (W : WX) (tg e : Expr) (f : IF) : Prop := PI X tg e (tI (cgd X) W f)
section
variable {G : Gd} {W : WX} {ι : List Addr} {H : Hp} {σ : St} {M : Store} {env : Env}
theorem tI.seqS {f : IF} {g : Src → Store → Res Fl} {C : Ends} (A : Abs G.K ι H G.P G.w M) (E : EnvR G.K ι H env σ)
    (h : PostS G W ι H ((f env M).bindS env g) C) :
    tI G W f σ H fun J H1 => ∃ ι1 M1 d, Step ι H ι1 H1 ∧ Abs G.K ι1 H1 G.P G.w M1 ∧ EnvR G.K ι1 H1 env σ ∧ SimI G ι1 H1 J d ∧ f env M = .ok d M1 ∧ PostS G W ι1 H1 (g d M1) C := by
  refine ⟨ι, M, env, A, E, ?_⟩
  cases e : f env M with
  | ok d M1 =>
    rw [e] at h
    exact fun ι' H' v s a r => ⟨ι', M1, d, s, a, E.ext (s.ext A.nt), r, rfl, PostS.step s h⟩
  | exc c fs M1 => rw [e] at h; exact fun ι' H' cls d s a x => h ι' H' σ cls d s a (E.ext (s.ext A.nt)) x
  | bad => rw [e] at h; exact h
theorem tI.seq {γ : Type} {δ : Type} {R2 : List Addr → Hp → γ → δ → Prop} {f : IF} {g : Src → Store → Res γ} {Q : δ → Hp → Prop} (A : Abs G.K ι H G.P G.w M) (E : EnvR G.K ι H env σ)
    (h : Post G W ι H R2 σ ((f env M).bind g) Q) :
    tI G W f σ H fun J H1 => ∃ ι1 M1 d, Step ι H ι1 H1 ∧ Abs G.K ι1 H1 G.P G.w M1 ∧ EnvR G.K ι1 H1 env σ ∧ SimI G ι1 H1 J d ∧ f env M = .ok d M1 ∧ Post G W ι1 H1 R2 σ (g d M1) Q := by
  refine ⟨ι, M, env, A, E, ?_⟩
  cases e : f env M with
  | ok d M1 =>
    rw [e] at h
    exact fun ι' H' v s a r => ⟨ι', M1, d, s, a, E.ext (s.ext A.nt), r, rfl, Post.step s h⟩
  | exc c fs M1 => rw [e] at h; exact h
  | bad => rw [e] at h; exact h
theorem tI.mono {f : IF} {R R' : It → Hp → Prop} (h : tI G W f σ H R) (i : ∀ v H', R v H' → R' v H') : tI G W f σ H R' := let ⟨ι, M, env, A, E, h⟩ := h; ⟨ι, M, env, A, E, Post.mono h i⟩
theorem Ext.refl {K : PySem.W.Frag} {ι : List Addr} {H : Hp} : Ext K ι H ι H := ⟨fun _ _ h => h, fun _ _ h => h, fun _ _ _ h => h⟩
theorem Ext.trans {K : PySem.W.Frag} {ι ι' ι'' : List Addr} {H H' H'' : Hp} (a : Ext K ι H ι' H') (b : Ext K ι' H' ι'' H'') : Ext K ι H ι'' H'' := ⟨fun n x h => b.ix n x (a.ix n x h), fun x v h => b.tup x v (a.tup x v h), fun x o u h => b.frz x o u (a.frz x o u h)⟩
end
/-! ### for -/
def forGo (guard : Store → Bool) (g : GF) (body : SF) : List D → Env → Store → Res Fl
  | [], env, M => if guard M = true then .ok (.nx env) M else .bad
  | x :: r, env, M => if guard M = true then (match g x env M with
    | none => .bad
    | some (env1, M1) => match body env1 M1 with
      | .ok (.nx e) M2 => forGo guard g body r e M2
      | .ok (.ct e) M2 => forGo guard g body r e M2
      | .ok (.bk e) M2 => .ok (.nx e) M2
      | q => q) else .bad
def sFor (fi : IF) (g : GF) (body : SF) : SF := fun env M => (fi env M).bindS env fun s M1 => forGo s.guard g body s.items env M1
def whGo (c : TF) (body : SF) : Nat → Env → Store → Res Fl
  | 0, _, _ => .bad
  | n + 1, env, M => (c env M).bindS env fun x M1 => if x = true then (match body env M1 with
      | .ok (.nx e) M2 => whGo c body n e M2
      | .ok (.ct e) M2 => whGo c body n e M2
      | .ok (.bk e) M2 => .ok (.nx e) M2
      | q => q) else .ok (.nx env) M1
def sWhile (n : Nat) (c : TF) (body : SF) : SF := fun env M => whGo c body n env M
section
variable {X : Cx} {W : WX}
theorem ss_for {tg iter : Expr} {body : List Stmt} {fi : IF} {g : GF} {fb : SF} {pos : Pos} (hp : PassesOwn (model X.prog X.w) X.A X.env X.xe) (hc : X.calm = true) (hi : SI X W tg iter fi) (hg : SG X tg g) (hb : SSs X W body fb) (hs : ∀ x, foldedSetIterable iter X.env x = pure x := by intro _; rfl) :
    SS X W (.For tg iter body [] pos) (sFor fi g fb) :=
  (ps_for hp hc hi hg hb hs).imp fun C σ H h => by
    obtain ⟨ι, M, env, A, E, h⟩ := h
    refine tI.mono (tI.seqS A E h) fun J H1 ⟨ι1, M1, s, s1, A1, E1, sim, _, h1⟩ => ?_
    refine ⟨fun i m σ H => m = s.items.length - i ∧ i ≤ s.items.length ∧ ∃ ι M env, Ext (cgd X).K ι1 H1 ι H ∧ Abs (cgd X).K ι H (cgd X).P (cgd X).w M ∧ EnvR (cgd X).K ι H env σ ∧ PostS (cgd X) W ι H (forGo s.guard g fb (s.items.drop i) env M) C,
      ⟨s.items.length, by simp, Nat.zero_le _, ι1, M1, env, Ext.refl, A1, E1, by simpa using h1⟩, ?_⟩
    rintro i m σ2 H2 ⟨rfl, hile, ι2, M2, env2, x2, A2, E2, h2⟩
    cases ei : s.items[i]? with
    | none =>
      have hl : s.items.length ≤ i := List.getElem?_eq_none_iff.mp ei
      rw [List.drop_eq_nil_of_le hl] at h2
      unfold forGo at h2
      by_cases hgd : s.guard M2 = true
      · rw [if_pos hgd] at h2
        exact .inl ⟨(sim i ι2 H2 M2 x2 A2 hgd).2 (Nat.le_antisymm hile hl), h2 ι2 H2 σ2 Step.refl A2 E2⟩
      · rw [if_neg hgd] at h2; exact h2.elim
    | some d =>
      obtain ⟨hl, ed⟩ := List.getElem?_eq_some_iff.mp ei
      rw [List.drop_eq_getElem_cons hl, ed] at h2
      unfold forGo at h2
      by_cases hgd : s.guard M2 = true
      · rw [if_pos hgd] at h2
        obtain ⟨go, yl⟩ := (sim i ι2 H2 M2 x2 A2 hgd).1 d ei
        refine .inr ⟨go, fun σ' H' => ∃ m', m' < s.items.length - i ∧ m' = s.items.length - (i + 1) ∧ i + 1 ≤ s.items.length ∧ ∃ ι M env, Ext (cgd X).K ι1 H1 ι H' ∧ Abs (cgd X).K ι H' (cgd X).P (cgd X).w M ∧ EnvR (cgd X).K ι H' env σ' ∧ PostS (cgd X) W ι H' (forGo s.guard g fb (s.items.drop (i + 1)) env M) C, fun σ' H' h => h, fun x H3 hy => ?_⟩
        obtain ⟨s3, A3, r3⟩ := yl x H3 hy
        have x3 := x2.trans (s3.ext A2.nt)
        refine ⟨ι2, M2, env2, d, A3, E2.ext (s3.ext A2.nt), r3, ?_⟩
        cases eg : g d env2 M2 with
        | none => rw [eg] at h2; exact h2
        | some p =>
          rw [eg] at h2
          intro ι4 H4 σ4 s4 A4 E4
          have x4 := x3.trans (s4.ext A3.nt)
          refine ⟨ι4, p.2, p.1, A4, E4, ?_⟩
          have h4 := PostS.step (s3.trans s4) h2
          have lt : s.items.length - (i + 1) < s.items.length - i := by omega
          cases eb : fb p.1 p.2 with
          | ok fl M5 =>
            simp only [eb] at h4
            cases fl with
            | nx e => exact fun ι5 H5 σ5 s5 A5 E5 => ⟨_, lt, rfl, hl, ι5, M5, e, x4.trans (s5.ext A4.nt), A5, E5, PostS.step s5 h4⟩
            | ct e => exact fun ι5 H5 σ5 s5 A5 E5 => ⟨_, lt, rfl, hl, ι5, M5, e, x4.trans (s5.ext A4.nt), A5, E5, PostS.step s5 h4⟩
            | bk e => exact h4
            | rt d => exact h4
            | xc c fs e => exact h4
          | exc c fs M5 => simp only [eb] at h4; exact h4
          | bad => simp only [eb] at h4; exact h4
      · rw [if_neg hgd] at h2; exact h2.elim
theorem ss_while {c : Expr} {body : List Stmt} {n : Nat} {fc : TF} {fb : SF} {pos : Pos} (hp : PassesOwn (model X.prog X.w) X.A X.env X.xe) (hc : ST X W c fc) (hb : SSs X W body fb) : SS X W (.While c body [] pos) (sWhile n fc fb) :=
  (ps_while hp hc hb).imp fun C σ H h => by
    obtain ⟨ι, M, env, A, E, h⟩ := h
    refine ⟨fun m σ H => ∃ ι M env, Abs (cgd X).K ι H (cgd X).P (cgd X).w M ∧ EnvR (cgd X).K ι H env σ ∧ PostS (cgd X) W ι H (whGo fc fb m env M) C, ⟨n, ι, M, env, A, E, h⟩, ?_⟩
    rintro m σ1 H1 ⟨ι1, M1, env1, A1, E1, h1⟩
    cases m with
    | zero => exact h1.elim
    | succ m =>
      unfold whGo at h1
      refine tT.mono (tT.seqS A1 E1 h1) fun x H2 ⟨ι2, M2, s2, A2, E2, _, h2⟩ => ?_
      cases x with
      | false => rw [if_neg (by decide)] at h2 ⊢; exact h2 ι2 H2 σ1 Step.refl A2 E2
      | true =>
        rw [if_pos rfl] at h2 ⊢
        refine ⟨fun σ' H' => ∃ ι M env, Abs (cgd X).K ι H' (cgd X).P (cgd X).w M ∧ EnvR (cgd X).K ι H' env σ' ∧ PostS (cgd X) W ι H' (whGo fc fb m env M) C, fun σ' H' h => ⟨m, Nat.lt_succ_self m, h⟩, ι2, M2, env1, A2, E2, ?_⟩
        cases eb : fb env1 M2 with
        | ok fl M3 =>
          simp only [eb] at h2
          cases fl with
          | nx e => exact fun ι3 H3 σ3 s3 A3 E3 => ⟨ι3, M3, e, A3, E3, PostS.step s3 h2⟩
          | ct e => exact fun ι3 H3 σ3 s3 A3 E3 => ⟨ι3, M3, e, A3, E3, PostS.step s3 h2⟩
          | bk e => exact h2
          | rt d => exact h2
          | xc c fs e => exact h2
        | exc c fs M3 => simp only [eb] at h2; exact h2
        | bad => simp only [eb] at h2; exact h2
/-! #### sources -/
theorem Reps.get {K : PySem.W.Frag} {ι : List Addr} {H : Hp} : ∀ {l : List D} {vs : List V} {i : Nat} {d : D}, Reps K ι H l vs → l[i]? = some d → ∃ v, vs[i]? = some v ∧ Rep K ι H d v
  | [], _, _, _, _, e => by simp at e
  | x :: l, vs, i, d, h, e => by
    simp only [Reps] at h
    obtain ⟨v, r, rfl, h1, h2⟩ := h
    cases i with
    | zero => simp at e; subst e; exact ⟨v, rfl, h1⟩
    | succ i => simp at e; obtain ⟨u, e2, h3⟩ := Reps.get h2 e; exact ⟨u, by simpa using e2, h3⟩
/-- a list or a tuple, walked -/
def iSeq (f : EF) : IF := fun env M => (f env M).bind fun d M1 => match d with
  | .tup l => .ok ⟨l, fun _ => true⟩ M1
  | .ref n => match M1[n]? with
    | some (.lst l) => .ok ⟨l, fun M => decide (M[n]? = some (.lst l))⟩ M1
    | some (.fz l) => .ok ⟨l, fun M => decide (M[n]? = some (.fz l))⟩ M1
    | _ => .bad
  | _ => .bad
theorem sq_fz {K : PySem.W.Frag} {ι : List Addr} {H : Hp} {P : Program} {w : World} {a : Addr} {l : List D} (h : ORep K ι H P w a (.fz l)) : ∃ vs, SqL K H a vs ∧ Reps K ι H l vs := let ⟨vs, o, h1, h2⟩ := h; ⟨vs, .inl (.inr ⟨o, h1⟩), h2⟩
theorem sq_lst {K : PySem.W.Frag} {ι : List Addr} {H : Hp} {P : Program} {w : World} {a : Addr} {l : List D} (h : ORep K ι H P w a (.lst l)) : ∃ vs, SqL K H a vs ∧ Reps K ι H l vs := let ⟨vs, h1, h2⟩ := h; ⟨vs, SqL.of h1, h2⟩
/-- a list or a tuple, whichever comes -/
theorem pi_both {tg l : Expr} {tl : TE} (hl : PE X l tl) : PI X tg l (fun σ H R => tl σ H fun x H1 => ∃ a, x = .ref a ∧ ((∃ xs, SqL X.K H1 a xs ∧ R (Itl X.K a) H1) ∨ ∃ xs, SqT X.K H1 a xs ∧ R (Itt X.K a) H1)) := by
  refine ⟨fun pins s σ H R I h => ?_⟩
  refine thn (hl.run pins s σ H _ I h) fun v s1 ⟨x, H1, I1, r1, q1⟩ => ?_
  obtain ⟨a, e, q⟩ := q1
  subst e
  cases r1
  rcases q with ⟨xs, hq, q⟩ | ⟨xs, hq, q⟩
  · obtain ⟨its, rv, p, hz⟩ := I1.list hq
    refine wpAny_pyIter_list p.isList ?_
    refine ⟨s1.heap.objs.size, [s1.heap.objs.size], _, _, H1, rfl, I1.kept (t' := s1.toks) fun b o e => Heap.get?_push_of_some _ e, turn_list a _, ⟨_, Heap.get?_push_size _ rfl, rfl, rfl⟩, fun b hb => ?_, q⟩
    have e : b = s1.heap.objs.size := by simpa using hb
    exact I1.fpOk (Nat.le_of_eq e.symm) (by rw [e]; exact I1.hok.fresh (Nat.le_refl _))
  · obtain ⟨its, rv, p, hz⟩ := I1.tuple hq
    refine wpAny_pyIter_tuple (show s1.heap.IsTuple a its.toArray from p) ?_
    refine ⟨s1.heap.objs.size, [s1.heap.objs.size], _, _, H1, rfl, I1.kept (t' := s1.toks) fun b o e => Heap.get?_push_of_some _ e, turn_tuple a _, ⟨_, Heap.get?_push_size _ rfl, rfl, rfl⟩, fun b hb => ?_, q⟩
    have e : b = s1.heap.objs.size := by simpa using hb
    exact I1.fpOk (Nat.le_of_eq e.symm) (by rw [e]; exact I1.hok.fresh (Nat.le_refl _))
theorem sim_tup {G : Gd} {ι0 : List Addr} {H0 : Hp} {a : Addr} {vs : List V} {l : List D} (h : SqT G.K H0 a vs) (r : Reps G.K ι0 H0 l vs) : SimI G ι0 H0 (Itt G.K a) ⟨l, fun _ => true⟩ := fun i ι H M x A _ => by
  have h' := x.tup a vs h
  refine ⟨fun d e => ?_, fun e => ⟨vs, h', by rw [← r.length]; exact Nat.le_of_eq e.symm⟩⟩
  obtain ⟨v, ev, rv⟩ := r.get e
  refine ⟨⟨vs, v, h', ev⟩, fun y H' q => ?_⟩
  obtain ⟨rfl, q⟩ := q
  have := q vs h'
  rw [ev] at this
  cases this
  exact ⟨Step.refl, A, rv.ext x⟩
theorem sim_lst {G : Gd} {ι0 : List Addr} {H0 : Hp} {a : Addr} {n : Nat} {l : List D} {o : DO} (ea : ι0[n]? = some a) (ho : ∀ {ι : List Addr} {H : Hp} , ORep G.K ι H G.P G.w a o → ∃ vs, SqL G.K H a vs ∧ Reps G.K ι H l vs) :
    SimI G ι0 H0 (Itl G.K a) ⟨l, fun M => decide (M[n]? = some o)⟩ := fun i ι H M x A gd => by
  have e : M[n]? = some o := of_decide_eq_true gd
  obtain ⟨vs, h', r⟩ := ho (A.obj n a o (x.ix n a ea) e)
  refine ⟨fun d e => ?_, fun e => ⟨vs, h', by rw [← r.length]; exact Nat.le_of_eq e.symm⟩⟩
  obtain ⟨v, ev, rv⟩ := r.get e
  refine ⟨⟨vs, v, h', ev⟩, fun y H' q => ?_⟩
  obtain ⟨rfl, q⟩ := q
  have := q vs h'
  rw [ev] at this
  cases this
  exact ⟨Step.refl, A, rv⟩
theorem si_seq {tg e : Expr} {f : EF} (he : SE X W e f) : SI X W tg e (iSeq f) :=
  (pi_both he).imp fun σ H R h => by
    obtain ⟨ι, M, env, A, E, h⟩ := h
    refine tE.mono (tE.seq A E h) fun x H1 ⟨ι1, M1, d1, s1, A1, E1, r1, _, h1⟩ => ?_
    cases d1 with
    | tup l =>
      simp only [Rep] at r1
      obtain ⟨a, vs, rfl, q1, q2⟩ := r1
      exact ⟨a, rfl, .inr ⟨vs, q1, h1 ι1 H1 _ Step.refl A1 (sim_tup q1 q2)⟩⟩
    | ref n =>
      simp only [Rep] at r1
      obtain ⟨a, ea, rfl⟩ := r1
      simp only at h1
      cases e1 : M1[n]? with
      | none => rw [e1] at h1; exact h1.elim
      | some o =>
        rw [e1] at h1
        cases o with
        | lst l =>
          obtain ⟨vs, q1, q2⟩ := sq_lst (A1.obj n a _ ea e1)
          exact ⟨a, rfl, .inl ⟨vs, q1, h1 ι1 H1 _ Step.refl A1 (sim_lst ea sq_lst)⟩⟩
        | fz l =>
          obtain ⟨vs, q1, q2⟩ := sq_fz (A1.obj n a _ ea e1)
          exact ⟨a, rfl, .inl ⟨vs, q1, h1 ι1 H1 _ Step.refl A1 (sim_lst ea sq_fz)⟩⟩
        | _ => exact h1.elim
    | _ => exact h1.elim
/-- range(n), range(a, b) -/
def rngD (lo hi : Int) : List D := (List.range (hi - lo).toNat).map fun (i : Nat) => D.int (lo + (i : Int))
def iRng1 (f : EF) : IF := fun env M => (f env M).bind fun d M1 => match d with
  | .int j => if -1000000 ≤ j ∧ j ≤ 1000000 then .ok ⟨rngD 0 j, fun _ => true⟩ M1 else .bad
  | _ => .bad
def iRng2 (f g : EF) : IF := fun env M => (f env M).bind fun d M1 => (g env M1).bind fun e M2 => match d, e with
  | .int i, .int j => if -1000000 ≤ i ∧ i ≤ 1000000 ∧ -1000000 ≤ j ∧ j ≤ 1000000 then .ok ⟨rngD i j, fun _ => true⟩ M2 else .bad
  | _, _ => .bad
theorem sim_rng {G : Gd} {ι0 : List Addr} {H0 : Hp} {lo hi : Int} : SimI G ι0 H0 (Itr lo (hi - lo).toNat) ⟨rngD lo hi, fun _ => true⟩ := fun i ι H M x A _ => by
  refine ⟨fun d e => ?_, fun e => ?_⟩
  · unfold rngD at e
    simp only [List.getElem?_map] at e
    cases q : (List.range (hi - lo).toNat)[i]? with
    | none => rw [q] at e; cases e
    | some j =>
      rw [q] at e
      obtain ⟨hl, ej⟩ := List.getElem?_eq_some_iff.mp q
      simp at ej hl
      subst ej
      simp at e
      subst e
      refine ⟨by show i < (hi - lo).toNat; omega, fun y H' z => ?_⟩
      obtain ⟨rfl, rfl⟩ := z
      exact ⟨Step.refl, A, by simp only [Rep]⟩
  · simp [rngD] at e
    show (hi - lo).toNat ≤ i
    omega
theorem si_rng1 {tg a : Expr} {f : EF} {p pos : Pos} (hg : Gl X "range") (hm : X.mg "range" = none) (ha : SE X W a f) (hs : starEach [a] X.env = [(false, eval a X.env)] := by rfl) : SI X W tg (.Call (.Name "range" p) [a] [] pos) (iRng1 f) :=
  (pi_range1 hg hm (pa_cons ha pa_nil hs) hs).imp fun σ H R h => by
    obtain ⟨ι, M, env, A, E, h⟩ := h
    refine tE.mono (tE.seq A E h) fun x H1 ⟨ι1, M1, d1, s1, A1, E1, r1, _, h1⟩ => ?_
    cases d1 with
    | int j =>
      simp only [Rep] at r1
      subst r1
      have h1 : Post (cgd X) W ι1 H1 _ σ (if -1000000 ≤ j ∧ j ≤ 1000000 then Res.ok (Src.mk (rngD 0 j) fun _ => true) M1 else .bad) R := h1
      by_cases hj : -1000000 ≤ j ∧ j ≤ 1000000
      · rw [if_pos hj] at h1
        refine ⟨j, rfl, by omega, by omega, ?_⟩
        have := h1 ι1 H1 (Itr 0 (j - 0).toNat) Step.refl A1 sim_rng
        rwa [Int.sub_zero] at this
      · rw [if_neg hj] at h1; exact h1.elim
    | _ => exact h1.elim
theorem si_rng2 {tg a b : Expr} {f g : EF} {p pos : Pos} (hg : Gl X "range") (hm : X.mg "range" = none) (ha : SE X W a f) (hb : SE X W b g) (hs : starEach [a, b] X.env = (false, eval a X.env) :: starEach [b] X.env := by rfl) (hs2 : starEach [b] X.env = (false, eval b X.env) :: starEach [] X.env := by rfl) : SI X W tg (.Call (.Name "range" p) [a, b] [] pos) (iRng2 f g) :=
  (pi_range2 hg hm (pa_cons ha (pa_cons hb pa_nil hs2) hs) (hs.trans (congrArg _ hs2)) hs2).imp fun σ H R h => by
    obtain ⟨ι, M, env, A, E, h⟩ := h
    refine tE.mono (tE.seq A E h) fun x H1 ⟨ι1, M1, d1, s1, A1, E1, r1, _, h1⟩ => ?_
    refine tE.mono (tE.seq A1 E1 h1) fun y H2 ⟨ι2, M2, d2, s2, A2, E2, r2, _, h2⟩ => ?_
    cases d1 with
    | int i =>
      cases d2 with
      | int j =>
        simp only [Rep] at r1 r2
        subst r1 r2
        have h2 : Post (cgd X) W ι2 H2 _ σ (if -1000000 ≤ i ∧ i ≤ 1000000 ∧ -1000000 ≤ j ∧ j ≤ 1000000 then Res.ok (Src.mk (rngD i j) fun _ => true) M2 else .bad) R := h2
        by_cases hj : -1000000 ≤ i ∧ i ≤ 1000000 ∧ -1000000 ≤ j ∧ j ≤ 1000000
        · rw [if_pos hj] at h2
          exact ⟨i, j, rfl, ⟨by omega, by omega, by omega, by omega⟩, h2 ι2 H2 _ Step.refl A2 sim_rng⟩
        · rw [if_neg hj] at h2; exact h2.elim
      | _ => exact h2.elim
    | _ => exact h2.elim
end
end Sh

namespace Sh
open PySem L2

/-! ### a def's promise by its meaning -/
def PostF (G : Gd) (ι : List Addr) (H : Hp) (r : Res D) (Q : VK) (E : XK) : Prop := match r with
  | .ok d M' => ∀ ι' H' v, Step ι H ι' H' → Abs G.K ι' H' G.P G.w M' → Rep G.K ι' H' d v → Q v H'
  | .exc c fs M' => ∀ ι' H' cls d, Step ι H ι' H' → Abs G.K ι' H' G.P G.w M' → XRep G.K ι' H' c fs cls d → E cls d H'
  | .bad => False
def spF (G : Gd) (n : Nat) (f : FF) : Sp := fun vs H Q E => ∃ ι M ds, Abs G.K ι H G.P G.w M ∧ Reps G.K ι H ds vs ∧ ds.length = n ∧ PostF G ι H (f ds M) Q E
/-- a def by the meaning of its body: np parameters, ns names -/
def fnS (np ns : Nat) (body : SF) : FF := fun ds M => match body (ds.map some ++ List.replicate (ns - np) none) M with
  | .ok (.rt d) M' => .ok d M'
  | .ok (.nx _) M' => .ok .non M'
  | .ok (.xc c fs _) M' => .exc c fs M'
  | _ => .bad
theorem envR_start {K : PySem.W.Frag} {ι : List Addr} {H : Hp} {ds : List D} {vs : List V} (r : Reps K ι H ds vs) (k : Nat) : EnvR K ι H (ds.map some ++ List.replicate k none) (vs.map some ++ List.replicate k none) := by
  refine ⟨by simp [r.length], fun i d e => ?_⟩
  by_cases hi : i < ds.length
  · rw [List.getElem?_append_left (by simpa using hi)] at e
    rw [List.getElem?_append_left (by simpa [← r.length] using hi)]
    simp only [List.getElem?_map] at e ⊢
    cases q : ds[i]? with
    | none => rw [q] at e; cases e
    | some x =>
      rw [q] at e
      simp at e
      subst e
      obtain ⟨v, ev, rv⟩ := r.get q
      exact ⟨v, by rw [ev]; rfl, rv⟩
  · rw [List.getElem?_append_right (by simpa using hi)] at e
    simp [List.getElem?_replicate] at e
section
variable {P : Program} {w : World} {K : PySem.W.Frag} {mg : Str → Option Value} {base : Heap} {x qual : Str} {params : Arguments} {bd : List Stmt} {scope : Scope} {dvs : List V} {kws : List (Str × V)} {f : Addr} {fd : FuncData}
theorem fn_sh {N ps : List Str} {k np ns : Nat} {body : SF} (F : FunD K x qual params bd scope dvs kws f fd) (S : FnScope N ps scope) (hp : ps.length = np) (hn : N.length = ns)
    (hb : ∀ (cdv : Value) (A : Around) (outer : List PySem.Env) (s : Shared) (H : Hp) (E : XK), Room k (A.deeper (PyProof.Rows.envOfC qual scope s.heap.objs.size f cdv)) →
      SSs (cxOf (L2.CX P w) P w K mg base N qual scope f cdv A outer s H E) (fun cls d _ H => E cls d H) bd body) :
    FnOk P w K mg base (L2.CX P w) (k + 1) f fd ps (spF ⟨K, P, w⟩ np (fnS np ns body)) := by
  refine F.ok S (fun vs H Q E h => ?_) fun cdv A outer s H vs Q E hr h => ?_
  · obtain ⟨ι, M, ds, _, r, l, _⟩ := h
    rw [← r.length, l, hp]
  · obtain ⟨ι, M, ds, Ab, r, l, h⟩ := h
    refine ⟨_, hb cdv A outer s H E hr, ι, M, ds.map some ++ List.replicate (ns - np) none, Ab, ?_, ?_⟩
    · unfold L2.start
      have := envR_start r (N.length - vs.length)
      rw [hn, ← r.length, l] at this ⊢
      exact this
    · unfold fnS at h
      cases e : body (ds.map some ++ List.replicate (ns - np) none) M with
      | ok fl M' =>
        rw [e] at h
        cases fl with
        | nx env => exact fun ι' H' σ' s a _ => h ι' H' _ s a (by simp only [Rep])
        | rt d => exact h
        | xc c fs env => exact fun ι' H' σ' cls d s a _ q => h ι' H' cls d s a q
        | bk _ => exact h.elim
        | ct _ => exact h.elim
      | exc c fs M' => rw [e] at h; exact h
      | bad => rw [e] at h; exact h
end
/-! ### what is new and not handed back is forgotten -/
mutual
def D.blw (n : Nat) : D → Bool
  | .ref m => decide (m < n)
  | .tup l => D.blws n l
  | _ => true
def D.blws (n : Nat) : List D → Bool
  | [] => true
  | d :: l => D.blw n d && D.blws n l
end
def DO.blw (n : Nat) : DO → Bool
  | .lst l => D.blws n l
  | .fz l => D.blws n l
  | .dct kvs => kvs.all fun p => D.blw n p.1 && D.blw n p.2
  | .dlk kvs => kvs.all fun p => D.blw n p.1 && D.blw n p.2
  | .ins _ fs => fs.all fun p => D.blw n p.2
  | .set _ => true
  | .dead => true
  | .exn _ fs => fs.all fun p => D.blw n p.2
  | .sdc fs => fs.all fun p => D.blw n p.2
/-- k new objects are kept -/
def trim (k : Nat) (M : Store) (r : Res D) : Res D := match r with
  | .ok d M' => if M.isPrefixOf M' = true ∧ D.blw (M.length + k) d = true ∧ ((M'.drop M.length).take k).all (DO.blw (M.length + k)) = true then .ok d (M'.take (M.length + k)) else .ok d M'
  | r => r
def fnT (k : Nat) (f : FF) : FF := fun ds M => trim k M (f ds M)
section
variable {K : PySem.W.Frag} {ι : List Addr} {H : Hp} {P : Program} {w : World}
mutual
theorem Rep.take {n : Nat} : ∀ {d : D} {v : V}, D.blw n d = true → Rep K ι H d v → Rep K (ι.take n) H d v
  | .non, _, _, h => by simpa only [Rep] using h
  | .bl _, _, _, h => by simpa only [Rep] using h
  | .int _, _, _, h => by simpa only [Rep] using h
  | .str _, _, _, h => by simpa only [Rep] using h
  | .ty _, _, _, h => by simpa only [Rep] using h
  | .ref m, _, b, h => by
    simp only [Rep] at h ⊢
    simp only [D.blw, decide_eq_true_eq] at b
    obtain ⟨a, e, rfl⟩ := h
    exact ⟨a, by rw [List.getElem?_take_of_lt b]; exact e, rfl⟩
  | .tup l, _, b, h => by
    simp only [Rep] at h ⊢
    simp only [D.blw] at b
    obtain ⟨a, vs, rfl, h1, h2⟩ := h
    exact ⟨a, vs, rfl, h1, Reps.take b h2⟩
theorem Reps.take {n : Nat} : ∀ {l : List D} {vs : List V}, D.blws n l = true → Reps K ι H l vs → Reps K (ι.take n) H l vs
  | [], _, _, h => by simpa only [Reps] using h
  | d :: l, _, b, h => by
    simp only [Reps] at h ⊢
    simp only [D.blws, Bool.and_eq_true] at b
    obtain ⟨v, r, rfl, h1, h2⟩ := h
    exact ⟨v, r, rfl, Rep.take b.1 h1, Reps.take b.2 h2⟩
end
theorem paired_mem {α β : Type} {F G : α → β → Prop} : ∀ {l₁ : List α} {l₂ : List β}, Paired F l₁ l₂ → (∀ a b, a ∈ l₁ → F a b → G a b) → Paired G l₁ l₂
  | _, _, .nil, _ => .nil
  | _, _, .cons r t, f => .cons (f _ _ List.mem_cons_self r) (paired_mem t fun a b m q => f a b (List.mem_cons_of_mem _ m) q)
theorem ORep.take {n : Nat} {a : Addr} {o : DO} (b : DO.blw n o = true) (h : ORep K ι H P w a o) : ORep K (ι.take n) H P w a o := by
  cases o with
  | lst l => obtain ⟨vs, h1, h2⟩ := h; exact ⟨vs, h1, h2.take b⟩
  | fz l => obtain ⟨vs, o, h1, h2⟩ := h; exact ⟨vs, o, h1, h2.take b⟩
  | ins c fs =>
    obtain ⟨dx, vs, h1, h2⟩ := h
    simp only [DO.blw, List.all_eq_true] at b
    exact ⟨dx, vs, h1, paired_mem h2 fun p q m z => ⟨z.1, z.2.take (b p m)⟩⟩
  | dct kvs =>
    obtain ⟨o, h1, h2, h3, h4, es, ep, xs, h5, h6, h7, h8⟩ := h
    simp only [DO.blw, List.all_eq_true, Bool.and_eq_true] at b
    exact ⟨o, h1, h2, h3, h4, es, ep, xs, h5, h6, h7, paired_mem h8 fun p q m z => ⟨z.1, z.2.1.take (b p m).1, let ⟨v, r, y⟩ := z.2.2; ⟨v, r, y.take (b p m).2⟩⟩⟩
  | dlk kvs =>
    obtain ⟨o, h1, h2, h3, h4, es, ep, xs, h5, h6, h7, h8⟩ := h
    simp only [DO.blw, List.all_eq_true, Bool.and_eq_true] at b
    exact ⟨o, h1, h2, h3, h4, es, ep, xs, h5, h6, h7, paired_mem h8 fun p q m z => ⟨z.1, z.2.1.take (b p m).1, let ⟨v, r, y⟩ := z.2.2; ⟨v, r, y.take (b p m).2⟩⟩⟩
  | set l => exact h
  | dead => exact h
  | exn c fs =>
    obtain ⟨oe, h1, h2, h3, h4⟩ := h
    simp only [DO.blw, List.all_eq_true] at b
    refine ⟨oe, h1, h2, h3, ?_⟩
    rcases h4 with h4 | ⟨x, ox, vs, g1, g2, g3⟩
    · exact .inl h4
    · exact .inr ⟨x, ox, vs, g1, g2, paired_mem g3 fun p q m z => ⟨z.1, z.2.take (b p m)⟩⟩
  | sdc fs =>
    obtain ⟨vs, h1, h2⟩ := h
    simp only [DO.blw, List.all_eq_true] at b
    exact ⟨vs, h1, paired_mem h2 fun p q m z => ⟨z.1, z.2.take (b p m)⟩⟩
mutual
theorem Rep.isBelow : ∀ {d : D} {v : V}, Rep K ι H d v → D.blw ι.length d = true
  | .non, _, _ => rfl
  | .bl _, _, _ => rfl
  | .int _, _, _ => rfl
  | .str _, _, _ => rfl
  | .ty _, _, _ => rfl
  | .ref m, _, h => by
    simp only [Rep] at h
    obtain ⟨a, e, _⟩ := h
    simp only [D.blw, decide_eq_true_eq]
    exact (List.getElem?_eq_some_iff.mp e).1
  | .tup l, _, h => by
    simp only [Rep] at h
    obtain ⟨a, vs, _, _, h2⟩ := h
    simp only [D.blw]
    exact Reps.isBelow h2
theorem Reps.isBelow : ∀ {l : List D} {vs : List V}, Reps K ι H l vs → D.blws ι.length l = true
  | [], _, _ => rfl
  | d :: l, _, h => by
    simp only [Reps] at h
    obtain ⟨v, r, _, h1, h2⟩ := h
    simp only [D.blws, Bool.and_eq_true]
    exact ⟨Rep.isBelow h1, Reps.isBelow h2⟩
end
theorem paired_all {α β : Type} {F : α → β → Prop} {p : α → Prop} : ∀ {l₁ : List α} {l₂ : List β}, Paired F l₁ l₂ → (∀ a b, F a b → p a) → ∀ a ∈ l₁, p a
  | _, _, .nil, _, a, m => nomatch m
  | _, _, .cons r t, f, a, m => by
    rcases List.mem_cons.mp m with e | m
    · rw [e]; exact f _ _ r
    · exact paired_all t f a m
theorem ORep.isBelow {a : Addr} {o : DO} (h : ORep K ι H P w a o) : DO.blw ι.length o = true := by
  cases o with
  | lst l => obtain ⟨vs, _, h2⟩ := h; exact h2.isBelow
  | fz l => obtain ⟨vs, o, _, h2⟩ := h; exact h2.isBelow
  | ins c fs =>
    obtain ⟨dx, vs, _, h2⟩ := h
    simp only [DO.blw, List.all_eq_true]
    exact paired_all h2 fun p q z => z.2.isBelow
  | dct kvs =>
    obtain ⟨o, h1, h2, h3, h4, es, ep, xs, h5, h6, h7, h8⟩ := h
    simp only [DO.blw, List.all_eq_true, Bool.and_eq_true]
    exact paired_all h8 fun p q z => ⟨z.2.1.isBelow, let ⟨v, r, y⟩ := z.2.2; y.isBelow⟩
  | dlk kvs =>
    obtain ⟨o, h1, h2, h3, h4, es, ep, xs, h5, h6, h7, h8⟩ := h
    simp only [DO.blw, List.all_eq_true, Bool.and_eq_true]
    exact paired_all h8 fun p q z => ⟨z.2.1.isBelow, let ⟨v, r, y⟩ := z.2.2; y.isBelow⟩
  | set l => rfl
  | dead => rfl
  | exn c fs =>
    obtain ⟨oe, h1, h2, h3, h4⟩ := h
    simp only [DO.blw, List.all_eq_true]
    rcases h4 with ⟨rfl, _⟩ | ⟨x, ox, vs, g1, g2, g3⟩
    · intro p m; cases m
    · exact paired_all g3 fun p q z => z.2.isBelow
  | sdc fs =>
    obtain ⟨vs, _, h2⟩ := h
    simp only [DO.blw, List.all_eq_true]
    exact paired_all h2 fun p q z => z.2.isBelow
mutual
theorem D.blw_mono {n m : Nat} (h : n ≤ m) : ∀ {d : D}, D.blw n d = true → D.blw m d = true
  | .non, _ => rfl
  | .bl _, _ => rfl
  | .int _, _ => rfl
  | .str _, _ => rfl
  | .ty _, _ => rfl
  | .ref k, b => by simp only [D.blw, decide_eq_true_eq] at b ⊢; omega
  | .tup l, b => by simp only [D.blw] at b ⊢; exact D.blws_mono h b
theorem D.blws_mono {n m : Nat} (h : n ≤ m) : ∀ {l : List D}, D.blws n l = true → D.blws m l = true
  | [], _ => rfl
  | d :: l, b => by
    simp only [D.blws, Bool.and_eq_true] at b ⊢
    exact ⟨D.blw_mono h b.1, D.blws_mono h b.2⟩
end
theorem DO.blw_mono {n m : Nat} (h : n ≤ m) {o : DO} (b : DO.blw n o = true) : DO.blw m o = true := by
  cases o with
  | lst l => exact D.blws_mono h b
  | fz l => exact D.blws_mono h b
  | ins c fs => simp only [DO.blw, List.all_eq_true] at b ⊢; exact fun p q => D.blw_mono h (b p q)
  | dct kvs => simp only [DO.blw, List.all_eq_true, Bool.and_eq_true] at b ⊢; exact fun p q => ⟨D.blw_mono h (b p q).1, D.blw_mono h (b p q).2⟩
  | dlk kvs => simp only [DO.blw, List.all_eq_true, Bool.and_eq_true] at b ⊢; exact fun p q => ⟨D.blw_mono h (b p q).1, D.blw_mono h (b p q).2⟩
  | set l => rfl
  | dead => rfl
  | exn c fs => simp only [DO.blw, List.all_eq_true] at b ⊢; exact fun p q => D.blw_mono h (b p q)
  | sdc fs => simp only [DO.blw, List.all_eq_true] at b ⊢; exact fun p q => D.blw_mono h (b p q)
theorem Abs.take {M : Store} {n : Nat} (A : Abs K ι H P w M) (b : ∀ o ∈ M.take n, DO.blw n o = true) : Abs K (ι.take n) H P w (M.take n) where
  len := by simp [A.len]
  nd := A.nd.sublist (List.take_sublist _ _)
  obj := fun m a o h1 h2 => by
    have hm : m < n := by
      have := (List.getElem?_eq_some_iff.mp h2).1
      simp at this; omega
    have bo := b o (List.mem_of_getElem? h2)
    rw [List.getElem?_take_of_lt hm] at h1 h2
    exact (A.obj m a o h1 h2).take bo
theorem Abs.allBelow {M : Store} (A : Abs K ι H P w M) : ∀ o ∈ M, DO.blw M.length o = true := fun o m => by
  obtain ⟨n, hn, e⟩ := List.getElem_of_mem m
  obtain ⟨a, _, h⟩ := A.have (n := n) (o := o) (by rw [List.getElem?_eq_getElem hn, e])
  rw [← A.len]
  exact h.isBelow
end
theorem PostF.trim {G : Gd} {ι : List Addr} {H : Hp} {M : Store} {k : Nat} {r : Res D} {Q : VK} {E : XK} (A : Abs G.K ι H G.P G.w M) (h : PostF G ι H (trim k M r) Q E) : PostF G ι H r Q E := by
  cases r with
  | ok d M' =>
    unfold Sh.trim at h
    by_cases c : M.isPrefixOf M' = true ∧ D.blw (M.length + k) d = true ∧ ((M'.drop M.length).take k).all (DO.blw (M.length + k)) = true
    · simp only [if_pos c] at h
      intro ι' H' v s A' r
      obtain ⟨c1, c2, c3⟩ := c
      obtain ⟨more, rfl⟩ := List.isPrefixOf_iff_prefix.mp c1
      have hm : ∀ o ∈ (M ++ more).take (M.length + k), DO.blw (M.length + k) o = true := fun o m => by
        rw [List.take_length_add_append] at m
        rcases List.mem_append.mp m with m | m
        · exact DO.blw_mono (Nat.le_add_right _ _) (A.allBelow o m)
        · rw [List.drop_left] at c3
          exact List.all_eq_true.mp c3 o m
      refine h (ι'.take (M.length + k)) H' v ⟨?_, s.frame, fun a m n => s.fresh a (List.mem_of_mem_take m) n, s.frz⟩ (A'.take hm) (r.take c2)
      obtain ⟨p, rfl⟩ := s.pre
      refine ⟨p.take k, ?_⟩
      rw [← A.len, List.take_length_add_append]
    · simp only [if_neg c] at h
      exact h
  | exc c fs M' => exact h
  | bad => exact h
theorem fn_trim {P : Program} {w : World} {K : PySem.W.Frag} {mg : Str → Option Value} {base : Heap} {CX : CXT} {j n k : Nat} {f : Addr} {fd : FuncData} {ps : List Str} {ff : FF} (F : FnOk P w K mg base CX j f fd ps (spF ⟨K, P, w⟩ n ff)) :
    FnOk P w K mg base CX j f fd ps (spF ⟨K, P, w⟩ n (fnT k ff)) := F.imp fun vs H Q E h => by
  obtain ⟨ι, M, ds, A, r, l, h⟩ := h
  exact ⟨ι, M, ds, A, r, l, PostF.trim A h⟩
/-! ### calls -/
def eCall (n : Nat) (ff : FF) (fa : AF) : EF := fun env M => (fa env M).bind fun ds M1 => if ds.length = n then ff ds M1 else .bad
/-- a def that may be called: its level, its parameters' number, its meaning -/
def Fn (X : Cx) (k : Nat) (f : Addr) (n : Nat) (ff : FF) : Prop := ∃ fd ps, FnOk X.prog X.w X.K X.mg X.base (L2.CX X.prog X.w) k f fd ps (spF (cgd X) n ff) ∧ Binds X.K fd ps []
section
variable {X : Cx} {W : WX} {k n : Nat} {f : Addr} {ff : FF} {fa : AF} {x : Str} {e : Expr} {es : List Expr} {p pos : Pos}
theorem postF_of {ι : List Addr} {H : Hp} {σ : St} {r : Res D} {Q : VK} {G : Gd} (h : PostE G W ι H σ r Q) : PostF G ι H r Q (WE W σ) := by
  cases r with
  | ok d M => exact h
  | exc c fs M => exact h
  | bad => exact h
theorem call_imp {σ : St} {H : Hp} {Q : VK} (h : tE (cgd X) W (eCall n ff fa) σ H Q) : tCallS (spF (cgd X) n ff) (WE W) (tA (cgd X) W fa) σ H Q := by
  obtain ⟨ι, M, env, A, E, h⟩ := h
  refine tA.mono (tA.seq A E h) fun xs H1 ⟨ι1, M1, d1, s1, A1, E1, r1, _, h1⟩ => ?_
  by_cases hl : d1.length = n
  · rw [if_pos hl] at h1
    exact ⟨ι1, M1, d1, A1, r1, hl, postF_of h1⟩
  · rw [if_neg hl] at h1; exact h1.elim
theorem se_call (F : Fn X k f n ff) (hr : Room k X.A) (hg : Gl X x) (hm : X.mg x = some (.ref f)) (hk : PySem.W.keepIn X.K (.ref f) = true) (tk : Takes X W) (ha : SA X W (e :: es) fa)
    (hdb : (x == ("__debug__" : Str)) = false := by decide) (he : starEach (e :: es) X.env = (false, eval e X.env) :: starEach es X.env := by rfl) (hpl : (backTo pos (starEach es X.env)).any (·.1) = false := by rfl) :
    SE X W (.Call (.Name x p) (e :: es) [] pos) (eCall n ff fa) := by
  obtain ⟨fd, ps, F, hb⟩ := F
  exact (pe_callS F hr hg hm hk hb (fun σ => passAt tk σ) ha hdb he hpl).imp fun σ H Q h => call_imp h
theorem se_call0 (F : Fn X k f n ff) (hr : Room k X.A) (hg : Gl X x) (hm : X.mg x = some (.ref f)) (hk : PySem.W.keepIn X.K (.ref f) = true) (tk : Takes X W)
    (hdb : (x == ("__debug__" : Str)) = false := by decide) : SE X W (.Call (.Name x p) [] [] pos) (eCall n ff aNil) := by
  obtain ⟨fd, ps, F, hb⟩ := F
  refine ⟨fun pins s σ H Q I h => ?_⟩
  obtain ⟨ι, M, env, A, E, h⟩ := h
  refine wpAny_Call_Name_kw (ld_glob I hg hm ?_ hdb)
  refine PySem.W.callWith_K0 I.kIn hk (run_fnS F hr hb (passAt tk σ) I .nil ?_)
  have h : PostE (cgd X) W ι H σ (if ([] : List D).length = n then ff [] M else .bad) Q := h
  by_cases hl : ([] : List D).length = n
  · rw [if_pos hl] at h
    exact ⟨ι, M, [], A, by simp only [Reps], hl, postF_of h⟩
  · rw [if_neg hl] at h; exact h.elim
/-! #### methods, by the class of the instance -/
def eMeth (m : Str) (disp : Nat → Option (Nat × FF)) (fo : EF) (fa : AF) : EF := fun env M => (fo env M).bind fun o M1 => match o with
  | .ref i => match M1[i]? with
    | some (.ins c fs) => match disp c with
      | some (n, ff) => if fs.lookup m = none then (fa env M1).bind fun ds M2 => if ds.length + 1 = n then ff (.ref i :: ds) M2 else .bad else .bad
      | none => .bad
    | _ => .bad
  | _ => .bad
theorem methImp {m : Str} {disp : Nat → Option (Nat × FF)} {fo : EF} {σ : St} {H : Hp} {Q : VK} (h : tE (cgd X) W (eMeth m disp fo fa) σ H Q) :
    tE (cgd X) W fo σ H fun x H1 => ∃ a c dx vs n ff, x = .ref a ∧ H1 a = some (.ins (ca X.K c) dx vs) ∧ disp c = some (n, ff) ∧ vs.lookup m = none ∧ tA (cgd X) W fa σ H1 fun us H2 => spF (cgd X) n ff (.ref a :: us) H2 Q (WE W σ) := by
  obtain ⟨ι, M, env, A, E, h⟩ := h
  refine tE.mono (tE.seq A E h) fun x H1 ⟨ι1, M1, d1, s1, A1, E1, r1, _, h1⟩ => ?_
  cases d1 with
  | ref i =>
    simp only at h1
    cases e1 : M1[i]? with
    | none => rw [e1] at h1; exact h1.elim
    | some o =>
      rw [e1] at h1
      cases o with
      | ins c fs =>
        simp only at h1
        cases e2 : disp c with
        | none => rw [e2] at h1; exact h1.elim
        | some q =>
          rw [e2] at h1
          obtain ⟨n, ff⟩ := q
          simp only at h1
          by_cases hl : fs.lookup m = none
          · rw [if_pos hl] at h1
            simp only [Rep] at r1
            obtain ⟨a, ea, rfl⟩ := r1
            obtain ⟨dx, vs, hH, fr⟩ := A1.obj i a _ ea e1
            refine ⟨a, c, dx, vs, n, ff, rfl, hH, e2, fr.lookN hl, ?_⟩
            refine tA.mono (tA.seq A1 E1 h1) fun us H2 ⟨ι2, M2, d2, s2, A2, E2, r2, _, h2⟩ => ?_
            by_cases hn : d2.length + 1 = n
            · rw [if_pos hn] at h2
              exact ⟨ι2, M2, .ref i :: d2, A2, by simp only [Reps]; exact ⟨_, _, rfl, by simp only [Rep]; exact ⟨a, s2.ix ea, rfl⟩, r2⟩, by simpa using hn, postF_of h2⟩
            · rw [if_neg hn] at h2; exact h2.elim
          · rw [if_neg hl] at h1; exact h1.elim
      | _ => exact h1.elim
  | _ => exact h1.elim
theorem se_meth {o : Expr} {m : Str} {apos : Pos} {disp : Nat → Option (Nat × FF)} {fo : EF} {pl : Sem Bool} (he : SE X W o fo) (hd : ∀ c n ff, disp c = some (n, ff) → Cls X.K (ca X.K c) ∧ ∃ f, Meth X.K (ca X.K c) m f ∧ Fn X k f n ff) (hr : Room k X.A) (tk : Takes X W) (ha : SA X W (e :: es) fa)
    (hst : starEach (e :: es) X.env = (false, eval e X.env) :: starEach es X.env := by rfl) (hpl : (backTo pos (starEach es X.env)).any (·.1) = false := by rfl)
    (ht : eval (.Call (.Attribute o m apos) (e :: es) [] pos) X.env = (do
      let ov ← eval o X.env
      standAt apos.atName
      let (f, first) ← holding [ov] (getMethod ov m pl)
      callWith pos f first (backTo pos (starEach (e :: es) X.env)) (backToKw pos (keywordEach [] X.env))) := by rfl) :
    SE X W (.Call (.Attribute o m apos) (e :: es) [] pos) (eMeth m disp fo fa) := by
  refine ⟨fun pins s σ H Q I h => ?_⟩
  refine PySem.W.methodCall_KW (pl := pl) (thn (he.run pins s σ H _ I (methImp h)) fun u s1 ⟨x, H1, I1, rx, a, c, dx, fs, n, ff, ex, ea, ed, l, q⟩ => ?_) ht
  subst ex
  obtain rfl : u = Value.ref a := rx
  obtain ⟨cl, f, mt, fd, ps, F, hb⟩ := hd c n ff ed
  refine getmeth_ok I1 ea cl mt l ?_
  refine PySem.W.callWith_K (first := [.ref a]) (h₀ := X.base) I.ok.mod.kin mt.kp (thn (ha.run pos pins s1 σ H1 _ I1 q) fun us s2 ⟨vs, H2, I2, r, q2⟩ => ⟨I2.kIn, ?_⟩) hst hpl
  exact run_fnS (us := .ref a :: us) (vs := .ref a :: vs) F hr hb (passAt tk σ) I2 (.cons rfl r) q2
theorem se_meth0 {o : Expr} {m : Str} {apos : Pos} {disp : Nat → Option (Nat × FF)} {fo : EF} {pl : Sem Bool} (he : SE X W o fo) (hd : ∀ c n ff, disp c = some (n, ff) → Cls X.K (ca X.K c) ∧ ∃ f, Meth X.K (ca X.K c) m f ∧ Fn X k f n ff) (hr : Room k X.A) (tk : Takes X W)
    (ht : eval (.Call (.Attribute o m apos) [] [] pos) X.env = (do
      let ov ← eval o X.env
      standAt apos.atName
      let (f, first) ← holding [ov] (getMethod ov m pl)
      callWith pos f first (backTo pos (starEach [] X.env)) (backToKw pos (keywordEach [] X.env))) := by rfl) :
    SE X W (.Call (.Attribute o m apos) [] [] pos) (eMeth m disp fo aNil) := by
  refine ⟨fun pins s σ H Q I h => ?_⟩
  refine PySem.W.methodCall_KW (pl := pl) (thn (he.run pins s σ H _ I (methImp h)) fun u s1 ⟨x, H1, I1, rx, a, c, dx, fs, n, ff, ex, ea, ed, l, q⟩ => ?_) ht
  subst ex
  obtain rfl : u = Value.ref a := rx
  obtain ⟨cl, f, mt, fd, ps, F, hb⟩ := hd c n ff ed
  refine getmeth_ok I1 ea cl mt l ?_
  obtain ⟨ι, M, env, A, E, q⟩ := q
  exact PySem.W.callWith_K0 (first := [.ref a]) I1.kIn mt.kp (run_fnS (us := [.ref a]) (vs := [.ref a]) F hr hb (passAt tk σ) I1 (.cons rfl .nil) (q ι H1 [] Step.refl A (by simp only [Reps])))
end
end Sh

namespace Sh
open PySem L2

/-! ### instances made, fields stored -/
/-- how values come to parameters: positional ones, keywords; ks: the keywords -/
structure BD (K : PySem.W.Frag) (fd : FuncData) (ps : List Str) (n : Nat) (ks : List Str) (gD : List D → List D → List D) : Prop where
  ex : ∃ g gV, KBn K fd ps n ks g gV ∧ ∀ ι H ds es vs zs, Reps K ι H ds vs → Reps K ι H es zs → Reps K ι H (gD ds es) (gV vs zs)
def FnK (X : Cx) (k : Nat) (f : Addr) (n : Nat) (ks : List Str) (np : Nat) (gD : List D → List D → List D) (ff : FF) : Prop := ∃ fd ps, FnOk X.prog X.w X.K X.mg X.base (L2.CX X.prog X.w) k f fd ps (spF (cgd X) np ff) ∧ BD X.K fd ps n ks gD
def eMake (c : Nat) (n m np : Nat) (gD : List D → List D → List D) (ff : FF) (fa fk : AF) : EF := fun env M => (fa env M).bind fun ds M1 => (fk env M1).bind fun es M2 =>
  if ds.length = n ∧ es.length = m ∧ (gD (.ref M2.length :: ds) es).length = np then (match ff (gD (.ref M2.length :: ds) es) (M2 ++ [.ins c []]) with
    | .ok .non M3 => .ok (.ref M2.length) M3
    | .ok _ _ => .bad
    | r => r) else .bad
section
variable {X : Cx} {W : WX} {k n np : Nat} {f : Addr} {ff : FF} {fa fk : AF} {x : Str} {e : Expr} {es : List Expr} {p pos : Pos} {c : Nat} {ks : List Str} {gD : List D → List D → List D} {kws : List Keyword}
theorem run_makeS {C f : Addr} {fd : FuncData} {ps : List Str} {sp : Sp} {E : St → XK} {g : List Value → List Value → List Value} {gV : List V → List V → List V} {pins : List (Addr × Obj)} {σ : St} {H : Hp} {s : Shared} {Q : VK} {us ws : List Value} {vs zs : List V} (M : Mk X.K C f) (F : FnOk X.prog X.w X.K X.mg X.base (L2.CX X.prog X.w) k f fd ps sp) (hr : Room (k + 1) X.A) (hb : KBn X.K fd ps (n + 1) ks g gV) (tk : Takes X W)
    (I : Inv X pins σ H s) (r : Vals vs us) (rz : Vals zs ws) (l1 : vs.length = n) (l2 : zs.length = ks.length)
    (h : ∀ x dx, H x = none → H dx = none → dx ≠ x → sp (gV (.ref x :: vs) zs) (upd (upd H dx (.own x)) x (.ins C dx [])) (fun v H2 => v = .non ∧ Q (.ref x) H2) (WE W σ)) :
    wpAny (model X.prog X.w) X.A (call (.ref C) us (ks.zip ws)) (EP X pins σ Q) X.xe s := by
  have hq := h (s.heap.objs.size + 1) s.heap.objs.size (I.hok.fresh (Nat.le_succ _)) (I.hok.fresh (Nat.le_refl _)) (Nat.ne_of_lt (Nat.lt_succ_self _))
  have I2 := Inv.made (C := C) I
  have r1 : Vals (V.ref (s.heap.objs.size + 1) :: vs) (Value.ref (s.heap.objs.size + 1) :: us) := .cons rfl r
  have r2 := hb.rel r1 rz
  have n1 : (Value.ref (s.heap.objs.size + 1) :: us).length = n + 1 := by
    rw [List.length_cons, ← r.length, l1]
  refine wpAny_call (make_map (f := f) I.kIn M.makes M.init (beq_iff_eq.mp M.fn) (codeAny_mono (F.run _ X.stack _ _ ⟨Value.ref (s.heap.objs.size + 1) :: us, ks.zip ws⟩ (g (Value.ref (s.heap.objs.size + 1) :: us) ws) _ _ (WE W σ) (hr.make C us (ks.zip ws))
    (I2.env0.make C us (ks.zip ws)) (hb.to _ (Value.ref (s.heap.objs.size + 1) :: us) ws I2.kIn n1 (rz.length.symm.trans l2)) r2 hq) fun r s' hq' => ?_))
  cases r with
  | error e => exact passAt tk σ pins _ _ e s' I2 hq'
  | ok fl =>
    cases fl with
    | ret u =>
      obtain ⟨v, H', I3, rv, ev, q3⟩ := I2.after hq'
      subst ev
      exact ⟨rv, ⟨V.ref (s.heap.objs.size + 1), H', I3, rfl, q3⟩⟩
    | next => exact False.elim hq'
    | brk => exact False.elim hq'
    | cont => exact False.elim hq'
def tMk (X : Cx) (W : WX) (c n m np : Nat) (gV : List V → List V → List V) (ff : FF) (t tk : TA) : TE := fun σ H Q => t σ H fun vs H1 => tk σ H1 fun zs H2 => vs.length = n ∧ zs.length = m ∧ ∀ x dx, H2 x = none → H2 dx = none → dx ≠ x →
  spF (cgd X) np ff (gV (.ref x :: vs) zs) (upd (upd H2 dx (.own x)) x (.ins (ca X.K c) dx [])) (fun v H3 => v = .non ∧ Q (.ref x) H3) (WE W σ)
theorem make_imp {gV : List V → List V → List V} (hg : ∀ ι H ds es vs zs, Reps X.K ι H ds vs → Reps X.K ι H es zs → Reps X.K ι H (gD ds es) (gV vs zs)) {m : Nat} {σ : St} {H : Hp} {Q : VK} (h : tE (cgd X) W (eMake c n m np gD ff fa fk) σ H Q) :
    tMk X W c n m np gV ff (tA (cgd X) W fa) (tA (cgd X) W fk) σ H Q := by
  obtain ⟨ι, M, env, A, E, h⟩ := h
  refine tA.mono (tA.seq A E h) fun vs H1 ⟨ι1, M1, ds, s1, A1, E1, r1, _, h1⟩ => ?_
  refine tA.mono (tA.seq A1 E1 h1) fun zs H2 ⟨ι2, M2, es, s2, A2, E2, r2, _, h2⟩ => ?_
  by_cases hl : ds.length = n ∧ es.length = m ∧ (gD (.ref M2.length :: ds) es).length = np
  · rw [if_pos hl] at h2
    have r1' := r1.ext (s2.ext A1.nt)
    refine ⟨by rw [← r1.length]; exact hl.1, by rw [← r2.length]; exact hl.2.1, fun x dx nx ndx ne => ?_⟩
    have nx' : upd H2 dx (.own x) x = none := by rw [upd_ne (Ne.symm ne)]; exact nx
    have A3 := (A2.tmp (u := .own x) ndx)
    have A4 := A3.new (o := .ins c []) (u := .ins (ca X.K c) dx []) nx' ⟨dx, [], upd_same, .nil⟩
    have S4 : Step ι2 H2 (ι2 ++ [x]) (upd (upd H2 dx (.own x)) x (.ins (ca X.K c) dx [])) := (step_tmp ndx).trans (step_new nx')
    have X4 := S4.ext (K := X.K) A2.nt
    have hx : (ι2 ++ [x])[M2.length]? = some x := by rw [← A2.len]; simp
    refine ⟨ι2 ++ [x], M2 ++ [.ins c []], gD (.ref M2.length :: ds) es, A4, hg _ _ _ _ _ _ ?_ (r2.ext X4), hl.2.2, ?_⟩
    · simp only [Reps]
      exact ⟨_, _, rfl, by simp only [Rep]; exact ⟨x, hx, rfl⟩, r1'.ext X4⟩
    · have h4 := Post.step S4 h2
      cases e : ff (gD (.ref M2.length :: ds) es) (M2 ++ [.ins c []]) with
      | ok d M5 =>
        simp only [e] at h4
        intro ι5 H5 v s5 A5 r5
        cases d with
        | non =>
          simp only [Rep] at r5
          exact ⟨r5, h4 ι5 H5 _ s5 A5 (by simp only [Rep]; exact ⟨x, s5.ix hx, rfl⟩)⟩
        | _ => exact h4.elim
      | exc c fs M5 => simp only [e] at h4; exact h4
      | bad => simp only [e] at h4; exact h4
  · rw [if_neg hl] at h2; exact h2.elim
theorem se_make {fi : Addr} (M : Mk X.K (ca X.K c) fi) (F : FnK X k fi (n + 1) [] np gD ff) (hr : Room (k + 1) X.A) (hg : Gl X x) (hm : X.mg x = some (.ref (ca X.K c))) (tk : Takes X W) (ha : SA X W (e :: es) fa)
    (hdb : (x == ("__debug__" : Str)) = false := by decide) (he : starEach (e :: es) X.env = (false, eval e X.env) :: starEach es X.env := by rfl) (hpl : (backTo pos (starEach es X.env)).any (·.1) = false := by rfl) :
    SE X W (.Call (.Name x p) (e :: es) [] pos) (eMake c n 0 np gD ff fa aNil) := by
  obtain ⟨fd, ps, F, g, gV, hb, hgd⟩ := F
  refine ⟨fun pins s σ H Q I h => ?_⟩
  refine wpAny_Call_Name_kw (ld_glob I hg hm ?_ hdb)
  refine PySem.W.callWith_K (h₀ := X.base) I.ok.mod.kin M.kp (thn (ha.run pos pins s σ H _ I (make_imp hgd h)) fun us s1 ⟨vs, H1, I1, r, q⟩ => ⟨I1.kIn, ?_⟩) he hpl
  obtain ⟨ι, M', env, A, E, q⟩ := q
  obtain ⟨l1, l2, q⟩ := q ι H1 [] Step.refl A (by simp only [Reps])
  exact run_makeS (ws := []) (zs := []) (E := fun _ => WE W σ) M F hr hb tk I1 r .nil l1 rfl q
theorem se_makeK {fi : Addr} (M : Mk X.K (ca X.K c) fi) (F : FnK X k fi (n + 1) ks np gD ff) (hr : Room (k + 1) X.A) (hg : Gl X x) (hm : X.mg x = some (.ref (ca X.K c))) (tk : Takes X W) (ha : SA X W (e :: es) fa) (hkw : PK X kws (tA (cgd X) W fk))
    (hall : (backToKw pos (keywordEach kws X.env)).all (·.1.isSome) = true := by rfl) (hks : (backToKw pos (keywordEach kws X.env)).filterMap (·.1) = ks := by rfl) (hdb : (x == ("__debug__" : Str)) = false := by decide)
    (he : starEach (e :: es) X.env = (false, eval e X.env) :: starEach es X.env := by rfl) (hpl : ((backTo pos (starEach (e :: es) X.env)).any (·.1) || (backToKw pos (keywordEach kws X.env)).any (·.1.isNone)) = false := by rfl) :
    SE X W (.Call (.Name x p) (e :: es) kws pos) (eMake c n ks.length np gD ff fa fk) := by
  obtain ⟨fd, ps, F, g, gV, hb, hgd⟩ := F
  refine ⟨fun pins s σ H Q I h => ?_⟩
  refine wpAny_Call_Name_kw (ld_glob I hg hm ?_ hdb)
  refine PySem.W.callWith_KW (h₀ := X.base) I.ok.mod.kin M.kp hall (thn (ha.run pos pins s σ H _ I (make_imp hgd h)) fun us s1 ⟨vs, H1, I1, r, q⟩ => ?_) hpl he
  refine thn (hkw.run pos pins s1 σ H1 _ I1 q) fun ws s2 ⟨zs, H2, I2, rz, l1, l2, q2⟩ => ⟨I2.kIn, ?_⟩
  rw [hks]
  exact run_makeS (E := fun _ => WE W σ) M F hr hb tk I2 r rz l1 l2 q2
theorem _root_.L2.PK.imp {X : Cx} {e : List Keyword} {t t' : TA} (h : PK X e t) (i : ∀ σ H Q, t' σ H Q → t σ H Q) : PK X e t' := ⟨fun p pins s σ H Q I q => h.run p pins s σ H Q I (i σ H Q q)⟩
theorem sk_nil : PK X [] (tA (cgd X) W aNil) := pk_nil.imp fun σ H Q h => by
  obtain ⟨ι, M, env, A, E, h⟩ := h
  exact h ι H _ Step.refl A (by simp only [Reps])
theorem sk_cons {nm : Option Str} {e : Expr} {kpos : Pos} {kws : List Keyword} {fe : EF} {fr : AF} (ha : SE X W e fe) (hr : PK X kws (tA (cgd X) W fr)) : PK X (⟨nm, e, kpos⟩ :: kws) (tA (cgd X) W (aCons fe fr)) :=
  (pk_cons ha hr).imp fun σ H Q h => by
    obtain ⟨ι, M, env, A, E, h⟩ := h
    refine tE.mono (tE.seq A E h) fun x H1 ⟨ι1, M1, d1, s1, A1, E1, r1, _, h1⟩ => ?_
    refine tA.mono (tA.seq A1 E1 h1) fun xs H2 ⟨ι2, M2, d2, s2, A2, E2, r2, _, h2⟩ => ?_
    exact h2 ι2 H2 _ Step.refl A2 (by simp only [Reps]; exact ⟨_, _, rfl, r1.ext (s2.ext A1.nt), r2⟩)
/-! #### o.f = e -/
def putD (f : Str) (v : D) : List (Str × D) → List (Str × D)
  | [] => [(f, v)]
  | (g, x) :: r => if g = f then (g, v) :: r else (g, x) :: putD f v r
def sFld (f : Str) (ok : Nat → Bool) (fo fv : EF) : SF := fun env M => (fv env M).bindS env fun v M1 => (fo env M1).bindS env fun o M2 => match o with
  | .ref n => match M2[n]? with
    | some (.ins c fs) => if ok c = true ∧ fs.length < 1000 then .ok (.nx env) (M2.set n (.ins c (putD f v fs))) else .bad
    | _ => .bad
  | _ => .bad
theorem FRel.put {K : PySem.W.Frag} {ι : List Addr} {H : Hp} {f : Str} {d : D} {v : V} (r : Rep K ι H d v) : ∀ {fs : List (Str × D)} {vs : List (Str × V)}, FRel K ι H fs vs → FRel K ι H (putD f d fs) (putF f v vs)
  | _, _, .nil => .cons ⟨rfl, r⟩ .nil
  | (g, x) :: fs, (g', y) :: vs, .cons z t => by
    obtain ⟨q, z⟩ := z
    simp only at q
    subst q
    unfold putD putF
    by_cases h : g = f
    · rw [if_pos h, if_pos h]; exact .cons ⟨rfl, r⟩ t
    · rw [if_neg h, if_neg h]; exact .cons ⟨rfl, z⟩ (FRel.put r t)
theorem FRel.length {K : PySem.W.Frag} {ι : List Addr} {H : Hp} {fs : List (Str × D)} {vs : List (Str × V)} (h : FRel K ι H fs vs) : fs.length = vs.length := Paired.length h
theorem ss_fld {o value : Expr} {f : Str} {pos' : Pos} {ok : Nat → Bool} {fo fv : EF} (hc : ∀ c, ok c = true → Cls X.K (ca X.K c) ∧ NoAttr X.K (ca X.K c) f) (ho : SE X W o fo) (hv : SE X W value fv) (hs : swapsWith value (some (.Attribute o f pos')) pos.line X.env = pure false) :
    SS X W (.Assign [.Attribute o f pos'] value pos) (sFld f ok fo fv) :=
  (ps_fld ho hv hs).imp fun C σ H h => by
    obtain ⟨ι, M, env, A, E, h⟩ := h
    refine tE.mono (tE.seqS A E h) fun y H1 ⟨ι1, M1, v, s1, A1, E1, r1, _, h1⟩ => ?_
    refine tE.mono (tE.seqS A1 E1 h1) fun x H2 ⟨ι2, M2, d2, s2, A2, E2, r2, _, h2⟩ => ?_
    cases d2 with
    | ref n =>
      simp only at h2
      cases e1 : M2[n]? with
      | none => rw [e1] at h2; exact h2.elim
      | some o =>
        rw [e1] at h2
        cases o with
        | ins c fs =>
          simp only at h2
          by_cases hl : ok c = true ∧ fs.length < 1000
          · rw [if_pos hl] at h2
            simp only [Rep] at r2
            obtain ⟨a, ea, rfl⟩ := r2
            obtain ⟨dx, vs, hH, fr⟩ := A2.obj n a _ ea e1
            have ha := List.mem_of_getElem? ea
            refine ⟨a, ca X.K c, dx, vs, rfl, hH, (hc c hl.1).1, (hc c hl.1).2, by rw [← fr.length]; exact hl.2, ?_⟩
            have nf : NF H2 a := NF.of hH fun _ _ z => nomatch z
            have x3 := ext_upd (K := X.K) (u := .ins (ca X.K c) dx (putF f y vs)) A2.nt ha nf
            exact h2 ι2 _ σ (step_upd ha nf) (A2.upd nf ea ⟨dx, _, upd_same, FRel.put (r1.ext ((s2.ext A1.nt).trans x3)) (fr.ext x3)⟩) (E2.ext x3)
          · rw [if_neg hl] at h2; exact h2.elim
        | _ => exact h2.elim
    | _ => exact h2.elim
end
end Sh

namespace Sh
open PySem L2

/-! ### operators -/
section
variable {X : Cx}
theorem PostO.int {G : Gd} {ι : List Addr} {H : Hp} {M : Store} {i : Int} {Q : VK} (A : Abs G.K ι H G.P G.w M) (h : PostO G ι H (some (.int i, M)) Q) : Q (.int i) H := h.val A (by simp only [Rep])
theorem PostO.bl {G : Gd} {ι : List Addr} {H : Hp} {M : Store} {b : Bool} {Q : VK} (A : Abs G.K ι H G.P G.w M) (h : PostO G ι H (some (.bl b, M)) Q) : Q (.bl b) H := h.val A (by simp only [Rep])
def oII (C : Int → Int → Bool) (g : Int → Int → D) : O2 := fun x y M => match x, y with
  | .int i, .int j => if C i j = true then some (g i j, M) else none
  | _, _ => none
theorem so_II {f : Value → Value → Sem Value} {C : Int → Int → Prop} {Cb : Int → Int → Bool} {g : Int → Int → V} {gD : Int → Int → D} (h : OpR X f (rI C g)) (hc : ∀ i j, Cb i j = true → C i j) (hg : ∀ ι H i j, Rep X.K ι H (gD i j) (g i j)) : SOp X f (oII Cb gD) :=
  h.imp fun x y H Q q => by
    obtain ⟨ι, M, d, e, A, r1, r2, q⟩ := q
    cases d with
    | int i =>
      cases e with
      | int j =>
        simp only [Rep] at r1 r2
        subst r1 r2
        have q : PostO (cgd X) ι H (if Cb i j = true then some (gD i j, M) else none) Q := q
        by_cases c : Cb i j = true
        · rw [if_pos c] at q
          exact ⟨i, j, rfl, rfl, hc i j c, q.val A (hg ι H i j)⟩
        · rw [if_neg c] at q; exact q.elim
      | _ => exact q.elim
    | _ => exact q.elim
theorem rI_of {f : Value → Value → Sem Value} {g : Int → Int → V} (h : OpR X f (rI0 g)) : OpR X f (rI (fun _ _ => True) g) := h.imp fun x y H Q ⟨i, j, a, b, _, q⟩ => ⟨i, j, a, b, q⟩
abbrev tt2 : Int → Int → Bool := fun _ _ => true
abbrev oSub : O2 := oII tt2 fun i j => .int (i - j)
abbrev oLt : O2 := oII tt2 fun i j => .bl (decide (i < j))
abbrev oLe : O2 := oII tt2 fun i j => .bl (decide (i ≤ j))
abbrev oGt : O2 := oII tt2 fun i j => .bl (decide (j < i))
abbrev oGe : O2 := oII tt2 fun i j => .bl (decide (j ≤ i))
abbrev oMod : O2 := oII (fun _ j => decide (0 < j)) fun i j => .int (i % j)
abbrev oFdiv : O2 := oII (fun _ j => decide (0 < j) && decide (j.natAbs.log2 < 9000)) fun i j => .int (i / j)
abbrev oPow : O2 := oII (fun i j => decide (0 ≤ j) && decide (j ≤ 1000000) && decide (i.natAbs < 2 ^ 64)) fun i j => .int (i ^ j.toNat)
theorem so_sub : SOp X (binaryOp .Sub) oSub := so_II (rI_of op_sub) (fun _ _ _ => trivial) fun _ _ _ _ => by simp only [Rep]
theorem so_isub : SOp X (inplaceOp .Sub) oSub := so_II (rI_of iop_sub) (fun _ _ _ => trivial) fun _ _ _ _ => by simp only [Rep]
theorem so_lt : SOp X (compareOp .Lt) oLt := so_II (rI_of op_lt) (fun _ _ _ => trivial) fun _ _ _ _ => by simp only [Rep]
theorem so_le : SOp X (compareOp .LtE) oLe := so_II (rI_of op_le) (fun _ _ _ => trivial) fun _ _ _ _ => by simp only [Rep]
theorem so_gt : SOp X (compareOp .Gt) oGt := so_II (rI_of op_gt) (fun _ _ _ => trivial) fun _ _ _ _ => by simp only [Rep]
theorem so_ge : SOp X (compareOp .GtE) oGe := so_II (rI_of op_ge) (fun _ _ _ => trivial) fun _ _ _ _ => by simp only [Rep]
theorem so_mod : SOp X (binaryOp .Mod) oMod := so_II op_mod (fun _ _ h => of_decide_eq_true h) fun _ _ _ _ => by simp only [Rep]
theorem so_fdiv : SOp X (binaryOp .FloorDiv) oFdiv := so_II op_fdivW (fun _ _ h => by
  simp only [Bool.and_eq_true, decide_eq_true_eq] at h; exact h) fun _ _ _ _ => by simp only [Rep]
theorem so_pow : SOp X (binaryOp .Pow) oPow := so_II op_pow (fun _ _ h => by
  simp only [Bool.and_eq_true, decide_eq_true_eq] at h; exact ⟨h.1.1, h.1.2, h.2⟩) fun _ _ _ _ => by simp only [Rep]
/-! + -/
def oAdd : O2 := fun x y M => match x, y with
  | .int i, .int j => some (.int (i + j), M)
  | .tup l, .tup r => if l.length + r.length ≤ 1000000 then some (.tup (l ++ r), M) else none
  | .ref n, .ref m => match M[n]?, M[m]? with
    | some (.lst l), some (.lst r) => if l.length + r.length ≤ 1000000 then some (.ref M.length, M ++ [.lst (l ++ r)]) else none
    | _, _ => none
  | .str a, .str b => if a.length + b.length ≤ 1000000 then some (.str (a ++ b), M) else none
  | _, _ => none
theorem Reps.append {K : PySem.W.Frag} {ι : List Addr} {H : Hp} : ∀ {l r : List D} {vs us : List V}, Reps K ι H l vs → Reps K ι H r us → Reps K ι H (l ++ r) (vs ++ us)
  | [], _, _, _, h, g => by simp only [Reps] at h; subst h; exact g
  | d :: l, r, _, _, h, g => by
    simp only [Reps] at h
    obtain ⟨v, rs, rfl, h1, h2⟩ := h
    show Reps K ι H (d :: (l ++ r)) (v :: (rs ++ _))
    simp only [Reps]
    exact ⟨_, _, rfl, h1, Reps.append h2 g⟩
theorem Reps.nil_iff {K : PySem.W.Frag} {ι : List Addr} {H : Hp} {l : List D} {vs : List V} (h : Reps K ι H l vs) : vs = [] ↔ l = [] := by
  have := h.length
  cases l <;> cases vs <;> simp at this ⊢
theorem rep_tup {K : PySem.W.Frag} {ι : List Addr} {H : Hp} {a : Addr} {vs : List V} {l : List D} (h : SqT K H a vs) (r : Reps K ι H l vs) : Rep K ι H (.tup l) (.ref a) := by simp only [Rep]; exact ⟨a, vs, rfl, h, r⟩
theorem so_add : SOp X (binaryOp .Add) oAdd :=
  (((op_add.or op_catA).or op_cat).or op_add_str).imp fun x y H Q q => by
    obtain ⟨ι, M, d, e, A, r1, r2, q⟩ := q
    cases d with
    | int i =>
      cases e with
      | int j =>
        simp only [Rep] at r1 r2
        exact .inl (.inl (.inl ⟨i, j, r1, r2, q.int A⟩))
      | _ => exact q.elim
    | tup l =>
      cases e with
      | tup r =>
        simp only [Rep] at r1 r2
        obtain ⟨a, vs, rfl, h1, h2⟩ := r1
        obtain ⟨b, us, rfl, h3, h4⟩ := r2
        have q : PostO (cgd X) ι H (if l.length + r.length ≤ 1000000 then some (.tup (l ++ r), M) else none) Q := q
        by_cases c : l.length + r.length ≤ 1000000
        · rw [if_pos c] at q
          refine .inl (.inl (.inr ⟨a, b, vs, us, rfl, rfl, h1, h3, by rw [← h2.length, ← h4.length]; exact lim_le c, fun e => ?_, fun _ e => ?_, fun _ _ => q.tup A (h2.append h4)⟩))
          · have el := h2.nil_iff.mp e
            subst el
            exact q.val A (rep_tup h3 h4)
          · have er := h4.nil_iff.mp e
            subst er
            rw [List.append_nil] at q
            exact q.val A (rep_tup h1 h2)
        · rw [if_neg c] at q; exact q.elim
      | _ => exact q.elim
    | ref n =>
      cases e with
      | ref m =>
        simp only [Rep] at r1 r2
        obtain ⟨a, ea, rfl⟩ := r1
        obtain ⟨b, eb, rfl⟩ := r2
        have q : PostO (cgd X) ι H (match M[n]?, M[m]? with
          | some (.lst l), some (.lst r) => if l.length + r.length ≤ 1000000 then some (.ref M.length, M ++ [.lst (l ++ r)]) else none
          | _, _ => none) Q := q
        cases e1 : M[n]? with
        | none => rw [e1] at q; exact q.elim
        | some o =>
          cases e2 : M[m]? with
          | none => rw [e1, e2] at q; cases o <;> exact q.elim
          | some o' =>
            rw [e1, e2] at q
            cases o with
            | lst l =>
              cases o' with
              | lst r =>
                obtain ⟨vs, h1, h2⟩ := A.obj n a _ ea e1
                obtain ⟨us, h3, h4⟩ := A.obj m b _ eb e2
                simp only at q
                by_cases c : l.length + r.length ≤ 1000000
                · rw [if_pos c] at q
                  exact .inl (.inr ⟨a, b, vs, us, rfl, rfl, h1, h3, by rw [← h2.length, ← h4.length]; exact lim_le c, q.lst A (h2.append h4)⟩)
                · rw [if_neg c] at q; exact q.elim
              | _ => exact q.elim
            | _ => exact q.elim
      | _ => exact q.elim
    | str a =>
      cases e with
      | str b =>
        simp only [Rep] at r1 r2
        have q : PostO (cgd X) ι H (if a.length + b.length ≤ 1000000 then some (.str (a ++ b), M) else none) Q := q
        by_cases c : a.length + b.length ≤ 1000000
        · rw [if_pos c] at q
          exact .inr ⟨a, b, r1, r2, lim_le c, q.val A (by simp only [Rep])⟩
        · rw [if_neg c] at q; exact q.elim
      | _ => exact q.elim
    | _ => exact q.elim
theorem so_iadd : SOp X (inplaceOp .Add) (oII tt2 fun i j => .int (i + j)) := so_II (rI_of iop_add) (fun _ _ _ => trivial) fun _ _ _ _ => by simp only [Rep]
/-! * -/
def mulOk (i j : Int) : Bool := decide ((Builtin.Int.intBits i : Int) + (Builtin.Int.intBits j : Int) ≤ 134217728)
def oMul : O2 := fun x y M => match x, y with
  | .int i, .int j => if mulOk i j = true then some (.int (i * j), M) else none
  | .ref n, .int k => match M[n]? with
    | some (.lst l) => if -1000000 ≤ k ∧ k ≤ 1000000 ∧ l.length * k.toNat ≤ 1000000 then some (.ref M.length, M ++ [.lst (List.replicate k.toNat l).flatten]) else none
    | _ => none
  | .tup l, .int k => if l ≠ [] ∧ 2 ≤ k ∧ k ≤ 1000 ∧ l.length ≤ 1000 then some (.tup (List.replicate k.toNat l).flatten, M) else none
  | _, _ => none
theorem Reps.rep {K : PySem.W.Frag} {ι : List Addr} {H : Hp} {l : List D} {vs : List V} (h : Reps K ι H l vs) : ∀ k : Nat, Reps K ι H (List.replicate k l).flatten (List.replicate k vs).flatten
  | 0 => by simp [Reps]
  | k + 1 => by simp only [List.replicate_succ, List.flatten_cons]; exact h.append (Reps.rep h k)
theorem so_mul : SOp X (binaryOp .Mult) oMul :=
  ((op_mulX.or op_rep).or op_repT).imp fun x y H Q q => by
    obtain ⟨ι, M, d, e, A, r1, r2, q⟩ := q
    cases d with
    | int i =>
      cases e with
      | int j =>
        simp only [Rep] at r1 r2
        have q : PostO (cgd X) ι H (if mulOk i j = true then some (.int (i * j), M) else none) Q := q
        by_cases c : mulOk i j = true
        · rw [if_pos c] at q
          exact .inl (.inl ⟨i, j, r1, r2, of_decide_eq_true (p := (Builtin.Int.intBits i : Int) + (Builtin.Int.intBits j : Int) ≤ 134217728) c, q.int A⟩)
        · rw [if_neg c] at q; exact q.elim
      | _ => exact q.elim
    | ref n =>
      cases e with
      | int k =>
        simp only [Rep] at r1 r2
        obtain ⟨a, ea, rfl⟩ := r1
        have q : PostO (cgd X) ι H (match M[n]? with
          | some (.lst l) => if -1000000 ≤ k ∧ k ≤ 1000000 ∧ l.length * k.toNat ≤ 1000000 then some (.ref M.length, M ++ [.lst (List.replicate k.toNat l).flatten]) else none
          | _ => none) Q := q
        cases e1 : M[n]? with
        | none => rw [e1] at q; exact q.elim
        | some o =>
          rw [e1] at q
          cases o with
          | lst l =>
            simp only at q
            obtain ⟨vs, h1, h2⟩ := A.obj n a _ ea e1
            by_cases c : -1000000 ≤ k ∧ k ≤ 1000000 ∧ l.length * k.toNat ≤ 1000000
            · rw [if_pos c] at q
              exact .inl (.inr ⟨a, k, vs, rfl, r2, h1, by omega, by omega, by rw [← h2.length]; exact lim_le c.2.2, q.lst A (h2.rep k.toNat)⟩)
            · rw [if_neg c] at q; exact q.elim
          | _ => exact q.elim
      | _ => exact q.elim
    | tup l =>
      cases e with
      | int k =>
        simp only [Rep] at r1 r2
        obtain ⟨a, vs, rfl, h1, h2⟩ := r1
        have q : PostO (cgd X) ι H (if l ≠ [] ∧ 2 ≤ k ∧ k ≤ 1000 ∧ l.length ≤ 1000 then some (.tup (List.replicate k.toNat l).flatten, M) else none) Q := q
        by_cases c : l ≠ [] ∧ 2 ≤ k ∧ k ≤ 1000 ∧ l.length ≤ 1000
        · rw [if_pos c] at q
          exact .inr ⟨a, k, vs, rfl, r2, h1, fun z => c.1 (h2.nil_iff.mp z), c.2.1, c.2.2.1, by rw [← h2.length]; exact c.2.2.2, q.tup A (h2.rep k.toNat)⟩
        · rw [if_neg c] at q; exact q.elim
      | _ => exact q.elim
    | _ => exact q.elim
/-! == -/
def optAll {α : Type} : List (Option α) → Option (List α)
  | [] => some []
  | some a :: r => (optAll r).map (a :: ·)
  | none :: _ => none
def pyd (M : Store) : Nat → D → Option PyData
  | 0, _ => none
  | n + 1, d => match d with
    | .non => some .none
    | .bl b => some (.bool b)
    | .int i => some (.int i)
    | .str x => some (.str x)
    | .tup l => (optAll (l.map (pyd M n))).map .tuple
    | .ref k => match M[k]? with
      | some (.lst l) => (optAll (l.map (pyd M n))).map .list
      | some (.fz l) => (optAll (l.map (pyd M n))).map .list
      | _ => none
    | .ty _ => none
theorem dps {K : PySem.W.Frag} {ι : List Addr} {H : Hp} {f : D → Option PyData} (hf : ∀ d v p, Rep K ι H d v → f d = some p → Dp K H v p) : ∀ {l : List D} {vs : List V} {ps : List PyData}, Reps K ι H l vs → optAll (l.map f) = some ps → DpAll K H vs ps
  | [], vs, ps, h, e => by
    simp only [Reps] at h
    simp [optAll] at e
    subst h e
    exact .nil
  | d :: l, vs, ps, h, e => by
    simp only [Reps] at h
    obtain ⟨v, r, rfl, h1, h2⟩ := h
    simp only [List.map_cons] at e
    cases q : f d with
    | none => rw [q] at e; simp [optAll] at e
    | some p =>
      rw [q] at e
      simp only [optAll, Option.map_eq_some_iff] at e
      obtain ⟨ps', e1, rfl⟩ := e
      exact .cons (hf d v p h1 q) (dps hf h2 e1)
theorem dp_of {G : Gd} {ι : List Addr} {H : Hp} {M : Store} (A : Abs G.K ι H G.P G.w M) : ∀ (n : Nat) (d : D) (v : V) (p : PyData), Rep G.K ι H d v → pyd M n d = some p → Dp G.K H v p
  | 0, _, _, _, _, e => by simp [pyd] at e
  | n + 1, d, v, p, r, e => by
    cases d with
    | non => simp only [Rep] at r; simp [pyd] at e; subst r e; exact .non
    | bl b => simp only [Rep] at r; simp [pyd] at e; subst r e; exact .bl b
    | int i => simp only [Rep] at r; simp [pyd] at e; subst r e; exact .int i
    | str x => simp only [Rep] at r; simp [pyd] at e; subst r e; exact .str x
    | ty n => simp [pyd] at e
    | tup l =>
      simp only [Rep] at r
      obtain ⟨a, vs, rfl, h1, h2⟩ := r
      simp only [pyd, Option.map_eq_some_iff] at e
      obtain ⟨ps, e, rfl⟩ := e
      exact .tup h1 (dps (dp_of A n) h2 e)
    | ref k =>
      simp only [Rep] at r
      obtain ⟨a, ea, rfl⟩ := r
      simp only [pyd] at e
      cases e1 : M[k]? with
      | none => rw [e1] at e; cases e
      | some o =>
        rw [e1] at e
        cases o with
        | lst l =>
          simp only [Option.map_eq_some_iff] at e
          obtain ⟨ps, e, rfl⟩ := e
          obtain ⟨vs, h1, h2⟩ := A.obj k a _ ea e1
          exact .lst (SqL.of h1) (dps (dp_of A n) h2 e)
        | fz l =>
          simp only [Option.map_eq_some_iff] at e
          obtain ⟨ps, e, rfl⟩ := e
          obtain ⟨vs, h1, h2⟩ := sq_fz (A.obj k a _ ea e1)
          exact .lst h1 (dps (dp_of A n) h2 e)
        | _ => cases e
/-- deep == of data -/
def eqD (M : Store) (x y : D) : Option Bool := match pyd M 8 x, pyd M 8 y with
  | some p, some q => if SeqAt.shaped p = true ∧ SeqAt.shaped q = true then some (PyData.eqv p q) else none
  | _, _ => none
def oEq : O2 := fun x y M => (eqD M x y).map fun b => (.bl b, M)
def oNe : O2 := fun x y M => (eqD M x y).map fun b => (.bl (!b), M)
theorem eqD_of {G : Gd} {ι : List Addr} {H : Hp} {M : Store} {x y : D} {v u : V} {b : Bool} (A : Abs G.K ι H G.P G.w M) (r1 : Rep G.K ι H x v) (r2 : Rep G.K ι H y u) (h : eqD M x y = some b) :
    ∃ p q, Dp G.K H v p ∧ Dp G.K H u q ∧ SeqAt.shaped p = true ∧ SeqAt.shaped q = true ∧ b = PyData.eqv p q := by
  unfold eqD at h
  cases e1 : pyd M 8 x with
  | none => rw [e1] at h; cases h
  | some p =>
    cases e2 : pyd M 8 y with
    | none => rw [e1, e2] at h; cases h
    | some q =>
      rw [e1, e2] at h
      simp only at h
      by_cases c : SeqAt.shaped p = true ∧ SeqAt.shaped q = true
      · rw [if_pos c] at h
        cases h
        exact ⟨p, q, dp_of A 8 _ _ _ r1 e1, dp_of A 8 _ _ _ r2 e2, c.1, c.2, rfl⟩
      · rw [if_neg c] at h; cases h
theorem so_eq (hu : X.A.units + 64 < cLine) : SOp X (compareOp .Eq) oEq := (op_eqD hu).imp fun x y H Q q => by
  obtain ⟨ι, M, d, e, A, r1, r2, q⟩ := q
  unfold oEq at q
  cases h : eqD M d e with
  | none => rw [h] at q; exact q.elim
  | some b =>
    rw [h] at q
    obtain ⟨p, q', h1, h2, h3, h4, rfl⟩ := eqD_of A r1 r2 h
    exact ⟨p, q', h1, h2, h3, h4, PostO.bl A q⟩
theorem so_ne (hu : X.A.units + 64 < cLine) : SOp X (compareOp .NotEq) oNe := (op_neD hu).imp fun x y H Q q => by
  obtain ⟨ι, M, d, e, A, r1, r2, q⟩ := q
  unfold oNe at q
  cases h : eqD M d e with
  | none => rw [h] at q; exact q.elim
  | some b =>
    rw [h] at q
    obtain ⟨p, q', h1, h2, h3, h4, rfl⟩ := eqD_of A r1 r2 h
    exact ⟨p, q', h1, h2, h3, h4, PostO.bl A q⟩
end
end Sh

namespace Sh
open PySem L2

/-! ### dicts with tuple keys -/
mutual
theorem nk_inj : ∀ (a b : D) (k : NestedKey), nk a = some k → nk b = some k → a = b
  | .non, b, k, h, g => by
    simp only [nk, Option.some.injEq] at h
    subst h
    cases b with
    | tup l => simp [nk] at g
    | _ => simp [nk] at g ⊢
  | .int i, b, k, h, g => by
    simp only [nk, Option.some.injEq] at h
    subst h
    cases b with
    | tup l => simp [nk] at g
    | int j => simp [nk] at g; rw [g]
    | _ => simp [nk] at g
  | .str i, b, k, h, g => by
    simp only [nk, Option.some.injEq] at h
    subst h
    cases b with
    | tup l => simp [nk] at g
    | str j => simp [nk] at g; rw [g]
    | _ => simp [nk] at g
  | .tup l, b, k, h, g => by
    simp only [nk, Option.map_eq_some_iff] at h
    obtain ⟨ks, h, rfl⟩ := h
    cases b with
    | tup r =>
      simp only [nk, Option.map_eq_some_iff, NestedKey.tup.injEq] at g
      obtain ⟨ks', g, e⟩ := g
      rw [nks_inj l r ks h (by rw [← e]; exact g)]
    | _ => simp [nk] at g
  | .bl _, _, _, h, _ => by simp [nk] at h
  | .ref _, _, _, h, _ => by simp [nk] at h
  | .ty _, _, _, h, _ => by simp [nk] at h
theorem nks_inj : ∀ (a b : List D) (k : List NestedKey), nks a = some k → nks b = some k → a = b
  | [], [], _, _, _ => rfl
  | [], d :: l, k, h, g => by
    simp only [nks, Option.some.injEq] at h
    subst h
    unfold nks at g
    cases e1 : nk d <;> cases e2 : nks l <;> simp [e1, e2] at g
  | d :: l, [], k, h, g => by
    simp only [nks, Option.some.injEq] at g
    subst g
    unfold nks at h
    cases e1 : nk d <;> cases e2 : nks l <;> simp [e1, e2] at h
  | d :: l, e :: r, k, h, g => by
    unfold nks at h g
    cases e1 : nk d with
    | none => simp [e1] at h
    | some x =>
      cases e2 : nks l with
      | none => simp [e1, e2] at h
      | some y =>
        cases e3 : nk e with
        | none => simp [e3] at g
        | some x' =>
          cases e4 : nks r with
          | none => simp [e3, e4] at g
          | some y' =>
            simp [e1, e2] at h
            simp [e3, e4] at g
            subst h
            simp at g
            rw [nk_inj d e x e1 (by rw [e3, g.1]), nks_inj l r y e2 (by rw [e4, g.2])]
end
theorem nkey_nk {d : D} {k : NestedKey} (h : nkey d = some k) : nk d = some k ∧ k.depth ≤ 8 := by
  cases d with
  | tup l =>
    simp only [nkey] at h
    cases e : nks l with
    | none => rw [e] at h; cases h
    | some ks =>
      rw [e] at h
      simp only at h
      by_cases c : (NestedKey.tup ks).depth ≤ 8
      · rw [if_pos c] at h
        cases h
        exact ⟨by simp [nk, e], c⟩
      · rw [if_neg c] at h; cases h
  | _ => simp [nkey] at h
theorem nkey_inj {a b : D} {k : NestedKey} (h : nkey a = some k) (g : nkey b = some k) : a = b := nk_inj a b k (nkey_nk h).1 (nkey_nk g).1
section
variable {X : Cx} {pins : List (Addr × Obj)} {σ : St} {H : Hp} {s : Shared} {ι : List Addr}
mutual
theorem nested_of (I : Inv X pins σ H s) : ∀ (d : D) (v : V) (u : Value) (k : NestedKey), Rep X.K ι H d v → RelV v u → nk d = some k → NestedIs s.heap k u
  | .non, v, u, k, r, q, e => by
    simp only [Rep] at r
    subst r
    simp [nk] at e
    subst e
    rw [show u = Value.none from q]
    exact .none
  | .int i, v, u, k, r, q, e => by
    simp only [Rep] at r
    subst r
    simp [nk] at e
    subst e
    obtain ⟨t, rfl⟩ := q
    exact .int i t
  | .str i, v, u, k, r, q, e => by
    simp only [Rep] at r
    subst r
    simp [nk] at e
    subst e
    obtain ⟨t, rfl⟩ := q
    exact .text i t
  | .tup l, v, u, k, r, q, e => by
    simp only [Rep] at r
    obtain ⟨a, vs, rfl, h1, h2⟩ := r
    simp only [nk, Option.map_eq_some_iff] at e
    obtain ⟨ks, e, rfl⟩ := e
    obtain ⟨its, rv, ⟨o, ho, hc, n, hd⟩, _⟩ := I.tuple h1
    rw [show u = Value.ref a from q]
    exact .tup ho hc hd (by simpa using nested_all I l vs its ks h2 rv e)
  | .bl _, _, _, _, _, _, e => by simp [nk] at e
  | .ref _, _, _, _, _, _, e => by simp [nk] at e
  | .ty _, _, _, _, _, _, e => by simp [nk] at e
theorem nested_all (I : Inv X pins σ H s) : ∀ (l : List D) (vs : List V) (us : List Value) (ks : List NestedKey), Reps X.K ι H l vs → Vals vs us → nks l = some ks → NestedAll s.heap ks us
  | [], vs, us, ks, r, q, e => by
    simp only [Reps] at r
    subst r
    simp [nks] at e
    subst e
    cases q
    exact .nil
  | d :: l, vs, us, ks, r, q, e => by
    simp only [Reps] at r
    obtain ⟨v, rs, rfl, h1, h2⟩ := r
    cases q with
    | cons q1 q2 =>
      unfold nks at e
      cases e1 : nk d with
      | none => simp [e1] at e
      | some x =>
        cases e2 : nks l with
        | none => simp [e1, e2] at e
        | some y =>
          simp [e1, e2] at e
          subst e
          exact .cons (nested_of I d v _ x h1 q1 e1) (nested_all I l rs _ y h2 q2 e2)
end
theorem key_is (I : Inv X pins σ H s) {d : D} {a : Addr} {k : NestedKey} (r : Rep X.K ι H d (.ref a)) (h : nkey d = some k) : (nestedKind X.prog X.w).is s.heap k a := ⟨nested_of I d _ _ k r rfl (nkey_nk h).1, (nkey_nk h).2⟩
theorem dct_of (I : Inv X pins σ H s) {a : Addr} {kvs : List (D × D)} {o : Obj} (ho : s.heap.get? a = some o) (h : DctAt X.K ι H X.prog X.w a kvs o) :
    ∃ xs, s.heap.DictOfH (nestedKind X.prog X.w) a xs ∧ Paired (EntR X.K ι H) kvs xs ∧ xs.length = kvs.length ∧ kvs.length ≤ sizeLine ∧ (a == sysModules) = false := by
  obtain ⟨h1, h2, h3, es, ep, xs, h5, h6, h7, h8⟩ := h
  refine ⟨xs, ⟨o, es, ep, ho, h3, h5, h6, fun x m => ?_, h7⟩, h8, (Paired.length h8).symm, h2, h1⟩
  have : ∀ {l₁ : List (D × D)} {l₂ : List (NestedKey × Addr × Value)}, Paired (EntR X.K ι H) l₁ l₂ → x ∈ l₂ → (nestedKind X.prog X.w).is s.heap x.1 x.2.1 := by
    intro l₁ l₂ p
    induction p with
    | nil => intro m; cases m
    | cons r t ih =>
      intro m
      rcases List.mem_cons.mp m with e | m
      · subst e
        exact key_is I r.2.1 r.1
      · exact ih m
  exact this h8 m
/-- the dict's object is known -/
theorem dct_at (I : Inv X pins σ H s) {a : Addr} {o : Obj} (e : H a = some (dctO a o)) : s.heap.get? a = some o := (I.hok a _ e).1
theorem dlk_at (I : Inv X pins σ H s) {a : Addr} {o o' : Obj} (e : H a = some (.frz o' (dctO a o))) : s.heap.get? a = some o' ∧ s.heap.get? a = some o := ⟨(I.hok a _ e).1, (I.hok a _ e).2.1⟩
end
def lookD (kvs : List (D × D)) (k : D) : Option D := (kvs.find? fun p => decide (p.1 = k)).map (·.2)
def putKD (kvs : List (D × D)) (k v : D) : List (D × D) := if (lookD kvs k).isSome then kvs.map (fun p => if p.1 = k then (p.1, v) else p) else kvs ++ [(k, v)]
section
variable {K : PySem.W.Frag} {ι : List Addr} {H : Hp}
theorem look_rel {k : D} {x : NestedKey} (hk : nkey k = some x) : ∀ {kvs : List (D × D)} {xs : List (NestedKey × Addr × Value)}, Paired (EntR K ι H) kvs xs →
    (∀ d, lookD kvs k = some d → ∃ p v, atKey xs x = some p ∧ RelV v p.2 ∧ Rep K ι H d v) ∧ (lookD kvs k = none → atKey xs x = none)
  | _, _, .nil => ⟨fun d e => by simp [lookD] at e, fun _ => rfl⟩
  | (k', d') :: kvs, (x', a', u') :: xs, .cons r t => by
    obtain ⟨h1, h2, v, h3, h4⟩ := r
    by_cases e : k' = k
    · subst e
      have ex : x' = x := Option.some.inj (h1.symm.trans hk)
      subst ex
      refine ⟨fun d e => ?_, fun e => ?_⟩
      · simp [lookD] at e
        subst e
        exact ⟨(a', u'), v, by simp [atKey], h3, h4⟩
      · simp [lookD] at e
    · have nx : ¬ x' = x := fun z => e (nkey_inj h1 (by rw [z]; exact hk))
      have ih := look_rel hk t
      simpa [lookD, atKey, List.find?_cons, e, nx] using ih
theorem put_rel {k d : D} {x : NestedKey} {a : Addr} {u : Value} {v : V} (hk : nkey k = some x) (ra : Rep K ι H k (.ref a)) (ru : RelV v u) (rd : Rep K ι H d v) {kvs : List (D × D)} {xs : List (NestedKey × Addr × Value)} (p : Paired (EntR K ι H) kvs xs) :
    Paired (EntR K ι H) (putKD kvs k d) (storedH xs x a u) := by
  obtain ⟨l1, l2⟩ := look_rel hk p
  unfold putKD storedH
  cases e : lookD kvs k with
  | some d' =>
    obtain ⟨q, v', e2, _⟩ := l1 d' e
    rw [e2, if_pos (show (some d').isSome = true from rfl), if_pos (show (some q).isSome = true from rfl)]
    clear l1 l2 e e2
    induction p with
    | nil => exact .nil
    | @cons p0 q0 _ _ r t ih =>
      refine .cons ?_ ih
      obtain ⟨h1, h2, h3⟩ := r
      by_cases e : p0.1 = k
      · have ex : q0.1 = x := Option.some.inj (h1.symm.trans (by rw [e]; exact hk))
        simp only [putAt, e, ex, if_true]
        exact ⟨hk, by rw [← e]; exact h2, v, ru, rd⟩
      · have nx : ¬ q0.1 = x := fun z => e (nkey_inj h1 (by rw [z]; exact hk))
        simp only [putAt, e, nx, if_false]
        exact ⟨h1, h2, h3⟩
  | none =>
    rw [l2 e, if_neg (by simp), if_neg (by simp)]
    clear l1 l2 e
    induction p with
    | nil => exact .cons ⟨hk, ra, v, ru, rd⟩ .nil
    | cons r t ih => exact .cons r ih
end
theorem putKD_length (kvs : List (D × D)) (k v : D) : (putKD kvs k v).length ≤ kvs.length + 1 := by
  unfold putKD
  split <;> simp
/-- the dict at n, locked or not -/
def dctM (M : Store) (n : Nat) : Option (List (D × D)) := match M[n]? with
  | some (.dct kvs) => some kvs
  | some (.dlk kvs) => some kvs
  | _ => none
section
variable {X : Cx} {W : WX}
theorem dct_get {pins : List (Addr × Obj)} {σ : St} {H : Hp} {s : Shared} {ι : List Addr} {M : Store} {n : Nat} {a : Addr} {kvs : List (D × D)} (I : Inv X pins σ H s) (A : Abs X.K ι H X.prog X.w M) (ea : ι[n]? = some a) (e : dctM M n = some kvs) :
    ∃ o, s.heap.get? a = some o ∧ DctAt X.K ι H X.prog X.w a kvs o := by
  unfold dctM at e
  cases e1 : M[n]? with
  | none => rw [e1] at e; cases e
  | some ob =>
    rw [e1] at e
    cases ob with
    | dct l =>
      cases e
      obtain ⟨o, h1, h2⟩ := A.obj n a _ ea e1
      exact ⟨o, dct_at I h1, h2⟩
    | dlk l =>
      cases e
      obtain ⟨o, h1, h2⟩ := A.obj n a _ ea e1
      exact ⟨o, (dlk_at I h1).1, h2⟩
    | _ => cases e
theorem room_in1 {A : Around} (hu : A.units + 64 < cLine) {P : Program} {w : World} : (nestedKind P w).room A.in1 := by
  show A.units + 1 + 8 < cLine
  omega
def oGetD : O2 := fun x y M => match x with
  | .ref n => match dctM M n, nkey y with
    | some kvs, some _ => (lookD kvs y).map fun d => (d, M)
    | _, _ => none
  | _ => none
theorem getD_run {pins : List (Addr × Obj)} {s : Shared} {σ : St} {H : Hp} {x y : V} {v u : Value} {Q : VK} (hu : X.A.units + 64 < cLine) (I : Inv X pins σ H s) (rx : RelV x v) (ry : RelV y u) (q : rO2 (cgd X) oGetD x y H Q) :
    s.TypeIs v "dict" ∧ ∃ w, wpAny (model X.prog X.w) X.A (getItem v u) (fun r s' => r = w ∧ EP X pins σ Q r s') X.xe s := by
  obtain ⟨ι, M, d, e, A, r1, r2, q⟩ := q
  cases d with
  | ref n =>
    simp only [Rep] at r1
    obtain ⟨a, ea, rfl⟩ := r1
    rw [show v = Value.ref a from rx]
    have q : PostO (cgd X) ι H (match dctM M n, nkey e with | some kvs, some _ => (lookD kvs e).map fun d => (d, M) | _, _ => none) Q := q
    cases e1 : dctM M n with
    | none => rw [e1] at q; exact q.elim
    | some kvs =>
      cases e2 : nkey e with
      | none => rw [e1, e2] at q; exact q.elim
      | some k =>
        rw [e1, e2] at q
        simp only at q
        cases e3 : lookD kvs e with
        | none => rw [e3] at q; exact q.elim
        | some d =>
          rw [e3] at q
          obtain ⟨o, ho, da⟩ := dct_get I A ea e1
          obtain ⟨xs, hx, pr, _, _, _⟩ := dct_of I ho da
          obtain ⟨p, v', h1, h2, h3⟩ := (look_rel e2 pr).1 d e3
          obtain ⟨b, rfl⟩ : ∃ b, y = .ref b := by
            cases e with
            | tup l => simp only [Rep] at r2; obtain ⟨b, _, rfl, _⟩ := r2; exact ⟨b, rfl⟩
            | _ => simp [nkey] at e2
          rw [show u = Value.ref b from ry]
          refine ⟨hx.typeIs, p.2, wpAny_getItem_heap (room_in1 hu) (key_is I r2 e2) hx h1 ⟨rfl, v', H, I.tok _, h2, q.val A h3⟩⟩
  | _ => exact q.elim
theorem ix_dct (hu : X.A.units + 64 < cLine) : IxR X (rO2 (cgd X) oGetD) := by
  intro value slice pins s σ H x y v u Q I rx ry h hs
  obtain ⟨ht, w, hw⟩ := getD_run hu I rx ry h
  exact PyProof.Rows.subscriptTail_builtinR ht PySem.F.slot_dict_getitem.lookup hw hs
theorem pget_dct (hu : X.A.units + 64 < cLine) : PGet X (rO2 (cgd X) oGetD) := by
  intro pins s σ H o i ov iv Q I ro ri h
  obtain ⟨ht, w, hw⟩ := getD_run hu I ro ri h
  exact thn hw fun r s' z => z.2
/-! in, not in -/
def oInD (neg : Bool) : O2 := fun x y M => match y with
  | .ref n => match dctM M n, nkey x with
    | some kvs, some _ => some (.bl (if neg then !(lookD kvs x).isSome else (lookD kvs x).isSome), M)
    | _, _ => none
  | _ => none
theorem oInD_run {neg : Bool} {pins : List (Addr × Obj)} {s : Shared} {σ : St} {H : Hp} {x y : V} {v u : Value} {Q : VK} (hu : X.A.units + 64 < cLine) (I : Inv X pins σ H s) (rx : RelV x v) (ry : RelV y u) (q : rO2 (cgd X) (oInD neg) x y H Q) :
    ∃ a b k xs, v = .ref a ∧ u = .ref b ∧ (nestedKind X.prog X.w).is s.heap k a ∧ (b == sysModules) = false ∧ s.heap.DictOfH (nestedKind X.prog X.w) b xs ∧ Q (.bl (if neg then !(atKey xs k).isSome else (atKey xs k).isSome)) H := by
  obtain ⟨ι, M, d, e, A, r1, r2, q⟩ := q
  cases e with
  | ref n =>
    simp only [Rep] at r2
    obtain ⟨b, eb, rfl⟩ := r2
    have q : PostO (cgd X) ι H (match dctM M n, nkey d with | some kvs, some _ => some (.bl (if neg then !(lookD kvs d).isSome else (lookD kvs d).isSome), M) | _, _ => none) Q := q
    cases e1 : dctM M n with
    | none => rw [e1] at q; exact q.elim
    | some kvs =>
      cases e2 : nkey d with
      | none => rw [e1, e2] at q; exact q.elim
      | some k =>
        rw [e1, e2] at q
        obtain ⟨o, ho, da⟩ := dct_get I A eb e1
        obtain ⟨xs, hx, pr, _, _, hs⟩ := dct_of I ho da
        obtain ⟨a, rfl⟩ : ∃ a, x = .ref a := by
          cases d with
          | tup l => simp only [Rep] at r1; obtain ⟨b, _, rfl, _⟩ := r1; exact ⟨b, rfl⟩
          | _ => simp [nkey] at e2
        have es : (lookD kvs d).isSome = (atKey xs k).isSome := by
          obtain ⟨l1, l2⟩ := look_rel e2 pr
          cases h : lookD kvs d with
          | none => rw [l2 h]; rfl
          | some z => obtain ⟨p, _, h1, _⟩ := l1 z h; rw [h1]; rfl
        refine ⟨a, b, k, xs, rx, ry, key_is I r1 e2, hs, hx, ?_⟩
        rw [← es]
        exact PostO.bl A q
  | _ => exact q.elim
theorem so_inD (hu : X.A.units + 64 < cLine) : SOp X (compareOp .In) (oInD false) := fun pins s σ H x y v u Q I rx ry q => by
  obtain ⟨a, b, k, xs, rfl, rfl, h1, h2, h3, h4⟩ := oInD_run hu I rx ry q
  exact wpAny_in_heap (room_in1 hu) h1 h2 h3 ⟨.bl _, H, I.tok _, rfl, h4⟩
theorem so_notInD (hu : X.A.units + 64 < cLine) : SOp X (compareOp .NotIn) (oInD true) := fun pins s σ H x y v u Q I rx ry q => by
  obtain ⟨a, b, k, xs, rfl, rfl, h1, h2, h3, h4⟩ := oInD_run hu I rx ry q
  show wpAny _ _ (do return Value.bool (!(← contains (.ref b) (.ref a)))) _ _ s
  exact wpAny_bind (wpAny_contains_heap (room_in1 hu) h1 h2 h3 (wpAny_pure ⟨.bl _, H, I.tok _, rfl, h4⟩))
/-! d[k] = v -/
def oSetD : O3 := fun o i v M => match o with
  | .ref n => match M[n]?, nkey i with
    | some (.dct kvs), some _ => if kvs.length < 1000000 then some (M.set n (.dct (putKD kvs i v))) else none
    | _, _ => none
  | _ => none
theorem mut_dct {a : Addr} {o : Obj} : Mut (some (dctO a o)) := trivial
theorem dctO_new {X : Cx} {H : Hp} {h : Heap} {a : Addr} {o : Obj} (e : h.get? a = some o) : ObjOk X.prog X.w H h a (dctO a o) := ⟨e, ⟨o, e⟩, fun h1 h2 p k => k o p⟩
theorem set_dct (hu : X.A.units + 64 < cLine) : PSet X (rO3 (cgd X) oSetD) := by
  intro pins s σ H o i v ov iv u Q I ro ri rv q
  obtain ⟨ι, M, a, b, c, A, r1, r2, r3, q⟩ := q
  cases a with
  | ref n =>
    simp only [Rep] at r1
    obtain ⟨p, ea, rfl⟩ := r1
    rw [show ov = Value.ref p from ro]
    unfold oSetD at q
    cases e1 : M[n]? with
    | none => simp only [e1] at q
    | some ob =>
      cases e2 : nkey b with
      | none => cases ob <;> simp only [e1, e2] at q
      | some k =>
        cases ob with
        | dct kvs =>
          simp only [e1, e2] at q
          by_cases hl : kvs.length < 1000000
          · rw [if_pos hl] at q
            simp only at q
            obtain ⟨o, h1, h2⟩ := A.obj n p _ ea e1
            obtain ⟨xs, hx, pr, hxl, _, hs⟩ := dct_of I (dct_at I h1) h2
            obtain ⟨bb, rfl⟩ : ∃ b, i = .ref b := by
              cases b with
              | tup l => simp only [Rep] at r2; obtain ⟨b, _, rfl, _⟩ := r2; exact ⟨b, rfl⟩
              | _ => simp [nkey] at e2
            rw [show iv = Value.ref bb from ri]
            have ha := List.mem_of_getElem? ea
            have nf : NF H p := NF.of h1 fun _ _ z => nomatch z
            refine wpAny_setItem_heap (room_in1 hu) (key_is I r2 e2) hx (fun h' hd sb => ?_) (by rw [hxl]; exact lim_le (Nat.le_of_lt hl))
            obtain ⟨o', es, ep, ho', hex, hdt, hes, _, hnd⟩ := hd
            have I' : Inv X pins σ (upd H p (dctO p o')) { s with heap := h', toks := s.toks + (nestedKind X.prog X.w).draws k } :=
              I.write (x := p) (e := p) (by rw [h1]; exact mut_dct) (.inl rfl) (fun b ob hb e => (sb.2 b hb).trans e) ⟨o', ho'⟩ (dctO_new ho')
            have x3 := ext_upd (K := X.K) (u := dctO p o') A.nt ha nf
            refine ⟨_, I', q ι _ (step_upd ha nf) (A.upd nf ea ⟨o', upd_same, hs, ?_, hex, es, ep, _, hdt, hes, hnd, ?_⟩)⟩
            · exact lim_le (Nat.le_trans (putKD_length _ _ _) hl)
            · exact Paired.mapP (put_rel e2 r2 rv r3 pr) fun _ _ z => z.ext x3
          · rw [if_neg hl] at q; exact q.elim
        | _ => simp only [e1, e2] at q
  | _ => exact q.elim
end
end Sh

namespace Sh
open PySem L2

/-! ### sequences -/
/-- the items of a list in the store -/
def lstM (M : Store) (n : Nat) : Option (List D) := match M[n]? with
  | some (.lst l) => some l
  | some (.fz l) => some l
  | _ => none
theorem lst_get {K : PySem.W.Frag} {ι : List Addr} {H : Hp} {P : Program} {w : World} {M : Store} {n : Nat} {a : Addr} {l : List D} (A : Abs K ι H P w M) (ea : ι[n]? = some a) (e : lstM M n = some l) : ∃ vs, SqL K H a vs ∧ Reps K ι H l vs := by
  unfold lstM at e
  cases e1 : M[n]? with
  | none => rw [e1] at e; cases e
  | some ob =>
    rw [e1] at e
    cases ob with
    | lst l => cases e; exact sq_lst (A.obj n a _ ea e1)
    | fz l => cases e; exact sq_fz (A.obj n a _ ea e1)
    | _ => cases e
/-- the items of a list or a tuple -/
def seqM (M : Store) : D → Option (List D)
  | .tup l => some l
  | .ref n => lstM M n
  | _ => none
theorem seq_get {K : PySem.W.Frag} {ι : List Addr} {H : Hp} {P : Program} {w : World} {M : Store} {d : D} {v : V} {l : List D} (A : Abs K ι H P w M) (r : Rep K ι H d v) (e : seqM M d = some l) : ∃ a vs, v = .ref a ∧ (SqL K H a vs ∨ SqT K H a vs) ∧ Reps K ι H l vs := by
  cases d with
  | tup l' =>
    cases e
    simp only [Rep] at r
    obtain ⟨a, vs, rfl, h1, h2⟩ := r
    exact ⟨a, vs, rfl, .inr h1, h2⟩
  | ref n =>
    simp only [Rep] at r
    obtain ⟨a, ea, rfl⟩ := r
    obtain ⟨vs, h1, h2⟩ := lst_get A ea e
    exact ⟨a, vs, rfl, .inl h1, h2⟩
  | _ => cases e
theorem Reps.atI {K : PySem.W.Frag} {ι : List Addr} {H : Hp} {l : List D} {vs : List V} {i : Int} {d : D} (r : Reps K ι H l vs) (e : L2.atI l i = some d) : ∃ v, L2.atI vs i = some v ∧ Rep K ι H d v := by
  unfold L2.atI at e ⊢
  rw [← r.length]
  cases q : ixN l.length i with
  | none => rw [q] at e; cases e
  | some j => rw [q] at e; exact r.get e
section
variable {X : Cx} {W : WX}
def oIx : O2 := fun x y M => match y with
  | .int i => match x with
    | .str z => if z.length ≤ 1000000 then (atI z.cps.toList i).map fun c => (.str ⟨#[c]⟩, M) else none
    | _ => match seqM M x with
      | some l => (atI l i).map fun d => (d, M)
      | none => none
  | _ => oGetD x y M
theorem ix_all (hu : X.A.units + 64 < cLine) : IxR X (rO2 (cgd X) oIx) :=
  (ix_seq.or (ix_dct hu)).imp fun x y H Q q => by
    obtain ⟨ι, M, d, e, A, r1, r2, q⟩ := q
    cases e with
    | int i =>
      simp only [Rep] at r2
      subst r2
      refine .inl ?_
      have main : ∀ l, seqM M d = some l → PostO (cgd X) ι H ((atI l i).map fun d => (d, M)) Q → rIx X.K x (.int i) H Q := by
        intro l hl q
        obtain ⟨a, vs, rfl, hs, r⟩ := seq_get A r1 hl
        cases e : atI l i with
        | none => rw [e] at q; exact q.elim
        | some z =>
          rw [e] at q
          obtain ⟨v, ev, rv⟩ := r.atI e
          rcases hs with hs | hs
          · exact .inl ⟨a, vs, i, v, rfl, rfl, hs, ev, PostO.val A rv q⟩
          · exact .inr (.inl ⟨a, vs, i, v, rfl, rfl, hs, ev, PostO.val A rv q⟩)
      cases d with
      | str z =>
        simp only [Rep] at r1
        have q : PostO (cgd X) ι H (if z.length ≤ 1000000 then (atI z.cps.toList i).map fun c => (.str ⟨#[c]⟩, M) else none) Q := q
        by_cases c : z.length ≤ 1000000
        · rw [if_pos c] at q
          cases e : atI z.cps.toList i with
          | none => rw [e] at q; exact q.elim
          | some ch => rw [e] at q; exact .inr (.inr ⟨z, i, ch, r1, rfl, lim_le c, e, PostO.val A (by simp only [Rep]) q⟩)
        · rw [if_neg c] at q; exact q.elim
      | tup l => exact main l rfl q
      | ref n =>
        have q : PostO (cgd X) ι H (match seqM M (.ref n) with | some l => (atI l i).map fun d => (d, M) | none => none) Q := q
        cases e : seqM M (.ref n) with
        | none => rw [e] at q; exact q.elim
        | some l => rw [e] at q; exact main l e q
      | _ => exact q.elim
    | _ => exact .inr ⟨ι, M, d, _, A, r1, r2, q⟩
theorem se_ix {a b : Expr} {fa fb : EF} {pos : Pos} {op : O2} (h : IxR X (rO2 (cgd X) op)) (ha : SE X W a fa) (hb : SE X W b fb) (hs : PlainIx b) : SE X W (.Subscript a b pos) (eBin op fa fb) :=
  (pe_ix h ha hb hs).imp fun σ H Q h => bin_imp h
/-! slices -/
def cutD (l : List D) (lo hi : Option Int) : List D := (l.drop (HT.sIx l.length 0 lo)).take (HT.sIx l.length l.length hi - HT.sIx l.length 0 lo)
theorem Reps.drop {K : PySem.W.Frag} {ι : List Addr} {H : Hp} : ∀ {l : List D} {vs : List V} (n : Nat), Reps K ι H l vs → Reps K ι H (l.drop n) (vs.drop n)
  | _, _, 0, h => h
  | [], vs, n + 1, h => by simp only [Reps] at h; subst h; simp [Reps]
  | d :: l, vs, n + 1, h => by
    simp only [Reps] at h
    obtain ⟨v, r, rfl, h1, h2⟩ := h
    exact Reps.drop n h2
theorem Reps.takeN {K : PySem.W.Frag} {ι : List Addr} {H : Hp} : ∀ {l : List D} {vs : List V} (n : Nat), Reps K ι H l vs → Reps K ι H (l.take n) (vs.take n)
  | _, _, 0, h => by simp [Reps]
  | [], vs, n + 1, h => by simp only [Reps] at h; subst h; simp [Reps]
  | d :: l, vs, n + 1, h => by
    simp only [Reps] at h
    obtain ⟨v, r, rfl, h1, h2⟩ := h
    simp only [List.take_succ_cons, Reps]
    exact ⟨_, _, rfl, h1, Reps.takeN n h2⟩
theorem Reps.cut {K : PySem.W.Frag} {ι : List Addr} {H : Hp} {l : List D} {vs : List V} (lo hi : Option Int) (h : Reps K ι H l vs) : Reps K ι H (cutD l lo hi) (cutV vs lo hi) := by
  unfold cutD cutV
  rw [← h.length]
  exact (h.drop _).takeN _
abbrev OF := Env → Store → Res (Option Int)
def pNone : OF := fun _ M => .ok none M
def pSome (f : EF) : OF := fun env M => (f env M).bind fun d M1 => match d with
  | .int i => .ok (some i) M1
  | _ => .bad
def tO (G : Gd) (W : WX) (f : OF) : TO := fun σ H Q => ∃ ι M env, Abs G.K ι H G.P G.w M ∧ EnvR G.K ι H env σ ∧ Post G W ι H (fun _ _ (b c : Option Int) => b = c) σ (f env M) Q
theorem tO.seq {G : Gd} {ι : List Addr} {H : Hp} {σ : St} {M : Store} {env : Env} {γ : Type} {δ : Type} {R2 : List Addr → Hp → γ → δ → Prop} {f : OF} {g : Option Int → Store → Res γ} {Q : δ → Hp → Prop} (A : Abs G.K ι H G.P G.w M) (E : EnvR G.K ι H env σ)
    (h : Post G W ι H R2 σ ((f env M).bind g) Q) :
    tO G W f σ H fun x H1 => ∃ ι1 M1, Step ι H ι1 H1 ∧ Abs G.K ι1 H1 G.P G.w M1 ∧ EnvR G.K ι1 H1 env σ ∧ f env M = .ok x M1 ∧ Post G W ι1 H1 R2 σ (g x M1) Q := by
  refine ⟨ι, M, env, A, E, ?_⟩
  cases e : f env M with
  | ok d M1 =>
    rw [e] at h
    exact fun ι' H' v s a r => by subst r; exact ⟨ι', M1, s, a, E.ext (s.ext A.nt), rfl, Post.step s h⟩
  | exc c fs M1 => rw [e] at h; exact h
  | bad => rw [e] at h; exact h
theorem tO.mono {G : Gd} {H : Hp} {σ : St} {f : OF} {Q Q' : Option Int → Hp → Prop} (h : tO G W f σ H Q) (i : ∀ v H', Q v H' → Q' v H') : tO G W f σ H Q' := let ⟨ι, M, env, A, E, h⟩ := h; ⟨ι, M, env, A, E, Post.mono h i⟩
theorem _root_.L2.PO.imp {X : Cx} {e : Option Expr} {t t' : TO} (h : PO X e t) (i : ∀ σ H Q, t' σ H Q → t σ H Q) : PO X e t' := ⟨fun pins s σ H Q I q => h.run pins s σ H Q I (i σ H Q q)⟩
abbrev SO (X : Cx) (W : WX) (e : Option Expr) (f : OF) : Prop := PO X e (tO (cgd X) W f)
theorem so_none : SO X W none pNone := po_none.imp fun σ H Q h => by
  obtain ⟨ι, M, env, A, E, h⟩ := h
  exact h ι H _ Step.refl A rfl
theorem so_some {e : Expr} {f : EF} (he : SE X W e f) : SO X W (some e) (pSome f) := (po_some he).imp fun σ H Q h => by
  obtain ⟨ι, M, env, A, E, h⟩ := h
  refine tE.mono (tE.seq A E h) fun x H1 ⟨ι1, M1, d1, s1, A1, E1, r1, _, h1⟩ => ?_
  cases d1 with
  | int i => simp only [Rep] at r1; exact ⟨i, r1, h1 ι1 H1 _ Step.refl A1 rfl⟩
  | _ => exact h1.elim
def oSl (x : D) (lo hi : Option Int) (M : Store) : Option (D × Store) := match x with
  | .tup l => some (.tup (cutD l lo hi), M)
  | .ref n => match lstM M n with
    | some l => some (.ref M.length, M ++ [.lst (cutD l lo hi)])
    | none => none
  | .str z => if z.length ≤ 1000000 then some (.str (cutS z lo hi), M) else none
  | _ => none
def eSl (fe : EF) (fl fh : OF) : EF := fun env M => (fe env M).bind fun x M1 => (fl env M1).bind fun lo M2 => (fh env M2).bind fun hi M3 => ofO (oSl x lo hi M3)
theorem cutD_self {l : List D} {lo hi : Option Int} (h : HT.sIx l.length 0 lo = 0 ∧ HT.sIx l.length l.length hi = l.length) : cutD l lo hi = l := by
  unfold cutD
  rw [h.1, h.2]
  simp
theorem se_sl {e : Expr} {lo hi : Option Expr} {fe : EF} {fl fh : OF} {p2 pos : Pos} (he : SE X W e fe) (hl : SO X W lo fl) (hh : SO X W hi fh) : SE X W (.Subscript e (.Slice lo hi none p2) pos) (eSl fe fl fh) :=
  (pe_slice ((sl_list.or sl_tupA).or sl_str) he hl hh).imp fun σ H Q h => by
    obtain ⟨ι, M, env, A, E, h⟩ := h
    refine tE.mono (tE.seq A E h) fun x H1 ⟨ι1, M1, d1, s1, A1, E1, r1, _, h1⟩ => ?_
    refine tO.mono (tO.seq A1 E1 h1) fun l H2 ⟨ι2, M2, s2, A2, E2, _, h2⟩ => ?_
    refine tO.mono (tO.seq A2 E2 h2) fun u H3 ⟨ι3, M3, s3, A3, E3, _, h3⟩ => ?_
    have r3 := (r1.ext (s2.ext A1.nt)).ext (s3.ext A2.nt)
    have q := Post.ofO h3
    cases d1 with
    | tup l' =>
      simp only [Rep] at r3
      obtain ⟨a, vs, rfl, h1, h2⟩ := r3
      refine .inl (.inr ⟨a, vs, rfl, h1, fun z => ?_, fun _ => PostO.tup A3 (h2.cut _ _) q⟩)
      rw [← h2.length] at z
      have q : PostO (cgd X) ι3 H3 (some (.tup (cutD l' l u), M3)) Q := q
      rw [cutD_self z] at q
      exact q.val A3 (rep_tup h1 h2)
    | ref n =>
      simp only [Rep] at r3
      obtain ⟨a, ea, rfl⟩ := r3
      have q : PostO (cgd X) ι3 H3 (match lstM M3 n with | some l' => some (.ref M3.length, M3 ++ [.lst (cutD l' l u)]) | none => none) Q := q
      cases e : lstM M3 n with
      | none => rw [e] at q; exact q.elim
      | some l' =>
        rw [e] at q
        obtain ⟨vs, h1, h2⟩ := lst_get A3 ea e
        exact .inl (.inl ⟨a, vs, rfl, h1, PostO.lst A3 (h2.cut _ _) q⟩)
    | str z =>
      simp only [Rep] at r3
      have q : PostO (cgd X) ι3 H3 (if z.length ≤ 1000000 then some (.str (cutS z l u), M3) else none) Q := q
      by_cases c : z.length ≤ 1000000
      · rw [if_pos c] at q
        exact .inr ⟨z, r3, lim_le c, q.val A3 (by simp only [Rep])⟩
      · rw [if_neg c] at q; exact q.elim
    | _ => exact q.elim
/-! methods of built-in types -/
abbrev OM := D → List D → Store → Option (D × Store)
def tyD (M : Store) (T : String) : D → Bool
  | .str _ => T == "str"
  | .ref n => match M[n]? with
    | some (.lst _) => T == "list"
    | some (.fz _) => T == "list"
    | some (.dct _) => T == "dict"
    | some (.dlk _) => T == "dict"
    | _ => false
  | _ => false
theorem tyD_is {pins : List (Addr × Obj)} {σ : St} {H : Hp} {s : Shared} {ι : List Addr} {M : Store} {T : String} {d : D} {x : V} {v : Value} (I : Inv X pins σ H s) (A : Abs X.K ι H X.prog X.w M) (rd : Rep X.K ι H d x) (r : RelV x v) (ty : tyD M T d = true) :
    s.TypeIs v T ∧ ∀ a, v = .ref a → ∃ ob, s.heap.get? a = some ob ∧ ob.dict = none := by
  cases d with
  | str z =>
    simp only [Rep] at rd
    subst rd
    have hT : T = "str" := by simpa [tyD] using ty
    exact tyV_is I r (show tyV X.K T (.str z) H from hT)
  | ref n =>
    simp only [Rep] at rd
    obtain ⟨a, ea, rfl⟩ := rd
    unfold tyD at ty
    simp only at ty
    cases e : M[n]? with
    | none => rw [e] at ty; cases ty
    | some o =>
      rw [e] at ty
      cases o with
      | lst l =>
        obtain ⟨vs, h1, _⟩ := sq_lst (A.obj n a _ ea e)
        exact tyV_is I r (.inl ⟨by simpa using ty, vs, h1⟩)
      | fz l =>
        obtain ⟨vs, h1, _⟩ := sq_fz (A.obj n a _ ea e)
        exact tyV_is I r (.inl ⟨by simpa using ty, vs, h1⟩)
      | dct kvs =>
        obtain ⟨o, h1, _, _, hx, _⟩ := A.obj n a _ ea e
        have hT : T = "dict" := by simpa using ty
        subst hT
        rw [show v = Value.ref a from r]
        exact ⟨⟨o, dct_at I h1, hx.1⟩, fun b eb => by cases eb; exact ⟨o, dct_at I h1, hx.2.1⟩⟩
      | dlk kvs =>
        obtain ⟨o, h1, _, _, hx, _⟩ := A.obj n a _ ea e
        have hT : T = "dict" := by simpa using ty
        subst hT
        rw [show v = Value.ref a from r]
        exact ⟨⟨o, (dlk_at I h1).1, hx.1⟩, fun b eb => by cases eb; exact ⟨o, (dlk_at I h1).1, hx.2.1⟩⟩
      | _ => cases ty
  | _ => cases ty
def rOM (G : Gd) (op : OM) : V → List V → Hp → VK → Prop := fun x xs H Q => ∃ ι M d ds, Abs G.K ι H G.P G.w M ∧ Rep G.K ι H d x ∧ Reps G.K ι H ds xs ∧ PostO G ι H (op d ds M) Q
theorem _root_.L2.MtR.imp {X : Cx} {id : String} {r r' : V → List V → Hp → VK → Prop} (h : MtR X id r) (i : ∀ x xs H Q, r' x xs H Q → r x xs H Q) : MtR X id r' := fun pins s σ H x xs v us Q I a b q => h pins s σ H x xs v us Q I a b (i x xs H Q q)
def eMt (T : String) (op : OM) (fo : EF) (fa : AF) : EF := fun env M => (fo env M).bind fun x M1 => if tyD M1 T x = true then (fa env M1).bind fun ds M2 => ofO (op x ds M2) else .bad
theorem se_mt0 {o : Expr} {fo : EF} {T id : String} {name : Str} {apos cpos : Pos} {op : OM} (pa : PlainAttrs T) (slot : Slot T name id) (hty : typeOf (.builtin id) = pure (.type "method_descriptor")) (hm : MtR X id (rOM (cgd X) op)) (ho : SE X W o fo)
    (hbase : attributeBase o name X.env (eval o X.env) = eval o X.env := by rfl) (hline : (apos.endLine == cpos.line) = true := by rfl) : SE X W (.Call (.Attribute o name apos) [] [] cpos) (eMt T op fo aNil) := by
  refine ⟨fun pins s σ H Q I h => ?_⟩
  obtain ⟨ι, M, env, A, E, h⟩ := h
  refine wpAny_Call_method0_late hbase hline (thn (ho.run pins s σ H _ I (tE.seq A E h)) fun v s1 ⟨x, H1, I1, rx, ι1, M1, d1, s1', A1, E1, r1, _, h1⟩ => ?_)
  by_cases ty : tyD M1 T d1 = true
  · rw [if_pos ty] at h1
    obtain ⟨h2, h3⟩ := tyD_is I1 A1 r1 rx ty
    exact ⟨T, id, pa, slot, hty, h2, h3, Calls.callWith_builtin rfl (PySem.evalArgs_none (hm pins s1 σ H1 x [] v [] Q I1 rx .nil ⟨ι1, M1, d1, [], A1, r1, by simp only [Reps], Post.ofO h1⟩))⟩
  · rw [if_neg ty] at h1; exact h1.elim
theorem se_mt {o e : Expr} {es : List Expr} {fo : EF} {fa : AF} {T id : String} {name : Str} {apos cpos : Pos} {op : OM} (pa : PlainAttrs T) (slot : Slot T name id) (hty : typeOf (.builtin id) = pure (.type "method_descriptor")) (hm : MtR X id (rOM (cgd X) op)) (ho : SE X W o fo) (ha : SA X W (e :: es) fa)
    (hbase : attributeBase o name X.env (eval o X.env) = eval o X.env := by rfl)
    (hfew : ((backTo cpos (starEach (e :: es) X.env)).all (fun x => !x.1) && (backToKw cpos (keywordEach [] X.env)).all (fun x => x.1.isSome)
      && decide ((e :: es).length + ([] : List Keyword).length + (if ([] : List Keyword).isEmpty then 0 else 1) < 30)) = true := by rfl)
    (hline : (apos.endLine == cpos.line) = true := by rfl) (hs : starEach (e :: es) X.env = (false, eval e X.env) :: starEach es X.env := by rfl) (hplain : (backTo cpos (starEach es X.env)).any (·.1) = false := by rfl) :
    SE X W (.Call (.Attribute o name apos) (e :: es) [] cpos) (eMt T op fo fa) := by
  refine ⟨fun pins s σ H Q I h => ?_⟩
  obtain ⟨ι, M, env, A, E, h⟩ := h
  refine wpAny_Call_method_late hbase hfew hline rfl (thn (ho.run pins s σ H _ I (tE.seq A E h)) fun v s1 ⟨x, H1, I1, rx, ι1, M1, d1, s1', A1, E1, r1, _, h1⟩ => ?_)
  by_cases ty : tyD M1 T d1 = true
  · rw [if_pos ty] at h1
    obtain ⟨h2, h3⟩ := tyD_is I1 A1 r1 rx ty
    refine ⟨T, id, pa, slot, hty, h2, h3, ?_⟩
    have hA := ha.run cpos pins s1 σ H1 _ I1 (tA.seq A1 E1 h1)
    rw [hs] at hA ⊢
    refine Calls.callWith_builtin (by show (false || (backTo cpos (starEach es X.env)).any (·.1)) = false; rw [hplain] <;> rfl) (Calls.evalArgs_plain ?_)
    exact thn hA fun us s2 ⟨vs, H2, I2, rs, ι2, M2, d2, s2', A2, E2, r2, _, h2⟩ => hm pins s2 σ H2 x vs v us Q I2 rx rs ⟨ι2, M2, d1, d2, A2, r1.ext (s2'.ext A1.nt), r2, Post.ofO h2⟩
  · rw [if_neg ty] at h1; exact h1.elim
/-! lists -/
def oLst (g : List D → List D → Option (D × List D)) : OM := fun x ds M => match x with
  | .ref n => match M[n]? with
    | some (.lst l) => match g l ds with
      | some (d, l') => some (d, M.set n (.lst l'))
      | none => none
    | _ => none
  | _ => none
theorem nf_lst {H : Hp} {a : Addr} {vs : List V} (h : H a = some (.lst vs)) : NF H a := NF.of h fun _ _ z => nomatch z
theorem mt_lst {id : String} {r : V → List V → Hp → VK → Prop} {g : List D → List D → Option (D × List D)} (h : MtM X id r)
    (hg : ∀ ι H l ds vs xs d l' a Q, Reps X.K ι H l vs → Reps X.K ι H ds xs → g l ds = some (d, l') → H a = some (.lst vs) → (∀ v us, Rep X.K ι H d v → Reps X.K ι H l' us → Q v (upd H a (.lst us))) → r (.ref a) xs H Q) : MtR X id (rOM (cgd X) (oLst g)) :=
  MtR.imp (r := r) h fun x xs H Q q => by
    obtain ⟨ι, M, d, ds, A, r1, r2, q⟩ := q
    cases d with
    | ref n =>
      simp only [Rep] at r1
      obtain ⟨a, ea, rfl⟩ := r1
      have q : PostO (cgd X) ι H (match M[n]? with
        | some (.lst l) => (match g l ds with
          | some (d, l') => some (d, M.set n (.lst l'))
          | none => none)
        | _ => none) Q := q
      cases e : M[n]? with
      | none => rw [e] at q; exact q.elim
      | some o =>
        rw [e] at q
        cases o with
        | lst l =>
          simp only at q
          cases e2 : g l ds with
          | none => rw [e2] at q; exact q.elim
          | some p =>
            rw [e2] at q
            obtain ⟨d, l'⟩ := p
            obtain ⟨vs, h1, h2⟩ := A.obj n a _ ea e
            have ha := List.mem_of_getElem? ea
            refine hg ι H l ds vs xs d l' a Q h2 r2 e2 h1 fun v us rv rl => ?_
            have x3 := ext_upd (K := X.K) (u := .lst us) A.nt ha (nf_lst h1)
            exact q ι _ v (step_upd ha (nf_lst h1)) (A.upd (nf_lst h1) ea ⟨us, upd_same, rl.ext x3⟩) (rv.ext x3)
        | _ => exact q.elim
    | _ => exact q.elim
def gApp : List D → List D → Option (D × List D) := fun l ds => match ds with
  | [d] => if l.length < 1000000 then some (.non, l ++ [d]) else none
  | _ => none
theorem reps_one {K : PySem.W.Frag} {ι : List Addr} {H : Hp} {d : D} {xs : List V} (h : Reps K ι H [d] xs) : ∃ v, xs = [v] ∧ Rep K ι H d v := by
  simp only [Reps] at h
  obtain ⟨v, r, rfl, h1, rfl⟩ := h
  exact ⟨v, rfl, h1⟩
theorem Reps.one {K : PySem.W.Frag} {ι : List Addr} {H : Hp} {d : D} {v : V} (h : Rep K ι H d v) : Reps K ι H [d] [v] := by simp only [Reps]; exact ⟨v, [], rfl, h, rfl⟩
theorem mt_app : MtR X "list.append" (rOM (cgd X) (oLst gApp)) := mt_lst mt_append fun ι H l ds vs xs d l' a Q h2 r2 e h1 k => by
  unfold gApp at e
  match ds, e with
  | [d0], e =>
    by_cases c : l.length < 1000000
    · simp only [if_pos c] at e
      cases e
      obtain ⟨v, rfl, rv⟩ := reps_one r2
      exact ⟨a, vs, v, rfl, rfl, h1, by rw [← h2.length]; exact Nat.lt_of_lt_of_le c (by decide), k .non _ (by simp only [Rep]) (h2.append (Reps.one rv))⟩
    · simp only [if_neg c] at e; cases e
def gPop : List D → List D → Option (D × List D) := fun l ds => match ds with
  | [] => (l[l.length - 1]?).map fun d => (d, l.dropLast)
  | [.int i] => if -1000000 ≤ i ∧ i ≤ 1000000 then (match seqIndex? i l.length with
    | some k => (l[k]?).map fun d => (d, l.eraseIdx k)
    | none => none) else none
  | _ => none
theorem Reps.dropLast {K : PySem.W.Frag} {ι : List Addr} {H : Hp} {l : List D} {vs : List V} (h : Reps K ι H l vs) : Reps K ι H l.dropLast vs.dropLast := by
  rw [List.dropLast_eq_take, List.dropLast_eq_take, ← h.length]
  exact h.takeN _
theorem Reps.erase {K : PySem.W.Frag} {ι : List Addr} {H : Hp} : ∀ {l : List D} {vs : List V} (k : Nat), Reps K ι H l vs → Reps K ι H (l.eraseIdx k) (vs.eraseIdx k)
  | [], vs, k, h => by simp only [Reps] at h; subst h; simp [Reps]
  | d :: l, vs, 0, h => by
    simp only [Reps] at h
    obtain ⟨v, r, rfl, h1, h2⟩ := h
    exact h2
  | d :: l, vs, k + 1, h => by
    simp only [Reps] at h
    obtain ⟨v, r, rfl, h1, h2⟩ := h
    simp only [List.eraseIdx_cons_succ, Reps]
    exact ⟨_, _, rfl, h1, Reps.erase k h2⟩
theorem mt_popAll : MtR X "list.pop" (rOM (cgd X) (oLst gPop)) := mt_lst (MtR.or mt_pop mt_popAt) fun ι H l ds vs xs d l' a Q h2 r2 e h1 k => by
  unfold gPop at e
  match ds, e with
  | [], e =>
    simp only [Option.map_eq_some_iff] at e
    obtain ⟨z, e1, e2⟩ := e
    cases e2
    simp only [Reps] at r2
    subst r2
    obtain ⟨v, ev, rv⟩ := h2.get e1
    exact .inl ⟨a, vs, v, rfl, rfl, h1, by rw [← h2.length]; exact ev, k v _ rv h2.dropLast⟩
  | [.int i], e =>
    by_cases c : -1000000 ≤ i ∧ i ≤ 1000000
    · simp only [if_pos c] at e
      cases e3 : seqIndex? i l.length with
      | none => rw [e3] at e; cases e
      | some j =>
        rw [e3] at e
        simp only [Option.map_eq_some_iff] at e
        obtain ⟨z, e1, e2⟩ := e
        cases e2
        obtain ⟨v, rfl, rv⟩ := reps_one r2
        simp only [Rep] at rv
        subst rv
        obtain ⟨v, ev, rv⟩ := h2.get e1
        exact .inr ⟨a, vs, i, j, v, rfl, rfl, h1, by omega, by omega, by rw [← h2.length]; exact e3, ev, k v _ rv (h2.erase j)⟩
    · simp only [if_neg c] at e; cases e
def gClr : List D → List D → Option (D × List D) := fun l ds => match ds with
  | [] => some (.non, [])
  | _ => none
theorem mt_clr : MtR X "list.clear" (rOM (cgd X) (oLst gClr)) := mt_lst mt_clear fun ι H l ds vs xs d l' a Q h2 r2 e h1 k => by
  unfold gClr at e
  match ds, e with
  | [], e =>
    cases e
    simp only [Reps] at r2
    subst r2
    exact ⟨a, vs, rfl, rfl, h1, k .non _ (by simp only [Rep]) (by simp [Reps])⟩
/-! xs[i] = v -/
theorem Reps.set {K : PySem.W.Frag} {ι : List Addr} {H : Hp} {d : D} {v : V} (r : Rep K ι H d v) : ∀ {l : List D} {vs : List V} (k : Nat), Reps K ι H l vs → Reps K ι H (l.set k d) (vs.set k v)
  | [], vs, k, h => by simp only [Reps] at h; subst h; simp [Reps]
  | x :: l, vs, 0, h => by
    simp only [Reps] at h
    obtain ⟨u, rs, rfl, h1, h2⟩ := h
    simp only [List.set_cons_zero, Reps]
    exact ⟨_, _, rfl, r, h2⟩
  | x :: l, vs, k + 1, h => by
    simp only [Reps] at h
    obtain ⟨u, rs, rfl, h1, h2⟩ := h
    simp only [List.set_cons_succ, Reps]
    exact ⟨_, _, rfl, h1, Reps.set r k h2⟩
def oSetL : O3 := fun o i v M => match o, i with
  | .ref n, .int k => match M[n]? with
    | some (.lst l) => match ixN l.length k with
      | some j => some (M.set n (.lst (l.set j v)))
      | none => none
    | _ => none
  | _, _ => none
theorem set_lst : PSet X (rO3 (cgd X) oSetL) := set_list.imp fun x y v H Q q => by
  obtain ⟨ι, M, a, b, c, A, r1, r2, r3, q⟩ := q
  cases a with
  | ref n =>
    cases b with
    | int k =>
      simp only [Rep] at r1 r2
      obtain ⟨p, ea, rfl⟩ := r1
      unfold oSetL at q
      simp only at q
      cases e : M[n]? with
      | none => simp only [e] at q
      | some o =>
        cases o with
        | lst l =>
          simp only [e] at q
          cases e2 : ixN l.length k with
          | none => simp only [e2] at q
          | some j =>
            simp only [e2] at q
            obtain ⟨vs, h1, h2⟩ := A.obj n p _ ea e
            have ha := List.mem_of_getElem? ea
            refine ⟨p, vs, k, j, rfl, r2, h1, by rw [← h2.length]; exact e2, ?_⟩
            have x3 := ext_upd (K := X.K) (u := .lst (vs.set j v)) A.nt ha (nf_lst h1)
            exact q ι _ (step_upd ha (nf_lst h1)) (A.upd (nf_lst h1) ea ⟨_, upd_same, Reps.set (r3.ext x3) j (h2.ext x3)⟩)
        | _ => simp only [e] at q
    | _ => exact q.elim
  | _ => cases b <;> exact q.elim
end
end Sh

namespace Sh
open PySem L2

/-! ### zip and enumerate of lists and tuples in any mix -/
def sq (b : Bool) (K : PySem.W.Frag) (H : Hp) (a : Addr) (xs : List V) : Prop := match b with
  | true => SqL K H a xs
  | false => SqT K H a xs
def IsIt (b : Bool) (h : Heap) (it a : Addr) (i : Nat) : Prop := match b with
  | true => h.IsListIter it a i
  | false => h.IsTupleIter it a i
def IsSrc (b : Bool) (h : Heap) (a : Addr) (its : Array Value) : Prop := match b with
  | true => h.IsList a its
  | false => h.IsTuple a its
def itObj (b : Bool) (a : Addr) : Obj := match b with
  | true => { cls := .type "list_iterator", data := .fields #[.ref a, .int 0 0] }
  | false => { cls := .type "tuple_iterator", data := .fields #[.ref a, .int 0 0] }
theorem IsIt.at {b : Bool} {h h' : Heap} {it a : Addr} {i : Nat} (x : IsIt b h it a i) (k : ∀ o, h.get? it = some o → h'.get? it = some o) : IsIt b h' it a i := by
  cases b with
  | true => exact Heap.IsListIter.at x k
  | false => exact Heap.IsTupleIter.at x k
theorem IsIt.obj {b : Bool} {h : Heap} {it a : Addr} {i : Nat} (x : IsIt b h it a i) : ∃ o, h.get? it = some o ∧ ∀ v, o.data ≠ .cell v := by
  cases b with
  | true => obtain ⟨o, e, _, d⟩ := x; exact ⟨o, e, fun v q => by rw [d] at q; cases q⟩
  | false => obtain ⟨o, e, _, d⟩ := x; exact ⟨o, e, fun v q => by rw [d] at q; cases q⟩
theorem IsIt.zero {b : Bool} {h : Heap} {it a : Addr} (e : h.get? it = some (itObj b a)) : IsIt b h it a 0 := by
  cases b with
  | true => exact ⟨_, e, rfl, rfl⟩
  | false => exact ⟨_, e, rfl, rfl⟩
theorem begins_src (b : Bool) (a : Addr) (its : Array Value) : Begins (.ref a) (itObj b a) (fun h => IsSrc b h a its) := by
  cases b with
  | true => exact begins_list a its
  | false => exact begins_tuple a its
theorem draws_src {prog : Program} {w : World} {A : Around} (b : Bool) (hh : A.handled = none) (it a : Addr) (hne : a ≠ it) (its : Array Value) :
    Draws prog w A it [it, a] its.size (fun i v => its[i]? = some v) (fun i h => IsIt b h it a i ∧ IsSrc b h a its) := by
  cases b with
  | true => exact Draws.list hh it a hne its
  | false => exact Draws.tuple hh it a hne its
section
variable {X : Cx} {pins : List (Addr × Obj)} {σ : St} {H : Hp} {s : Shared}
theorem src_of {b : Bool} {a : Addr} {xs : List V} (I : Inv X pins σ H s) (h : sq b X.K H a xs) : ∃ its : List Value, Vals xs its ∧ IsSrc b s.heap a its.toArray ∧ a < s.heap.objs.size := by
  cases b with
  | true =>
    obtain ⟨its, rv, p, _⟩ := I.list h
    exact ⟨its, rv, p.isList, p.lt⟩
  | false =>
    obtain ⟨its, rv, p, _⟩ := I.tuple h
    obtain ⟨o, ho, _⟩ := id p
    exact ⟨its, rv, p, Heap.lt_size ho⟩
theorem sq_inj {b : Bool} {a : Addr} {xs ys : List V} (I : Inv X pins σ H s) (h : sq b X.K H a xs) (g : sq b X.K H a ys) : xs = ys := by
  cases b with
  | true => exact I.list_inj h g
  | false => exact I.tuple_inj h g
end
/-- pairs, each a new tuple: of the lists at a and b as they stand -/
def ItZ (b1 b2 : Bool) (K : PySem.W.Frag) (a b : Addr) : It :=
  ⟨fun i H => ∃ (xs ys : List V) (x y : V), sq b1 K H a xs ∧ sq b2 K H b ys ∧ xs[i]? = some x ∧ ys[i]? = some y,
    fun i H v H' => ∃ T x y, v = .ref T ∧ H T = none ∧ H' = upd H T (.tup [x, y]) ∧ (∀ xs, sq b1 K H a xs → xs[i]? = some x) ∧ ∀ ys, sq b2 K H b ys → ys[i]? = some y,
    fun i H => ∃ xs ys : List V, sq b1 K H a xs ∧ sq b2 K H b ys ∧ i = min xs.length ys.length⟩
/-- i, the item: a new tuple -/
def ItE (b1 : Bool) (K : PySem.W.Frag) (a : Addr) : It :=
  ⟨fun i H => ∃ (xs : List V) (x : V), sq b1 K H a xs ∧ xs[i]? = some x,
    fun i H v H' => ∃ T x, v = .ref T ∧ H T = none ∧ H' = upd H T (.tup [.int (i : Nat), x]) ∧ (∀ xs, sq b1 K H a xs → xs[i]? = some x),
    fun i H => ∃ xs : List V, sq b1 K H a xs ∧ i = xs.length⟩
theorem lt_ne {n m : Nat} (h : n < m) : n ≠ m := Nat.ne_of_lt h
theorem turn_Z {P : Program} {w : World} {K : PySem.W.Frag} {elts : List Expr} {kk : Nat} {tpos : Pos} {b1 b2 : Bool} {a b : Addr} {N : Nat} (ha : a < N) (hb : b < N) :
    Turn P w K (.Tuple elts kk tpos) (ItZ b1 b2 K a b) [N + 4, N + 2, N + 3, N, N + 1] (N + 4)
      (fun i h => IsZip h (N + 4) (N + 2) (N + 3) .none ∧ IsTupOf2 h (N + 2) (.ref N) (.ref (N + 1)) ∧ (∃ x y, IsTupOf2 h (N + 3) x y) ∧ IsIt b1 h N a i ∧ IsIt b2 h (N + 1) b i) where
  mem := by simp
  obj := fun i h st c hc => by
    obtain ⟨hz, hTI, ⟨x, y, hTO⟩, h1, h2⟩ := st
    have e' : c = N + 4 ∨ c = N + 2 ∨ c = N + 3 ∨ c = N ∨ c = N + 1 := by simpa using hc
    rcases e' with q | q | q | q | q
    · rw [q]; exact ⟨_, hz, fun v q => nomatch q⟩
    · rw [q]; exact ⟨_, hTI, fun v q => nomatch q⟩
    · rw [q]; exact ⟨_, hTO, fun v q => nomatch q⟩
    · rw [q]; exact h1.obj
    · rw [q]; exact h2.obj
  keep := fun i h h' st k => by
    obtain ⟨hz, hTI, ⟨x, y, hTO⟩, h1, h2⟩ := st
    exact ⟨k (N + 4) (by simp) _ hz, k (N + 2) (by simp) _ hTI, ⟨x, y, k (N + 3) (by simp) _ hTO⟩, h1.at fun o q => k N (by simp) o q, h2.at fun o q => k (N + 1) (by simp) o q⟩
  item := by
    intro X hP hw hK hc i pins s σ H E I hf st hg
    subst hP hw hK
    obtain ⟨hz, hTI, hTO, h1, h2⟩ := st
    obtain ⟨xs, ys, x, y, hqx, hqy, hx, hy⟩ := hg
    obtain ⟨its, rv, p, _⟩ := src_of I hqx
    obtain ⟨its2, rv2, p2, _⟩ := src_of I hqy
    have hh : X.A.in1.handled = none := I.ok.hd hc
    have D1 := draws_src (prog := X.prog) (w := X.w) (A := X.A.in1) b1 hh N a (lt_ne ha) its.toArray
    have D2 := draws_src (prog := X.prog) (w := X.w) (A := X.A.in1) b2 hh (N + 1) b (Nat.ne_of_lt (Nat.lt_succ_of_lt hb)) its2.toArray
    have G := GoesN.zip2 (elts := elts) (x1 := kk) (pos := tpos) (zip_sep2 (N := N) (fp1 := [a]) (fp2 := [b]) (by simpa using ha) (by simpa using hb)) D1 D2
    have l1 : i < its.length := by rw [← rv.length]; exact (List.getElem?_eq_some_iff.mp hx).1
    have l2 : i < its2.length := by rw [← rv2.length]; exact (List.getElem?_eq_some_iff.mp hy).1
    refine thn (G.goes i s (fun u s2 => ∃ x H', Inv X pins σ H' s2 ∧ RelV x u ∧ (ItZ b1 b2 X.K a b).yld i H x H' ∧ (IsZip s2.heap (N + 4) (N + 2) (N + 3) .none ∧ IsTupOf2 s2.heap (N + 2) (.ref N) (.ref (N + 1)) ∧ (∃ x y, IsTupOf2 s2.heap (N + 3) x y) ∧ IsIt b1 s2.heap N a (i + 1) ∧ IsIt b2 s2.heap (N + 1) b (i + 1)) ∧ ∀ b ∈ [N + 4, N + 2, N + 3, N, N + 1], H' b = none) E (by simp only [List.size_toArray]; exact Nat.lt_min.mpr ⟨l1, l2⟩) ⟨hz, hTI, hTO, ⟨h1, p⟩, h2, p2⟩ ?_) fun r s1 q => q
    intro v h' tk hY st' hk _
    obtain ⟨T, u1, u2, rfl, hT, q1, q2, hTup⟩ := hY
    obtain ⟨w1, e1, r1⟩ := rv.get hx
    obtain ⟨w2, e2, r2⟩ := rv2.get hy
    have z1 : u1 = w1 := by
      have : its.toArray[i]? = some w1 := by simpa using e1
      rw [this] at q1; exact (Option.some.inj q1).symm
    have z2 : u2 = w2 := by
      have : its2.toArray[i]? = some w2 := by simpa using e2
      rw [this] at q2; exact (Option.some.inj q2).symm
    subst z1 z2
    have new : ObjOk X.prog X.w (upd H T (.tup [x, y])) h' T (.tup [x, y]) := ⟨by show 2 ≤ sizeLine; decide, [u1, u2], .cons r1 (.cons r2 .nil), hTup⟩
    have I1 : Inv X pins σ (upd H T (.tup [x, y])) { s with heap := h', toks := tk } :=
      I.turnedNew (ch := [N + 4, N + 2, N + 3, N, N + 1]) (fun c o hb q => hk c o (fun m => hb (by
        have e' : c = N + 4 ∨ c = N + 3 ∨ c = N ∨ c = N + 1 := by simpa using m
        rcases e' with z | z | z | z <;> (rw [z]; simp))) q) hf hT new
    refine ⟨.ref T, _, I1, rfl, ⟨T, x, y, rfl, I.hok.fresh hT, rfl, fun l hl => by rw [sq_inj I hl hqx]; exact hx, fun l hl => by rw [sq_inj I hl hqy]; exact hy⟩, ⟨st'.1, st'.2.1, st'.2.2.1, st'.2.2.2.1.1, st'.2.2.2.2.1⟩, fun c hcm => ?_⟩
    have hlt : c < s.heap.objs.size := by
      obtain ⟨x0, y0, hTO⟩ := hTO
      have e' : c = N + 4 ∨ c = N + 2 ∨ c = N + 3 ∨ c = N ∨ c = N + 1 := by simpa using hcm
      rcases e' with q | q | q | q | q
      · rw [q]; exact Heap.lt_size hz
      · rw [q]; exact Heap.lt_size hTI
      · rw [q]; exact Heap.lt_size hTO
      · rw [q]; obtain ⟨_, e1, _⟩ := h1.obj; exact Heap.lt_size e1
      · rw [q]; obtain ⟨_, e2, _⟩ := h2.obj; exact Heap.lt_size e2
    rw [upd_ne (Nat.ne_of_lt (Nat.lt_of_lt_of_le hlt hT))]
    exact (hf c hcm).1
  done := by
    intro X hP hw hK hc i pins s σ H E I hf st hg
    subst hP hw hK
    obtain ⟨hz, hTI, hTO, h1, h2⟩ := st
    obtain ⟨xs, ys, hqx, hqy, hend⟩ := hg
    obtain ⟨its, rv, p, _⟩ := src_of I hqx
    obtain ⟨its2, rv2, p2, _⟩ := src_of I hqy
    have hh : X.A.in1.handled = none := I.ok.hd hc
    have D1 := draws_src (prog := X.prog) (w := X.w) (A := X.A.in1) b1 hh N a (lt_ne ha) its.toArray
    have D2 := draws_src (prog := X.prog) (w := X.w) (A := X.A.in1) b2 hh (N + 1) b (Nat.ne_of_lt (Nat.lt_succ_of_lt hb)) its2.toArray
    have G := GoesN.zip2 (elts := elts) (x1 := kk) (pos := tpos) (zip_sep2 (N := N) (fp1 := [a]) (fp2 := [b]) (by simpa using ha) (by simpa using hb)) D1 D2
    have ei : i = min its.toArray.size its2.toArray.size := by simp only [List.size_toArray]; rw [← rv.length, ← rv2.length]; exact hend
    subst ei
    refine G.stops s (fun s1 => Inv X pins σ H s1) E ⟨hz, hTI, hTO, ⟨h1, p⟩, h2, p2⟩ fun h' tk hk _ => ?_
    exact I.turnedL (ch := [N + 4, N + 2, N + 3, N, N + 1]) (fun c o hb q => hk c o (fun m => hb (by
      have e' : c = N + 4 ∨ c = N + 3 ∨ c = N ∨ c = N + 1 := by simpa using m
      rcases e' with z | z | z | z <;> (rw [z]; simp))) q) hf
  self := fun A i s Q E st h => wpAny_pyIter_zip st.1 h
theorem turn_E {P : Program} {w : World} {K : PySem.W.Frag} {elts : List Expr} {kk : Nat} {tpos : Pos} {b1 : Bool} {a : Addr} {N : Nat} (ha : a < N) :
    Turn P w K (.Tuple elts kk tpos) (ItE b1 K a) [N + 1, N] (N + 1) (fun i h => (∃ old, IsEnum h (N + 1) N ((i : Nat) : Int) old) ∧ IsIt b1 h N a i) where
  mem := by simp
  obj := fun i h st c hc => by
    obtain ⟨⟨old, hz⟩, h1⟩ := st
    have e' : c = N + 1 ∨ c = N := by simpa using hc
    rcases e' with q | q
    · rw [q]; exact ⟨_, hz, fun v q => nomatch q⟩
    · rw [q]; exact h1.obj
  keep := fun i h h' st k => by
    obtain ⟨⟨old, hz⟩, h1⟩ := st
    exact ⟨⟨old, k (N + 1) (by simp) _ hz⟩, h1.at fun o q => k N (by simp) o q⟩
  item := by
    intro X hP hw hK hc i pins s σ H E I hf st hg
    subst hP hw hK
    obtain ⟨hz, h1⟩ := st
    obtain ⟨xs, x, hqx, hx⟩ := hg
    obtain ⟨its, rv, p, _⟩ := src_of I hqx
    have hh : X.A.in1.handled = none := I.ok.hd hc
    have D1 := draws_src (prog := X.prog) (w := X.w) (A := X.A.in1) b1 hh N a (lt_ne ha) its.toArray
    have G := GoesN.enumFrom (elts := elts) (x1 := kk) (pos := tpos) 0 D1 (N + 1) (Nat.succ_ne_self N) (by
      intro m
      have e' : N + 1 = N ∨ N + 1 = a := by simpa using m
      rcases e' with z | z
      · exact Nat.succ_ne_self N z
      · rw [← z] at ha; exact absurd ha (Nat.not_lt.mpr (Nat.le_succ N))) (by simp)
    have l1 : i < its.length := by rw [← rv.length]; exact (List.getElem?_eq_some_iff.mp hx).1
    refine thn (G.goes i s (fun u s2 => ∃ x H', Inv X pins σ H' s2 ∧ RelV x u ∧ (ItE b1 X.K a).yld i H x H' ∧ ((∃ old, IsEnum s2.heap (N + 1) N (((i + 1 : Nat) : Nat) : Int) old) ∧ IsIt b1 s2.heap N a (i + 1)) ∧ ∀ b ∈ [N + 1, N], H' b = none) E (by simp only [List.size_toArray]; exact l1) ⟨by rw [Int.zero_add]; exact hz, h1, p⟩ ?_) fun r s1 q => q
    intro v h' tk hY st' hk _
    obtain ⟨T, t, u1, rfl, hT, q1, hTup⟩ := hY
    obtain ⟨w1, e1, r1⟩ := rv.get hx
    have z1 : u1 = w1 := by
      have : its.toArray[i]? = some w1 := by simpa using e1
      rw [this] at q1; exact (Option.some.inj q1).symm
    subst z1
    have new : ObjOk X.prog X.w (upd H T (.tup [.int (i : Nat), x])) h' T (.tup [.int (i : Nat), x]) := ⟨by show 2 ≤ sizeLine; decide, [.int (0 + (i : Int)) t, u1], .cons ⟨t, by rw [Int.zero_add]⟩ (.cons r1 .nil), hTup⟩
    have I1 : Inv X pins σ (upd H T (.tup [.int (i : Nat), x])) { s with heap := h', toks := tk } :=
      I.turnedNew (ch := [N + 1, N]) (fun c o hb q => hk c o hb q) hf hT new
    refine ⟨.ref T, _, I1, rfl, ⟨T, x, rfl, I.hok.fresh hT, rfl, fun l hl => by rw [sq_inj I hl hqx]; exact hx⟩, ⟨by have := st'.1; rw [Int.zero_add] at this; exact this, st'.2.1⟩, fun c hcm => ?_⟩
    have hlt : c < s.heap.objs.size := by
      obtain ⟨old, hz⟩ := hz
      have e' : c = N + 1 ∨ c = N := by simpa using hcm
      rcases e' with q | q
      · rw [q]; exact Heap.lt_size hz
      · rw [q]; obtain ⟨_, e1, _⟩ := h1.obj; exact Heap.lt_size e1
    rw [upd_ne (Nat.ne_of_lt (Nat.lt_of_lt_of_le hlt hT))]
    exact (hf c hcm).1
  done := by
    intro X hP hw hK hc i pins s σ H E I hf st hg
    subst hP hw hK
    obtain ⟨hz, h1⟩ := st
    obtain ⟨xs, hqx, hend⟩ := hg
    obtain ⟨its, rv, p, _⟩ := src_of I hqx
    have hh : X.A.in1.handled = none := I.ok.hd hc
    have D1 := draws_src (prog := X.prog) (w := X.w) (A := X.A.in1) b1 hh N a (lt_ne ha) its.toArray
    have G := GoesN.enumFrom (elts := elts) (x1 := kk) (pos := tpos) 0 D1 (N + 1) (Nat.succ_ne_self N) (by
      intro m
      have e' : N + 1 = N ∨ N + 1 = a := by simpa using m
      rcases e' with z | z
      · exact Nat.succ_ne_self N z
      · rw [← z] at ha; exact absurd ha (Nat.not_lt.mpr (Nat.le_succ N))) (by simp)
    have ei : i = its.toArray.size := by simp only [List.size_toArray]; rw [← rv.length]; exact hend
    subst ei
    refine G.stops s (fun s1 => Inv X pins σ H s1) E ⟨by rw [Int.zero_add]; exact hz, h1, p⟩ fun h' tk hk _ => ?_
    exact I.turnedL (ch := [N + 1, N]) (fun c o hb q => hk c o hb q) hf
  self := fun A i s Q E st h => wpAny_pyIter_enum st.1.choose_spec h
/-- enumerate(v) with its two new cells, v a list or a tuple -/
theorem enum_new1 {v : Value} {o : Obj} {H : Heap → Prop} (B : Begins v o H) :
    Meets (Builtin.«enumerate.__new__» ⟨[.type "enumerate", v], []⟩) (fun _ R s => H s.heap ∧
      R (.ok (.ret (.ref (s.heap.push o).objs.size))) { s with heap := (s.heap.push o).push { cls := .type "enumerate", data := .fields #[.none, .bool false, .ref s.heap.objs.size, rawInt 0, .none, .none] } }) :=
  .of_wp fun prog w A R s h => by
    obtain ⟨hp, g, d, tk, os⟩ := s; obtain ⟨h1, h⟩ := h
    have hsub := sub_enumerate
    have q1 : ∀ {A' : Around} {E : Value → Shared → Prop} {Q : Value → Shared → Prop}, Q (.ref hp.objs.size) ⟨hp.push o, g, d, tk, os⟩ → wpAny (model prog w) A' (pyIter v) Q E ⟨hp, g, d, tk, os⟩ :=
      fun q => B.iter prog w _ _ ⟨hp, g, d, tk, os⟩ _ h1 q
    wp_walk using q1
    refine wpAny_stack_any fun st => wpAny_pure ?_
    split
    · rename_i c _ _ _ _ _
      cases (c == Value.type "enumerate")
      · wp_walk using q1
        exact ⟨_, rfl, h⟩
      · wp_walk using q1
        exact ⟨_, rfl, h⟩
    · wp_walk using q1
      exact ⟨_, rfl, h⟩
theorem enum_begins1 {prog : Program} {w : World} {A : Around} {E : Value → Shared → Prop} {s : Shared} {v : Value} {o : Obj} {H : Heap → Prop} {Q : Value → Shared → Prop} (B : Begins v o H) (h1 : H s.heap)
    (h : ∀ h', IsEnum h' (s.heap.objs.size + 1) s.heap.objs.size 0 .none → h'.get? s.heap.objs.size = some o → h'.objs.size = s.heap.objs.size + 2 →
      (∀ b o, s.heap.get? b = some o → h'.get? b = some o) → Q (.ref (s.heap.objs.size + 1)) { s with heap := h' }) :
    wpAny (model prog w) A (call (.type "enumerate") [v]) Q E s := by
  refine callType_new F.called_enumerate (by decide) (F.typeCall_enumerate_1 _) (F.newCall_enumerate_1 _) (fun obj => F.args_object_init_2 obj _) F.entry_enumerate_new (enum_new1 B) ⟨h1, ?_⟩
  have hz : (s.heap.push o).objs.size = s.heap.objs.size + 1 := Heap.size_push ..
  show _ ∧ _
  rw [hz]
  have he : IsEnum ((s.heap.push o).push { cls := .type "enumerate", data := .fields #[.none, .bool false, .ref s.heap.objs.size, rawInt 0, .none, .none] }) (s.heap.objs.size + 1) s.heap.objs.size 0 .none := by
    have := Heap.get?_push_size (s.heap.push o) (o := { cls := .type "enumerate", data := .fields #[.none, .bool false, .ref s.heap.objs.size, rawInt 0, .none, .none] }) rfl
    rw [hz] at this; exact this
  refine ⟨⟨_, he, rfl⟩, h _ he (Heap.get?_push_of_some _ (Heap.get?_push_size _ B.free)) (by rw [Heap.size_push, hz]) fun b o x => Heap.get?_push_of_some _ (Heap.get?_push_of_some _ x)⟩
end Sh

namespace Sh
open PySem L2

theorem sq_ext {b : Bool} {K : PySem.W.Frag} {H : Hp} {a : Addr} {vs : List V} (h : SqL K H a vs ∨ SqT K H a vs) : ∃ b, sq b K H a vs := by
  rcases h with h | h
  · exact ⟨true, h⟩
  · exact ⟨false, h⟩
/-- a source of items: how it stands at any later time -/
structure Stand (G : Gd) (ι0 : List Addr) (H0 : Hp) (b : Bool) (a : Addr) (l : List D) (g : Store → Bool) : Prop where
  at_ : ∀ (ι : List Addr) (H : Hp) (M : Store), Ext G.K ι0 H0 ι H → Abs G.K ι H G.P G.w M → g M = true → ∃ vs, sq b G.K H a vs ∧ Reps G.K ι H l vs
/-- the guard of a source -/
def gd (M : Store) : D → Store → Bool
  | .ref n => fun M' => decide (M'[n]? = M[n]?)
  | _ => fun _ => true
theorem stand_of {G : Gd} {ι : List Addr} {H : Hp} {M : Store} {d : D} {v : V} {l : List D} (A : Abs G.K ι H G.P G.w M) (r : Rep G.K ι H d v) (e : seqM M d = some l) : ∃ a b, v = .ref a ∧ Stand G ι H b a l (gd M d) := by
  cases d with
  | tup l' =>
    cases e
    simp only [Rep] at r
    obtain ⟨a, vs, rfl, h1, h2⟩ := r
    exact ⟨a, false, rfl, ⟨fun ι' H' M' x _ _ => ⟨vs, x.tup a vs h1, h2.ext x⟩⟩⟩
  | ref n =>
    simp only [Rep] at r
    obtain ⟨a, ea, rfl⟩ := r
    refine ⟨a, true, rfl, ⟨fun ι' H' M' x A' gg => ?_⟩⟩
    have eM : M'[n]? = M[n]? := of_decide_eq_true gg
    exact lst_get A' (x.ix n a ea) (show lstM M' n = some l by unfold lstM; rw [eM]; exact e)
  | _ => cases e
section
variable {X : Cx} {W : WX}
theorem now_of {G : Gd} {ι : List Addr} {H : Hp} {M : Store} {d : D} {b : Bool} {a : Addr} {l : List D} (A : Abs G.K ι H G.P G.w M) (st : Stand G ι H b a l (gd M d)) : ∃ vs, sq b G.K H a vs ∧ Reps G.K ι H l vs := by
  refine st.at_ ι H M Ext.refl A ?_
  cases d <;> simp [gd]
/-! zip -/
def zipD : List D → List D → List D
  | x :: l, y :: r => .tup [x, y] :: zipD l r
  | _, _ => []
theorem zipD_get : ∀ (l r : List D) (i : Nat), (zipD l r)[i]? = match l[i]?, r[i]? with | some x, some y => some (.tup [x, y]) | _, _ => none
  | [], r, i => by simp [zipD]
  | x :: l, [], i => by cases h : (x :: l)[i]? <;> simp [zipD]
  | x :: l, y :: r, 0 => by simp [zipD]
  | x :: l, y :: r, i + 1 => by simp only [zipD, List.getElem?_cons_succ]; exact zipD_get l r i
theorem zipD_length : ∀ (l r : List D), (zipD l r).length = min l.length r.length
  | [], r => by simp [zipD]
  | x :: l, [] => by simp [zipD]
  | x :: l, y :: r => by simp [zipD, zipD_length l r]
def iZip (f g : EF) : IF := fun env M => (f env M).bind fun x M1 => (g env M1).bind fun y M2 => match seqM M2 x, seqM M2 y with
  | some l, some r => .ok ⟨zipD l r, fun M => gd M2 x M && gd M2 y M⟩ M2
  | _, _ => .bad
theorem pi_zipX {e e2 : Expr} {ta : TA} {p pos tpos : Pos} {elts : List Expr} {kk : Nat} (hg : Gl X "zip") (hm : X.mg "zip" = none) (ha : PA X [e, e2] ta)
    (hs : starEach [e, e2] X.env = (false, eval e X.env) :: starEach [e2] X.env := by rfl) (hpl : (backTo pos (starEach [e2] X.env)).any (·.1) = false := by rfl) :
    PI X (.Tuple elts kk tpos) (.Call (.Name "zip" p) [e, e2] [] pos) (fun σ H R => ta σ H fun vs H1 => ∃ a b b1 b2 xs ys, vs = [.ref a, .ref b] ∧ sq b1 X.K H1 a xs ∧ sq b2 X.K H1 b ys ∧ R (ItZ b1 b2 X.K a b) H1) := by
  refine ⟨fun pins s σ H R I h => ?_⟩
  refine PyProof.Rows.Call_ (ld_blt I hg hm PyProof.Rows.boot_zip (PyProof.Rows.callWith_type1 (thn (ha.run pos pins s σ H _ I h) fun us s1 ⟨vs, H1, I1, r1, q1⟩ => ?_) hs hpl))
  obtain ⟨a, b, b1, b2, xs, ys, ex, hqx, hqy, q⟩ := q1
  subst ex
  cases r1 with
  | cons r rr =>
    cases rr with
    | cons r' rr =>
      cases rr
      cases r
      cases r'
      have fresh5 : ∀ c, c ∈ [s1.heap.objs.size + 4, s1.heap.objs.size + 2, s1.heap.objs.size + 3, s1.heap.objs.size, s1.heap.objs.size + 1] → FpOk X pins H1 c := fun c hcm => by
        have e' : c = s1.heap.objs.size + 4 ∨ c = s1.heap.objs.size + 2 ∨ c = s1.heap.objs.size + 3 ∨ c = s1.heap.objs.size ∨ c = s1.heap.objs.size + 1 := by simpa using hcm
        have hle : s1.heap.objs.size ≤ c := by
          rcases e' with z | z | z | z | z
          · rw [z]; exact Nat.le_add_right _ _
          · rw [z]; exact Nat.le_add_right _ _
          · rw [z]; exact Nat.le_add_right _ _
          · rw [z]; exact Nat.le_refl _
          · rw [z]; exact Nat.le_add_right _ _
        exact I1.fpOk hle (I1.hok.fresh hle)
      obtain ⟨its, rv, p1, lt1⟩ := src_of I1 hqx
      obtain ⟨its2, rv2, p2, lt2⟩ := src_of I1 hqy
      refine zip_begins2 (begins_src b1 a its.toArray) (begins_src b2 b its2.toArray) p1 p2 fun h' hz hTI hTO h1 h2 hsz hk => wpAny_pyIter_zip hz ?_
      have I2 : Inv X pins σ H1 { s1 with heap := h' } := I1.kept (t' := s1.toks) hk
      exact ⟨s1.heap.objs.size + 4, [s1.heap.objs.size + 4, s1.heap.objs.size + 2, s1.heap.objs.size + 3, s1.heap.objs.size, s1.heap.objs.size + 1], _, _, H1, rfl, I2, turn_Z lt1 lt2, ⟨hz, hTI, ⟨_, _, hTO⟩, IsIt.zero h1, IsIt.zero h2⟩, fresh5, q⟩
theorem rep_pair {K : PySem.W.Frag} {ι : List Addr} {H : Hp} {T : Addr} {x y : V} {d e : D} (hT : H T = none) (r1 : Rep K ι H d x) (r2 : Rep K ι H e y) : Rep K ι (upd H T (.tup [x, y])) (.tup [d, e]) (.ref T) := by
  have x3 : Ext K ι H ι (upd H T (.tup [x, y])) := by have := ext_new (K := K) (ι := ι) (u := .tup [x, y]) hT []; simpa using this
  refine rep_tup (SqT.of upd_same) ?_
  simp only [Reps]
  exact ⟨x, [y], rfl, r1.ext x3, y, [], rfl, r2.ext x3, rfl⟩
theorem sim_zip {G : Gd} {ι0 : List Addr} {H0 : Hp} {b1 b2 : Bool} {a b : Addr} {l r : List D} {g1 g2 : Store → Bool} (s1 : Stand G ι0 H0 b1 a l g1) (s2 : Stand G ι0 H0 b2 b r g2) : SimI G ι0 H0 (ItZ b1 b2 G.K a b) ⟨zipD l r, fun M => g1 M && g2 M⟩ := fun i ι H M x A gg => by
  simp only [Bool.and_eq_true] at gg
  obtain ⟨vs, h1, r1⟩ := s1.at_ ι H M x A gg.1
  obtain ⟨us, h2, r2⟩ := s2.at_ ι H M x A gg.2
  refine ⟨fun d e => ?_, fun e => ⟨vs, us, h1, h2, by rw [← r1.length, ← r2.length, e, zipD_length]⟩⟩
  rw [zipD_get] at e
  cases e1 : l[i]? with
  | none => rw [e1] at e; cases e
  | some x' =>
    cases e2 : r[i]? with
    | none => rw [e1, e2] at e; cases e
    | some y' =>
      rw [e1, e2] at e
      cases e
      obtain ⟨v, ev, rv⟩ := r1.get e1
      obtain ⟨u, eu, ru⟩ := r2.get e2
      refine ⟨⟨vs, us, v, u, h1, h2, ev, eu⟩, fun z H' q => ?_⟩
      obtain ⟨T, x0, y0, rfl, hT, rfl, q1, q2⟩ := q
      have z1 := q1 vs h1
      have z2 := q2 us h2
      rw [ev] at z1; rw [eu] at z2
      cases z1; cases z2
      exact ⟨step_tmp hT, A.tmp hT, rep_pair hT rv ru⟩
theorem si_zip {e e2 : Expr} {f g : EF} {p pos tpos : Pos} {elts : List Expr} {kk : Nat} (hg : Gl X "zip") (hm : X.mg "zip" = none) (h1 : SE X W e f) (h2 : SE X W e2 g)
    (hs : starEach [e, e2] X.env = (false, eval e X.env) :: starEach [e2] X.env := by rfl) (hs2 : starEach [e2] X.env = (false, eval e2 X.env) :: starEach [] X.env := by rfl) (hpl : (backTo pos (starEach [e2] X.env)).any (·.1) = false := by rfl) :
    SI X W (.Tuple elts kk tpos) (.Call (.Name "zip" p) [e, e2] [] pos) (iZip f g) :=
  (pi_zipX hg hm (pa_cons h1 (pa_cons h2 pa_nil hs2) hs) hs hpl).imp fun σ H R h => by
    obtain ⟨ι, M, env, A, E, h⟩ := h
    refine tE.mono (tE.seq A E h) fun x H1 ⟨ι1, M1, d1, s1, A1, E1, r1, _, h1⟩ => ?_
    refine tE.mono (tE.seq A1 E1 h1) fun y H2 ⟨ι2, M2, d2, s2, A2, E2, r2, _, h2⟩ => ?_
    cases e1 : seqM M2 d1 with
    | none => simp only [e1] at h2; exact h2.elim
    | some l =>
      cases e2 : seqM M2 d2 with
      | none => simp only [e1, e2] at h2; exact h2.elim
      | some r =>
        simp only [e1, e2] at h2
        obtain ⟨a, b1, rfl, st1⟩ := stand_of A2 (r1.ext (s2.ext A1.nt)) e1
        obtain ⟨b, b2, rfl, st2⟩ := stand_of A2 r2 e2
        obtain ⟨vs, q1, _⟩ := now_of A2 st1
        obtain ⟨us, q2, _⟩ := now_of A2 st2
        exact ⟨a, b, b1, b2, vs, us, rfl, q1, q2, h2 ι2 H2 _ Step.refl A2 (sim_zip st1 st2)⟩
/-! enumerate -/
def enumD : Nat → List D → List D
  | _, [] => []
  | n, x :: l => .tup [.int (n : Int), x] :: enumD (n + 1) l
theorem enumD_get : ∀ (l : List D) (n i : Nat), (enumD n l)[i]? = (l[i]?).map fun x => .tup [.int ((n + i : Nat) : Int), x]
  | [], n, i => by simp [enumD]
  | x :: l, n, 0 => by simp [enumD]
  | x :: l, n, i + 1 => by
    simp only [enumD, List.getElem?_cons_succ, enumD_get l (n + 1) i]
    rw [show n + 1 + i = n + (i + 1) by omega]
theorem enumD_length : ∀ (l : List D) (n : Nat), (enumD n l).length = l.length
  | [], n => rfl
  | x :: l, n => by simp [enumD, enumD_length l (n + 1)]
def iEnum (f : EF) : IF := fun env M => (f env M).bind fun x M1 => match seqM M1 x with
  | some l => .ok ⟨enumD 0 l, gd M1 x⟩ M1
  | none => .bad
theorem pi_enumX {e : Expr} {ta : TA} {p pos tpos : Pos} {elts : List Expr} {kk : Nat} (hg : Gl X "enumerate") (hm : X.mg "enumerate" = none) (ha : PA X [e] ta) (hs : starEach [e] X.env = [(false, eval e X.env)] := by rfl) :
    PI X (.Tuple elts kk tpos) (.Call (.Name "enumerate" p) [e] [] pos) (fun σ H R => ta σ H fun vs H1 => ∃ a b1 xs, vs = [.ref a] ∧ sq b1 X.K H1 a xs ∧ R (ItE b1 X.K a) H1) := by
  refine ⟨fun pins s σ H R I h => ?_⟩
  refine PyProof.Rows.Call_ (ld_blt I hg hm PyProof.Rows.boot_enumerate (PyProof.Rows.callWith_type1 (thn (ha.run pos pins s σ H _ I h) fun us s1 ⟨vs, H1, I1, r1, q1⟩ => ?_) hs rfl))
  obtain ⟨a, b1, xs, ex, hq, q⟩ := q1
  subst ex
  cases r1 with
  | cons r rr =>
    cases rr
    cases r
    obtain ⟨its, rv, p1, lt1⟩ := src_of I1 hq
    refine enum_begins1 (begins_src b1 a its.toArray) p1 fun h' he hit hsz hk => wpAny_pyIter_enum he ?_
    have I2 : Inv X pins σ H1 { s1 with heap := h' } := I1.kept (t' := s1.toks) hk
    refine ⟨s1.heap.objs.size + 1, [s1.heap.objs.size + 1, s1.heap.objs.size], _, _, H1, rfl, I2, turn_E lt1, ⟨⟨.none, he⟩, IsIt.zero hit⟩, fun b hb => ?_, q⟩
    have e' : b = s1.heap.objs.size + 1 ∨ b = s1.heap.objs.size := by simpa using hb
    have hle : s1.heap.objs.size ≤ b := by
      rcases e' with z | z
      · rw [z]; exact Nat.le_add_right _ _
      · rw [z]; exact Nat.le_refl _
    exact I1.fpOk hle (I1.hok.fresh hle)
theorem sim_enum {G : Gd} {ι0 : List Addr} {H0 : Hp} {b1 : Bool} {a : Addr} {l : List D} {g1 : Store → Bool} (s1 : Stand G ι0 H0 b1 a l g1) : SimI G ι0 H0 (ItE b1 G.K a) ⟨enumD 0 l, g1⟩ := fun i ι H M x A gg => by
  obtain ⟨vs, h1, r1⟩ := s1.at_ ι H M x A gg
  refine ⟨fun d e => ?_, fun e => ⟨vs, h1, by rw [← r1.length, e, enumD_length]⟩⟩
  rw [enumD_get] at e
  cases e1 : l[i]? with
  | none => rw [e1] at e; cases e
  | some x' =>
    rw [e1] at e
    cases e
    obtain ⟨v, ev, rv⟩ := r1.get e1
    refine ⟨⟨vs, v, h1, ev⟩, fun z H' q => ?_⟩
    obtain ⟨T, x0, rfl, hT, rfl, q1⟩ := q
    have z1 := q1 vs h1
    rw [ev] at z1
    cases z1
    refine ⟨step_tmp hT, A.tmp hT, ?_⟩
    rw [Nat.zero_add]
    exact rep_pair hT (by simp only [Rep]) rv
theorem si_enum {e : Expr} {f : EF} {p pos tpos : Pos} {elts : List Expr} {kk : Nat} (hg : Gl X "enumerate") (hm : X.mg "enumerate" = none) (h1 : SE X W e f)
    (hs : starEach [e] X.env = [(false, eval e X.env)] := by rfl) :
    SI X W (.Tuple elts kk tpos) (.Call (.Name "enumerate" p) [e] [] pos) (iEnum f) :=
  (pi_enumX hg hm (pa_cons h1 pa_nil hs) hs).imp fun σ H R h => by
    obtain ⟨ι, M, env, A, E, h⟩ := h
    refine tE.mono (tE.seq A E h) fun x H1 ⟨ι1, M1, d1, s1, A1, E1, r1, _, h1⟩ => ?_
    cases e1 : seqM M1 d1 with
    | none => simp only [e1] at h1; exact h1.elim
    | some l =>
      simp only [e1] at h1
      obtain ⟨a, b1, rfl, st1⟩ := stand_of A1 r1 e1
      obtain ⟨vs, q1, _⟩ := now_of A1 st1
      exact ⟨a, b1, vs, rfl, q1, h1 ι1 H1 _ Step.refl A1 (sim_enum st1)⟩
end
end Sh

namespace Sh
open PySem L2

/-! ### comprehensions -/
abbrev W0 : WX := fun _ _ _ _ => False
/-- a target of names: one, or a tuple of them -/
def gNs : List Nat → TGs
  | [] => gNil
  | i :: r => gCons (gName i) (gNs r)
def setV : List Nat → List V → St → St
  | i :: r, v :: vs, σ => setV r vs (σ.set i (some v))
  | _, _, σ => σ
def setD : List Nat → List D → Env → Env
  | i :: r, v :: vs, σ => setD r vs (σ.set i (some v))
  | _, _, σ => σ
theorem gNs_of : ∀ {is : List Nat} {vs : List V} {σ : St} {H : Hp} {Q : St → Hp → Prop}, vs.length = is.length → Q (setV is vs σ) H → gNs is vs σ H Q
  | [], vs, σ, H, Q, l, h => by
    have : vs = [] := List.length_eq_zero_iff.mp l
    subst this
    exact ⟨rfl, h⟩
  | i :: r, [], σ, H, Q, l, h => by simp at l
  | i :: r, v :: vs, σ, H, Q, l, h => ⟨v, vs, rfl, gNs_of (by simpa using l) h⟩
theorem setV_length : ∀ (is : List Nat) (vs : List V) (σ : St), (setV is vs σ).length = σ.length
  | [], vs, σ => rfl
  | i :: r, [], σ => rfl
  | i :: r, v :: vs, σ => by rw [setV, setV_length]; simp
theorem wipe_set {σ : St} {i : Nat} {o : Option V} : ∀ {vs : List Nat}, i ∈ vs → wipe (σ.set i o) vs = wipe σ vs
  | [], h => by cases h
  | v :: vs, h => by
    unfold wipe
    by_cases e : i ∈ vs
    · rw [wipe_set e]
    · have ev : i = v := by
        rcases List.mem_cons.mp h with z | z
        · exact z
        · exact absurd z e
      subst ev
      have : ∀ ws : List Nat, i ∉ ws → wipe (σ.set i o) ws = (wipe σ ws).set i o := by
        intro ws
        induction ws with
        | nil => intro _; rfl
        | cons w ws ih =>
          intro hn
          simp only [List.mem_cons, not_or] at hn
          unfold wipe
          rw [ih hn.2, List.set_comm _ _ hn.1]
      rw [this vs e, List.set_set]
theorem wipe_setV {own : List Nat} : ∀ (is : List Nat) (vs : List V) (σ : St), (∀ i ∈ is, i ∈ own) → wipe (setV is vs σ) own = wipe σ own
  | [], vs, σ, _ => rfl
  | i :: r, [], σ, _ => rfl
  | i :: r, v :: vs, σ, h => by
    rw [setV, wipe_setV r vs _ fun j hj => h j (List.mem_cons_of_mem _ hj), wipe_set (h i List.mem_cons_self)]
theorem wipe_wipe {σ : St} : ∀ {own : List Nat}, wipe (wipe σ own) own = wipe σ own
  | own => by
    have : ∀ ws : List Nat, (∀ w ∈ ws, w ∈ own) → wipe (wipe σ ws) own = wipe σ own := by
      intro ws
      induction ws with
      | nil => intro _; rfl
      | cons w ws ih =>
        intro h
        rw [wipe, wipe_set (h w List.mem_cons_self), ih fun x hx => h x (List.mem_cons_of_mem _ hx)]
    exact this own fun w h => h
theorem EnvR.setA {K : PySem.W.Frag} {ι : List Addr} {H : Hp} : ∀ {is : List Nat} {ds : List D} {vs : List V} {env : Env} {σ : St}, EnvR K ι H env σ → Reps K ι H ds vs → EnvR K ι H (setD is ds env) (setV is vs σ)
  | [], ds, vs, env, σ, E, r => by cases ds <;> exact E
  | i :: is, [], vs, env, σ, E, r => by simp only [Reps] at r; subst r; exact E
  | i :: is, d :: ds, vs, env, σ, E, r => by
    simp only [Reps] at r
    obtain ⟨v, rs, rfl, h1, h2⟩ := r
    exact EnvR.setA (is := is) (ds := ds) (vs := rs) (E.set h1) h2
def wipeD (env : Env) : List Nat → Env
  | [] => env
  | v :: vs => (wipeD env vs).set v none
theorem EnvR.wipe {K : PySem.W.Frag} {ι : List Addr} {H : Hp} {env : Env} {σ : St} (E : EnvR K ι H env σ) : ∀ (own : List Nat), EnvR K ι H (wipeD env own) (L2.wipe σ own)
  | [] => E
  | v :: vs => by
    have ih := EnvR.wipe E vs
    refine ⟨by simp [wipeD, L2.wipe, ih.1], fun i d e => ?_⟩
    unfold wipeD at e
    unfold L2.wipe
    by_cases h : v = i
    · subst h
      by_cases hl : v < (wipeD env vs).length
      · rw [List.getElem?_set_self hl] at e; cases e
      · rw [List.getElem?_eq_none (by simpa using hl)] at e; cases e
    · rw [List.getElem?_set_ne h] at e ⊢
      exact ih.2 i d e
/-- the items of a target's value: the value itself, or the parts of a tuple -/
def parts (one : Bool) (n : Nat) : D → Option (List D)
  | d => if one = true then some [d] else match d with
    | .tup l => if l.length = n then some l else none
    | _ => none
def lcGo (guard : Store → Bool) (one : Bool) (is : List Nat) (c : TF) (f : EF) (env : Env) : List D → List D → Store → Res D
  | [], acc, M => if guard M = true then .ok (.ref M.length) (M ++ [.lst acc]) else .bad
  | x :: r, acc, M => if guard M = true then (match parts one is.length x with
    | none => .bad
    | some ds => match c (setD is ds env) M with
      | .ok true M1 => (match f (setD is ds env) M1 with
        | .ok y M2 => if acc.length < sizeLine then lcGo guard one is c f env r (acc ++ [y]) M2 else .bad
        | _ => .bad)
      | .ok false M1 => lcGo guard one is c f env r acc M1
      | _ => .bad) else .bad
def eLc (fi : IF) (one : Bool) (is : List Nat) (own : List Nat) (c : TF) (f : EF) : EF := fun env M => (fi env M).bind fun s M1 => lcGo s.guard one is c f (wipeD env own) s.items [] M1

/-! #### an object that the store does not track -/
theorem ext_off {K : PySem.W.Frag} {ι : List Addr} {H : Hp} {a : Addr} {u : HO} (nt : ∀ xs, ¬ Rd H a (.tup xs)) (nf : NF H a) : Ext K ι H ι (upd H a u) where
  ix := fun _ _ e => e
  tup := fun b vs h => by
    rcases h with (h | ⟨o, h⟩) | h
    · exact .inl (.inl (by rw [upd_ne fun z => nt vs (by rw [← z]; exact .inl h)]; exact h))
    · exact .inl (.inr ⟨o, by rw [upd_ne fun z => nt vs (by rw [← z]; exact .inr ⟨o, h⟩)]; exact h⟩)
    · exact .inr h
  frz := fun b o u h => by rw [upd_ne fun z => nf o u (by rw [← z]; exact h)]; exact h
theorem abs_off {K : PySem.W.Frag} {ι : List Addr} {H : Hp} {P : Program} {w : World} {M : Store} (A : Abs K ι H P w M) {a : Addr} {u : HO} (ha : a ∉ ι) (nt : ∀ xs, ¬ Rd H a (.tup xs)) (nf : NF H a) : Abs K ι (upd H a u) P w M where
  len := A.len
  nd := A.nd
  obj := fun m b o h1 h2 => by
    have ne : b ≠ a := fun z => ha (by rw [← z]; exact List.mem_of_getElem? h1)
    exact (A.obj m b o h1 h2).ext (ext_off nt nf) (fun u q => by rw [upd_ne ne]; exact q) fun xs r => by
      rcases r with r | ⟨o, r⟩
      · exact .inl (by rw [upd_ne ne] at r; exact r)
      · exact .inr ⟨o, by rw [upd_ne ne] at r; exact r⟩
theorem rd_lst {H : Hp} {a : Addr} {l : List V} (h : H a = some (.lst l)) : ∀ xs, ¬ Rd H a (.tup xs) := fun xs r => by rcases r with r | ⟨o, r⟩ <;> (rw [h] at r; cases r)
/-- a step that also touches one address that was free -/
theorem Step.off {ι ι' : List Addr} {H H' : Hp} {a : Addr} {u : HO} (s : Step ι H ι' H') (ha : H a = none) : Step ι H ι' (upd H' a u) where
  pre := s.pre
  frame := fun b o h n => by rw [upd_ne (ne_of_none h ha)]; exact s.frame b o h n
  fresh := s.fresh
  frz := fun b o u h => by rw [upd_ne (ne_of_none h ha)]; exact s.frz b o u h
theorem Step.add {ι ι' : List Addr} {H H' : Hp} {a : Addr} (s : Step ι H ι' H') (ha : H a = none) : Step ι H (ι' ++ [a]) H' where
  pre := let ⟨m, e⟩ := s.pre; ⟨m ++ [a], by rw [e, List.append_assoc]⟩
  frame := s.frame
  fresh := fun b h n => by
    rcases List.mem_append.mp h with h | h
    · exact s.fresh b h n
    · rw [List.mem_singleton.mp h]; exact ha
  frz := s.frz
theorem ext_add {K : PySem.W.Frag} {ι : List Addr} {H : Hp} (more : List Addr) : Ext K ι H (ι ++ more) H := ⟨fun n a e => by rw [List.getElem?_append_left (List.getElem?_eq_some_iff.mp e).1]; exact e, fun _ _ h => h, fun _ _ _ h => h⟩
theorem Abs.add {K : PySem.W.Frag} {ι : List Addr} {H : Hp} {P : Program} {w : World} {M : Store} {a : Addr} {o : DO} (A : Abs K ι H P w M) (ha : a ∉ ι) (ho : ORep K (ι ++ [a]) H P w a o) : Abs K (ι ++ [a]) H P w (M ++ [o]) where
  len := by simp [A.len]
  nd := by
    rw [List.nodup_append]
    exact ⟨A.nd, by simp, fun b hb c hc e => by rw [List.mem_singleton.mp hc] at e; rw [e] at hb; exact ha hb⟩
  obj := fun n b o' h1 h2 => by
    by_cases hn : n < ι.length
    · rw [List.getElem?_append_left hn] at h1
      rw [List.getElem?_append_left (by rw [← A.len]; exact hn)] at h2
      exact (A.obj n b o' h1 h2).ext (ext_add _) (fun u e => e) fun xs r => r
    · rw [List.getElem?_append_right (by omega)] at h1
      rw [List.getElem?_append_right (by rw [← A.len]; omega)] at h2
      cases q : n - ι.length with
      | zero =>
        rw [q] at h1
        rw [← A.len, q] at h2
        simp at h1 h2
        subst h1 h2
        exact ho
      | succ k => rw [q] at h1; simp at h1
theorem Step.out {ι ι' : List Addr} {H H' : Hp} {a : Addr} {u : HO} (s : Step ι H ι' H') (ha : a ∉ ι) (e : H a = some u) : a ∉ ι' ∧ H' a = some u :=
  ⟨fun m => by { have := s.fresh a m ha; rw [e] at this; cases this }, s.frame a u e ha⟩
theorem Reps.snoc {K : PySem.W.Frag} {ι : List Addr} {H : Hp} {d : D} {v : V} (h2 : Rep K ι H d v) : ∀ {l : List D} {vs : List V}, Reps K ι H l vs → Reps K ι H (l ++ [d]) (vs ++ [v])
  | [], vs, h => by simp only [Reps] at h; subst h; simp only [List.nil_append, Reps]; exact ⟨v, [], rfl, h2, rfl⟩
  | x :: l, vs, h => by
    simp only [Reps] at h
    obtain ⟨u, r, rfl, a, b⟩ := h
    simp only [List.cons_append, Reps]
    exact ⟨u, r ++ [v], rfl, a, Reps.snoc h2 b⟩
/-- the target of a comprehension -/
structure LcG (X : Cx) (tg : Expr) (one : Bool) (is : List Nat) (t : TG) : Prop where
  pg : PG X tg t
  rd : ∀ {ι : List Addr} {H : Hp} {d : D} {ds : List D} {x : V} {σ : St} {Q : St → Hp → Prop}, parts one is.length d = some ds → Rep X.K ι H d x → (∀ vs, Reps X.K ι H ds vs → Q (setV is vs σ) H) → t x σ H Q
section
variable {X : Cx} {W : WX}
theorem lg_nm {i : Nat} {x : Str} {pos : Pos} (hN : X.N.Nodup) (hi : X.N[i]? = some x) (hx : Loc X.env.scope x) (hf : X.fn x = true ∨ X.env.scope.names.lookup x = some .local := by first | exact .inl rfl | exact .inr rfl | assumption) : LcG X (.Name x pos) true [i] (gName i) where
  pg := pg_name hN hi hx hf
  rd := fun {_ _ _ _ _ _ _} e r h => by
    simp only [parts, if_true, Option.some.injEq] at e
    subst e
    exact h [_] (by simp only [Reps]; exact ⟨_, [], rfl, r, rfl⟩)
theorem lg_tu {es : List Expr} {k : Nat} {is : List Nat} {pos : Pos} (hc : X.calm = true) (h : PGs X es (gNs is)) (hn : (assignEach es X.env).length = is.length := by rfl) (hst : (assignEach es X.env).findIdx? (·.1) = none := by rfl) : LcG X (.Tuple es k pos) false is (gTup X.K is.length (gNs is)) where
  pg := pg_tup hc h hn hst
  rd := fun {ι H d ds x σ Q} e r h => by
    show gTup _ _ _ _ _ _ _
    cases d with
    | tup l =>
      simp only [parts, Bool.false_eq_true, if_false] at e
      split at e
      · rename_i hl
        cases e
        simp only [Rep] at r
        obtain ⟨p, vs, rfl, hq, rr⟩ := r
        have hl2 : vs.length = is.length := by rw [← hl, rr.length]
        exact ⟨p, vs, rfl, hq, hl2, gNs_of hl2 (h vs rr)⟩
      · cases e
    | _ => simp [parts] at e
theorem gns_nil : PGs X [] (gNs []) := pgs_nil
theorem gns_cons {x : Str} {i : Nat} {is : List Nat} {es : List Expr} {pos : Pos} (hN : X.N.Nodup) (hi : X.N[i]? = some x) (hx : Loc X.env.scope x) (h : PGs X es (gNs is)) (hf : X.fn x = true ∨ X.env.scope.names.lookup x = some .local := by first | exact .inl rfl | exact .inr rfl | assumption)
    (hs : (assignEach (.Name x pos :: es) X.env).map (·.2) = assign (.Name x pos) X.env :: (assignEach es X.env).map (·.2) := by rfl) : PGs X (.Name x pos :: es) (gNs (i :: is)) := pgs_cons (pg_name hN hi hx hf) h hs
def tYesD : TF := fun _ M => .ok true M
theorem sts_nil : PTs X [] (tT (cgd X) W tYesD) := ⟨fun pins s σ H Q I h => wpAny_tests_nil ⟨H, I, by obtain ⟨ι, M, env, A, E, h⟩ := h; exact h ι H true Step.refl A rfl⟩⟩
theorem sts_one {c : Expr} {f : TF} (h : ST X W c f) : PTs X [c] (tT (cgd X) W f) := pts_one h
/-- the reading of a list comprehension -/
theorem lc_read {t : TG} {fi : IF} {one : Bool} {is own : List Nat} {c : TF} {f : EF} (hown : ∀ i ∈ is, i ∈ own)
    (rd : ∀ {ι : List Addr} {H : Hp} {d : D} {ds : List D} {x : V} {σ : St} {Q : St → Hp → Prop}, parts one is.length d = some ds → Rep X.K ι H d x → (∀ vs, Reps X.K ι H ds vs → Q (setV is vs σ) H) → t x σ H Q)
    {σ : St} {H : Hp} {Q : VK} (h : tE (cgd X) W (eLc fi one is own c f) σ H Q) : tLc (tI (cgd X) W fi) t (tT (cgd X) W0 c) (tE (cgd X) W0 f) own σ H Q := by
  obtain ⟨ι, M, env, A, E, h⟩ := h
  refine tI.mono (tI.seq A E h) fun J H1 ⟨ι1, M1, s, s1, A1, E1, sim, _, h1⟩ => ?_
  intro D hD
  have hDi : D ∉ ι1 := A1.notin hD
  refine ⟨fun i m H => m = s.items.length - i ∧ i ≤ s.items.length ∧ ∃ ι M acc av, Step ι1 H1 ι H ∧ D ∉ ι ∧ H D = some (.lst av) ∧ Reps (cgd X).K ι H acc av ∧ Abs (cgd X).K ι H (cgd X).P (cgd X).w M ∧ PostE (cgd X) W ι1 H1 σ (lcGo s.guard one is c f (wipeD env own) (s.items.drop i) acc M) Q, ⟨_, rfl, Nat.zero_le _, ι1, M1, [], [], step_tmp hD, hDi, upd_same, by simp only [Reps], A1.tmp hD, by simpa using h1⟩, ?_⟩
  rintro i m H2 ⟨rfl, hile, ι2, M2, acc, av, s2, hD2, e2, ra2, A2, h2⟩
  have x2 : Ext (cgd X).K ι1 H1 ι2 H2 := s2.ext A1.nt
  have E2 := (E1.wipe own).ext x2
  cases ei : s.items[i]? with
  | none =>
    have hl : s.items.length ≤ i := List.getElem?_eq_none_iff.mp ei
    rw [List.drop_eq_nil_of_le hl] at h2
    unfold lcGo at h2
    by_cases hgd : s.guard M2 = true
    · rw [if_pos hgd] at h2
      refine .inl ⟨(sim i ι2 H2 M2 x2 A2 hgd).2 (Nat.le_antisymm hile hl), h2 (ι2 ++ [D]) H2 _ (s2.add hD) (A2.add hD2 ⟨av, e2, ra2.ext (ext_add _)⟩) ?_⟩
      simp only [Rep]
      exact ⟨D, by rw [← A2.len]; simp, rfl⟩
    · rw [if_neg hgd] at h2; exact h2.elim
  | some d =>
    obtain ⟨hl, ed⟩ := List.getElem?_eq_some_iff.mp ei
    rw [List.drop_eq_getElem_cons hl, ed] at h2
    unfold lcGo at h2
    by_cases hgd : s.guard M2 = true
    · rw [if_pos hgd] at h2
      obtain ⟨go, yl⟩ := (sim i ι2 H2 M2 x2 A2 hgd).1 d ei
      refine .inr ⟨go, fun H' => s.items.length - (i + 1) < s.items.length - i ∧ i + 1 ≤ s.items.length ∧ ∃ ι M acc av, Step ι1 H1 ι H' ∧ D ∉ ι ∧ H' D = some (.lst av) ∧ Reps (cgd X).K ι H' acc av ∧ Abs (cgd X).K ι H' (cgd X).P (cgd X).w M ∧ PostE (cgd X) W ι1 H1 σ (lcGo s.guard one is c f (wipeD env own) (s.items.drop (i + 1)) acc M) Q, fun H' ⟨h1, h2, h3⟩ => ⟨_, h1, rfl, h2, h3⟩, fun x H3 hy => ?_⟩
      have lt : s.items.length - (i + 1) < s.items.length - i := by omega
      obtain ⟨s3, A3, r3⟩ := yl x H3 hy
      obtain ⟨hD3, e3⟩ := s3.out hD2 e2
      have x3 := s3.ext (K := (cgd X).K) A2.nt
      cases ep : parts one is.length d with
      | none => rw [ep] at h2; exact h2.elim
      | some ds =>
        rw [ep] at h2
        refine rd ep r3 fun vs rv => ⟨?_, ?_⟩
        · rw [wipe_setV is vs _ hown, wipe_wipe]
        · have E3 := (E2.ext x3).setA (is := is) rv
          refine ⟨ι2, M2, _, A3, E3, ?_⟩
          cases ec : c (setD is ds (wipeD env own)) M2 with
          | bad => simp only [ec] at h2; exact h2.elim
          | exc _ _ _ => simp only [ec] at h2; exact h2.elim
          | ok b M4 =>
            simp only [ec] at h2
            rintro ι4 H4 b' s4 A4 rfl
            obtain ⟨hD4, e4⟩ := s4.out hD3 e3
            have x4 := s4.ext (K := (cgd X).K) A3.nt
            cases b with
            | false =>
              simp only [Bool.false_eq_true, if_false]
              exact ⟨lt, hl, ι4, M4, acc, av, (s2.trans s3).trans s4, hD4, e4, ra2.ext (x3.trans x4), A4, h2⟩
            | true =>
              simp only [if_true]
              refine ⟨ι4, M4, _, A4, E3.ext x4, ?_⟩
              cases ef : f (setD is ds (wipeD env own)) M4 with
              | bad => simp only [ef] at h2; exact h2.elim
              | exc _ _ _ => simp only [ef] at h2; exact h2.elim
              | ok y M5 =>
                simp only [ef] at h2
                intro ι5 H5 yv s5 A5 r5
                obtain ⟨hD5, e5⟩ := s5.out hD4 e4
                have x5 := s5.ext (K := (cgd X).K) A4.nt
                have ra5 := ra2.ext ((x3.trans x4).trans x5)
                split at h2
                · rename_i hlen
                  refine ⟨av, e5, by rw [← ra5.length]; exact hlen, lt, hl, ι5, M5, acc ++ [y], av ++ [yv], ?_, hD5, upd_same, ?_, abs_off A5 hD5 (rd_lst e5) (nf_lst e5), h2⟩
                  · exact (((s2.trans s3).trans s4).trans s5).off hD
                  · exact (ra5.snoc r5).ext (ext_off (rd_lst e5) (nf_lst e5))
                · exact h2.elim
    · rw [if_neg hgd] at h2; exact h2.elim
theorem se_lc {elt tg iter : Expr} {ifs : List Expr} {scope : Scope} {own : List (Str × Nat)} {pos : Pos} {fi : IF} {one : Bool} {is : List Nat} {t : TG} {c : TF} {f : EF} (hc : X.calm = true) (hN : X.N.Nodup) (hi : SI X W tg iter fi) (ok : BlkOk X.N X.env.scope scope own) (hown : ∀ i ∈ is, i ∈ own.map (·.2))
    (hb : ∀ (s : Shared) (H : Hp) (C : Addr) (cl : List (Str × Addr)) (fp : List Addr), LcG (X.blk s H scope (compEnvC scope cl C X.env) fp) tg one is t ∧ PTs (X.blk s H scope (compEnvC scope cl C X.env) fp) ifs (tT (cgd (X.blk s H scope (compEnvC scope cl C X.env) fp)) W0 c) ∧ SE (X.blk s H scope (compEnvC scope cl C X.env) fp) W0 elt f)
    (rd : ∀ {ι : List Addr} {H : Hp} {d : D} {ds : List D} {x : V} {σ : St} {Q : St → Hp → Prop}, parts one is.length d = some ds → Rep X.K ι H d x → (∀ vs, Reps X.K ι H ds vs → Q (setV is vs σ) H) → t x σ H Q)
    (hs : ∀ x, foldedSetIterable iter X.env x = pure x := by intro _; rfl) : SE X W (.ListComp elt [⟨tg, iter, ifs, 0⟩] scope pos) (eLc fi one is (own.map (·.2)) c f) :=
  (pe_lc hc hN hi ok (fun s H C cl fp => (hb s H C cl fp).1.pg) (fun s H C cl fp => (hb s H C cl fp).2.1) (fun s H C cl fp => (hb s H C cl fp).2.2) hs).imp fun σ H Q h => lc_read hown rd h
theorem ss_setLc {i : Nat} {y : Str} {py : Pos} {elt tg iter : Expr} {ifs : List Expr} {scope : Scope} {own : List (Str × Nat)} {pos spos : Pos} {fi : IF} {one : Bool} {is : List Nat} {t : TG} {c : TF} {f : EF} (hc : X.calm = true) (hN : X.N.Nodup) (hy : X.N[i]? = some y) (hyl : X.env.scope.names.lookup y = some .local)
    (hsw : swapsWith (.ListComp elt [⟨tg, iter, ifs, 0⟩] scope pos) (some (.Name y py)) spos.line X.env = pure true) (hi : SI X W tg iter fi) (ok : BlkOk X.N X.env.scope scope own) (hown : ∀ i ∈ is, i ∈ own.map (·.2))
    (hb : ∀ (s : Shared) (H : Hp) (C : Addr) (cl : List (Str × Addr)) (fp : List Addr), LcG (X.blk s H scope (compEnvC scope cl C X.env) fp) tg one is t ∧ PTs (X.blk s H scope (compEnvC scope cl C X.env) fp) ifs (tT (cgd (X.blk s H scope (compEnvC scope cl C X.env) fp)) W0 c) ∧ SE (X.blk s H scope (compEnvC scope cl C X.env) fp) W0 elt f)
    (rd : ∀ {ι : List Addr} {H : Hp} {d : D} {ds : List D} {x : V} {σ : St} {Q : St → Hp → Prop}, parts one is.length d = some ds → Rep X.K ι H d x → (∀ vs, Reps X.K ι H ds vs → Q (setV is vs σ) H) → t x σ H Q)
    (hs : ∀ x, foldedSetIterable iter X.env x = pure x := by intro _; rfl) : SS X W (.Assign [.Name y py] (.ListComp elt [⟨tg, iter, ifs, 0⟩] scope pos) spos) (sSet i (eLc fi one is (own.map (·.2)) c f)) :=
  (ps_setLc hc hN hy hyl hsw hi ok (fun s H C cl fp => (hb s H C cl fp).1.pg) (fun s H C cl fp => (hb s H C cl fp).2.1) (fun s H C cl fp => (hb s H C cl fp).2.2) hs).imp fun C σ H h => by
    obtain ⟨ι, M, env, A, E, h⟩ := h
    refine lc_read hown rd (tE.mono (tE.seqS A E h) fun x H1 ⟨ι1, M1, d, s1, A1, E1, r1, _, h1⟩ => ?_)
    exact h1 ι1 H1 _ Step.refl A1 (E1.set r1)
end
end Sh

namespace Sh
open PySem L2 PyProof.Rows

/-! ### calls of built-in functions and types -/
def eB (op : ON) (fa : AF) : EF := fun env M => (fa env M).bind fun ds M1 => ofO (op ds M1)
def intsD : List D → Option (List Int)
  | [] => some []
  | .int i :: l => (intsD l).map (i :: ·)
  | _ => none
def blsD : List D → Option (List Bool)
  | [] => some []
  | .bl b :: l => (blsD l).map (b :: ·)
  | _ => none
theorem Reps.ints {K : PySem.W.Frag} {ι : List Addr} {H : Hp} : ∀ {l : List D} {vs : List V} {ns : List Int}, Reps K ι H l vs → intsD l = some ns → vs = ns.map V.int
  | [], vs, ns, h, e => by simp only [Reps] at h; subst h; cases e; rfl
  | d :: l, vs, ns, h, e => by
    simp only [Reps] at h
    obtain ⟨v, r, rfl, a, b⟩ := h
    cases d with
    | int i =>
      simp only [intsD, Option.map_eq_some_iff] at e
      obtain ⟨ms, e1, rfl⟩ := e
      simp only [Rep] at a
      subst a
      rw [List.map_cons, ← Reps.ints b e1]
    | _ => simp [intsD] at e
theorem Reps.bls {K : PySem.W.Frag} {ι : List Addr} {H : Hp} : ∀ {l : List D} {vs : List V} {ns : List Bool}, Reps K ι H l vs → blsD l = some ns → vs = ns.map V.bl
  | [], vs, ns, h, e => by simp only [Reps] at h; subst h; cases e; rfl
  | d :: l, vs, ns, h, e => by
    simp only [Reps] at h
    obtain ⟨v, r, rfl, a, b⟩ := h
    cases d with
    | bl i =>
      simp only [blsD, Option.map_eq_some_iff] at e
      obtain ⟨ms, e1, rfl⟩ := e
      simp only [Rep] at a
      subst a
      rw [List.map_cons, ← Reps.bls b e1]
    | _ => simp [blsD] at e
theorem reps_two {K : PySem.W.Frag} {ι : List Addr} {H : Hp} {d e : D} {xs : List V} (h : Reps K ι H [d, e] xs) : ∃ v u, xs = [v, u] ∧ Rep K ι H d v ∧ Rep K ι H e u := by
  simp only [Reps] at h
  obtain ⟨v, r, rfl, a, u, r2, rfl, b, rfl⟩ := h
  exact ⟨v, u, rfl, a, b⟩
section
variable {X : Cx} {W : WX}
theorem callB_imp {op : ON} {fa : AF} {σ : L2.St} {H : Hp} {Q : VK} (h : tE (cgd X) W (eB op fa) σ H Q) : tCB (rON (cgd X) op) (tA (cgd X) W fa) σ H Q := by
  obtain ⟨ι, M, env, A, E, h⟩ := h
  refine tA.mono (tA.seq A E h) fun xs H1 ⟨ι1, M1, ds, s1, A1, E1, r1, _, h1⟩ => ?_
  exact ⟨ι1, M1, ds, A1, r1, Post.ofO h1⟩
theorem se_callB {x : Str} {p pos : Pos} {e : Expr} {es : List Expr} {fa : AF} {op : ON} {id : String} (hc : SCl X (.builtin id) op) (hg : Gl X x) (hm : X.mg x = none) (hv : bootBuiltins x = some (.builtin id)) (ha : SA X W (e :: es) fa) (hn : x ≠ "__name__" := by decide) (hdb : (x == ("__debug__" : Str)) = false := by decide)
    (he : starEach (e :: es) X.env = (false, eval e X.env) :: starEach es X.env := by rfl) (hpl : (backTo pos (starEach es X.env)).any (·.1) = false := by rfl) : SE X W (.Call (.Name x p) (e :: es) [] pos) (eB op fa) :=
  (pe_callB hc hg hm hv ha hn hdb he hpl).imp fun σ H Q h => callB_imp h
theorem se_callTy {x : Str} {p pos : Pos} {e : Expr} {es : List Expr} {fa : AF} {op : ON} {T : String} (hc : SCl X (.type T) op) (hg : Gl X x) (hm : X.mg x = none) (hv : bootBuiltins x = some (.type T)) (ha : SA X W (e :: es) fa) (hn : x ≠ "__name__" := by decide) (hdb : (x == ("__debug__" : Str)) = false := by decide)
    (he : starEach (e :: es) X.env = (false, eval e X.env) :: starEach es X.env := by rfl) (hpl : (backTo pos (starEach es X.env)).any (·.1) = false := by rfl) : SE X W (.Call (.Name x p) (e :: es) [] pos) (eB op fa) :=
  (pe_callTy hc hg hm hv ha hn hdb he hpl).imp fun σ H Q h => callB_imp h
/-! #### int, abs -/
def opInt : ON := fun ds M => match ds with
  | [.int i] => some (.int i, M)
  | [.bl b] => some (.int (if b then 1 else 0), M)
  | _ => none
theorem cl_int : SCl X (.type "int") opInt := call_int1.imp fun xs H Q ⟨ι, M, ds, A, r, h⟩ => by
  match ds, r, h with
  | [.int i], r, h =>
    obtain ⟨v, rfl, rv⟩ := reps_one r
    have hh := h ι H (.int i) Step.refl A (by simp only [Rep])
    simp only [Rep] at rv
    subst rv
    exact .inl ⟨i, rfl, hh⟩
  | [.bl b], r, h =>
    obtain ⟨v, rfl, rv⟩ := reps_one r
    have hh := h ι H (.int (if b then 1 else 0)) Step.refl A (by simp only [Rep])
    simp only [Rep] at rv
    subst rv
    exact .inr ⟨b, rfl, hh⟩
  | [], r, h => exact h.elim
  | [.non], r, h => exact h.elim
  | [.str _], r, h => exact h.elim
  | [.tup _], r, h => exact h.elim
  | [.ref _], r, h => exact h.elim
  | [.ty _], r, h => exact h.elim
  | .int _ :: _ :: _, r, h => exact h.elim
  | .bl _ :: _ :: _, r, h => exact h.elim
  | .non :: _ :: _, r, h => exact h.elim
  | .str _ :: _ :: _, r, h => exact h.elim
  | .tup _ :: _ :: _, r, h => exact h.elim
  | .ref _ :: _ :: _, r, h => exact h.elim
  | .ty _ :: _ :: _, r, h => exact h.elim
/-- an operator on one value -/
def op1 (g : D → Store → Option (D × Store)) : ON := fun ds M => match ds with
  | [d] => g d M
  | _ => none
theorem cl_one {f : Value} {r : List V → Hp → VK → Prop} {g : D → Store → Option (D × Store)} (h : CallR X f r) (hg : ∀ ι M H d x Q, Abs X.K ι H X.prog X.w M → Rep X.K ι H d x → PostO (cgd X) ι H (g d M) Q → r [x] H Q) : SCl X f (op1 g) :=
  h.imp fun xs H Q ⟨ι, M, ds, A, rr, q⟩ => by
    match ds, rr, q with
    | [d], rr, q =>
      obtain ⟨v, rfl, rv⟩ := reps_one rr
      exact hg ι M H d v Q A rv q
    | [], rr, q => exact q.elim
    | _ :: _ :: _, rr, q => exact q.elim
def op2 (g : D → D → Store → Option (D × Store)) : ON := fun ds M => match ds with
  | [d, e] => g d e M
  | _ => none
theorem cl_two {f : Value} {r : List V → Hp → VK → Prop} {g : D → D → Store → Option (D × Store)} (h : CallR X f r) (hg : ∀ ι M H d e x y Q, Abs X.K ι H X.prog X.w M → Rep X.K ι H d x → Rep X.K ι H e y → PostO (cgd X) ι H (g d e M) Q → r [x, y] H Q) : SCl X f (op2 g) :=
  h.imp fun xs H Q ⟨ι, M, ds, A, rr, q⟩ => by
    match ds, rr, q with
    | [d, e], rr, q =>
      obtain ⟨v, u, rfl, rv, ru⟩ := reps_two rr
      exact hg ι M H d e v u Q A rv ru q
    | [], rr, q => exact q.elim
    | [_], rr, q => exact q.elim
    | _ :: _ :: _ :: _, rr, q => exact q.elim
def gAbs : D → Store → Option (D × Store) := fun d M => match d with
  | .int i => some (.int (if i < 0 then -i else i), M)
  | _ => none
theorem cl_abs : SCl X (.builtin "abs") (op1 gAbs) := cl_one call_abs fun ι M H d x Q A r q => by
  cases d with
  | int i => simp only [Rep] at r; subst r; exact ⟨i, rfl, q ι H _ Step.refl A (by simp only [Rep])⟩
  | _ => exact q.elim
/-! #### max, min of two ints, of a list -/
def maxI : List Int → Option Int
  | [] => none
  | i :: l => some (l.foldl (fun m j => if j > m then j else m) i)
def minI : List Int → Option Int
  | [] => none
  | i :: l => some (l.foldl (fun m j => if j < m then j else m) i)
theorem foldmax : ∀ (l : List Int) (i : Int), (l.foldl (fun m j => if j > m then j else m) i = i ∨ l.foldl (fun m j => if j > m then j else m) i ∈ l) ∧ i ≤ l.foldl (fun m j => if j > m then j else m) i ∧ ∀ y ∈ l, y ≤ l.foldl (fun m j => if j > m then j else m) i
  | [], i => ⟨.inl rfl, Int.le_refl _, fun y h => by cases h⟩
  | j :: l, i => by
    obtain ⟨a, b, c⟩ := foldmax l (if j > i then j else i)
    rw [List.foldl_cons]
    generalize l.foldl (fun m j => if j > m then j else m) (if j > i then j else i) = m at a b c
    refine ⟨?_, ?_, fun y hy => ?_⟩
    · rcases a with a | a
      · by_cases h : j > i
        · rw [if_pos h] at a; right; rw [a]; exact List.mem_cons_self
        · rw [if_neg h] at a; left; exact a
      · right; exact List.mem_cons_of_mem _ a
    · split at b <;> omega
    · rcases List.mem_cons.mp hy with rfl | hy
      · split at b <;> omega
      · exact c y hy
theorem foldmin : ∀ (l : List Int) (i : Int), (l.foldl (fun m j => if j < m then j else m) i = i ∨ l.foldl (fun m j => if j < m then j else m) i ∈ l) ∧ l.foldl (fun m j => if j < m then j else m) i ≤ i ∧ ∀ y ∈ l, l.foldl (fun m j => if j < m then j else m) i ≤ y
  | [], i => ⟨.inl rfl, Int.le_refl _, fun y h => by cases h⟩
  | j :: l, i => by
    obtain ⟨a, b, c⟩ := foldmin l (if j < i then j else i)
    rw [List.foldl_cons]
    generalize l.foldl (fun m j => if j < m then j else m) (if j < i then j else i) = m at a b c
    refine ⟨?_, ?_, fun y hy => ?_⟩
    · rcases a with a | a
      · by_cases h : j < i
        · rw [if_pos h] at a; right; rw [a]; exact List.mem_cons_self
        · rw [if_neg h] at a; left; exact a
      · right; exact List.mem_cons_of_mem _ a
    · split at b <;> omega
    · rcases List.mem_cons.mp hy with rfl | hy
      · split at b <;> omega
      · exact c y hy
def gII (f : Int → Int → Int) : D → D → Store → Option (D × Store) := fun d e M => match d, e with
  | .int i, .int j => some (.int (f i j), M)
  | _, _ => none
theorem gII_of {f : Int → Int → Int} {ι : List Addr} {M : Store} {H : Hp} {d e : D} {x y : V} {Q : VK} (A : Abs X.K ι H X.prog X.w M) (r : Rep X.K ι H d x) (r2 : Rep X.K ι H e y) (q : PostO (cgd X) ι H (gII f d e M) Q) : ∃ i j, x = .int i ∧ y = .int j ∧ Q (.int (f i j)) H := by
  cases d with
  | int i =>
    cases e with
    | int j => simp only [Rep] at r r2; subst r r2; exact ⟨i, j, rfl, rfl, q ι H _ Step.refl A (by simp only [Rep])⟩
    | _ => exact q.elim
  | _ => exact q.elim
def gInts (f : List Int → Option Int) : D → Store → Option (D × Store) := fun d M => match d with
  | .ref n => match lstM M n with
    | some l => match intsD l with
      | some ns => match f ns with
        | some m => some (.int m, M)
        | none => none
      | none => none
    | none => none
  | _ => none
theorem gInts_of {f : List Int → Option Int} {ι : List Addr} {M : Store} {H : Hp} {d : D} {x : V} {Q : VK} (A : Abs X.K ι H X.prog X.w M) (r : Rep X.K ι H d x) (q : PostO (cgd X) ι H (gInts f d M) Q) : ∃ a ns m, x = .ref a ∧ SqL X.K H a (ns.map V.int) ∧ f ns = some m ∧ Q (.int m) H := by
  cases d with
  | ref n =>
    simp only [Rep] at r
    obtain ⟨a, ea, rfl⟩ := r
    unfold gInts at q
    cases el : lstM M n with
    | none => simp only [el] at q; exact q.elim
    | some l =>
      obtain ⟨vs, h1, h2⟩ := lst_get A ea el
      simp only [el] at q
      cases ei : intsD l with
      | none => rw [ei] at q; exact q.elim
      | some ns =>
        simp only [ei] at q
        cases em : f ns with
        | none => rw [em] at q; exact q.elim
        | some m =>
          rw [em] at q
          have e := h2.ints ei
          subst e
          exact ⟨a, ns, m, rfl, h1, em, q ι H _ Step.refl A (by simp only [Rep])⟩
  | _ => exact q.elim
def opMax : ON := fun ds M => match ds with
  | [d] => gInts maxI d M
  | [d, e] => gII (fun i j => if j > i then j else i) d e M
  | _ => none
def opMin : ON := fun ds M => match ds with
  | [d] => gInts minI d M
  | [d, e] => gII (fun i j => if j < i then j else i) d e M
  | _ => none
theorem cl_max (hc : X.calm = true) : SCl X (.builtin "max") opMax := (CallR.or (cr_max hc) (call_max2 hc)).imp fun xs H Q ⟨ι, M, ds, A, rr, q⟩ => by
  match ds, rr, q with
  | [d], rr, q =>
    obtain ⟨v, rfl, rv⟩ := reps_one rr
    obtain ⟨a, ns, m, rfl, h1, e, q⟩ := gInts_of A rv q
    cases ns with
    | nil => cases e
    | cons i l =>
      simp only [maxI, Option.some.injEq] at e
      obtain ⟨fa, fb, fc⟩ := foldmax l i
      rw [e] at fa fb fc
      refine .inl ⟨a, i :: l, rfl, h1, by simp, fun m' hm' hy => ?_⟩
      have : m' = m := by
        have h2 := hy m (by rcases fa with z | z; rw [z]; exact List.mem_cons_self; exact List.mem_cons_of_mem _ z)
        rcases List.mem_cons.mp hm' with z | z
        · omega
        · have := fc m' z; omega
      rw [this]; exact q
  | [d, e], rr, q =>
    obtain ⟨v, u, rfl, rv, ru⟩ := reps_two rr
    obtain ⟨i, j, rfl, rfl, q⟩ := gII_of A rv ru q
    exact .inr ⟨i, j, rfl, q⟩
  | [], rr, q => exact q.elim
  | _ :: _ :: _ :: _, rr, q => exact q.elim
theorem cl_min (hc : X.calm = true) : SCl X (.builtin "min") opMin := (CallR.or (cr_min hc) (call_min2 hc)).imp fun xs H Q ⟨ι, M, ds, A, rr, q⟩ => by
  match ds, rr, q with
  | [d], rr, q =>
    obtain ⟨v, rfl, rv⟩ := reps_one rr
    obtain ⟨a, ns, m, rfl, h1, e, q⟩ := gInts_of A rv q
    cases ns with
    | nil => cases e
    | cons i l =>
      simp only [minI, Option.some.injEq] at e
      obtain ⟨fa, fb, fc⟩ := foldmin l i
      rw [e] at fa fb fc
      refine .inl ⟨a, i :: l, rfl, h1, by simp, fun m' hm' hy => ?_⟩
      have : m' = m := by
        have h2 := hy m (by rcases fa with z | z; rw [z]; exact List.mem_cons_self; exact List.mem_cons_of_mem _ z)
        rcases List.mem_cons.mp hm' with z | z
        · omega
        · have := fc m' z; omega
      rw [this]; exact q
  | [d, e], rr, q =>
    obtain ⟨v, u, rfl, rv, ru⟩ := reps_two rr
    obtain ⟨i, j, rfl, rfl, q⟩ := gII_of A rv ru q
    exact .inr ⟨i, j, rfl, q⟩
  | [], rr, q => exact q.elim
  | _ :: _ :: _ :: _, rr, q => exact q.elim
/-! #### sum -/
def rSumT (K : PySem.W.Frag) : List V → Hp → VK → Prop := fun vs H Q => ∃ (a : Addr) (ns : List Int), vs = [V.ref a] ∧ SqT K H a (ns.map V.int) ∧ Q (.int ns.sum) H
theorem cr_sumT (hc : X.calm = true) : CallR X (.builtin "sum") (rSumT X.K) := by
  intro pins s σ H vs us Q I r h
  obtain ⟨a, ns, rfl, hs, q⟩ := h
  obtain ⟨its, rv, hl, _⟩ := I.tuple hs
  rw [Vals.ref1 r]
  have hi := rv.ints
  obtain ⟨xs, e⟩ := hi.allInts.items
  have hn : numsOf (intItems xs).toList = ns := by rw [← e]; exact hi.numsOf
  rw [nums_intItems] at hn
  have hl : s.heap.IsTuple a its.toArray := hl
  rw [e] at hl
  refine PySem.W.ktm_sumG (I.ok.hd hc) hl fun h' tk t' hk => ?_
  rw [preSum_eq, List.take_of_length_le (by simp), hn]
  exact ⟨.int _, H, I.kept hk, ⟨_, rfl⟩, q⟩
def gSum : D → Store → Option (D × Store) := fun d M => match seqM M d with
  | some l => match intsD l with
    | some ns => some (.int ns.sum, M)
    | none => none
  | none => none
theorem cl_sum (hc : X.calm = true) : SCl X (.builtin "sum") (op1 gSum) := cl_one (CallR.or (cr_sum hc) (cr_sumT hc)) fun ι M H d x Q A r q => by
  unfold gSum at q
  cases el : seqM M d with
  | none => rw [el] at q; exact q.elim
  | some l =>
    obtain ⟨a, vs, rfl, h1, h2⟩ := seq_get A r el
    simp only [el] at q
    cases ei : intsD l with
    | none => rw [ei] at q; exact q.elim
    | some ns =>
      rw [ei] at q
      have e := h2.ints ei
      subst e
      have qq := q ι H _ Step.refl A (by simp only [Rep]; exact rfl)
      rcases h1 with h1 | h1
      · exact .inl ⟨a, ns, rfl, h1, qq⟩
      · exact .inr ⟨a, ns, rfl, h1, qq⟩
/-! #### all, any of a list of bools -/
def gBls (f : List Bool → Bool) : D → Store → Option (D × Store) := fun d M => match d with
  | .ref n => match lstM M n with
    | some l => match blsD l with
      | some bs => some (.bl (f bs), M)
      | none => none
    | none => none
  | _ => none
theorem gBls_of {f : List Bool → Bool} {ι : List Addr} {M : Store} {H : Hp} {d : D} {x : V} {Q : VK} (A : Abs X.K ι H X.prog X.w M) (r : Rep X.K ι H d x) (q : PostO (cgd X) ι H (gBls f d M) Q) : ∃ a bs, x = .ref a ∧ SqL X.K H a (bs.map V.bl) ∧ Q (.bl (f bs)) H := by
  cases d with
  | ref n =>
    simp only [Rep] at r
    obtain ⟨a, ea, rfl⟩ := r
    unfold gBls at q
    cases el : lstM M n with
    | none => simp only [el] at q; exact q.elim
    | some l =>
      obtain ⟨vs, h1, h2⟩ := lst_get A ea el
      simp only [el] at q
      cases ei : blsD l with
      | none => rw [ei] at q; exact q.elim
      | some bs =>
        rw [ei] at q
        have e := h2.bls ei
        subst e
        exact ⟨a, bs, rfl, h1, q ι H _ Step.refl A (by simp only [Rep])⟩
  | _ => exact q.elim
theorem cl_all (hc : X.calm = true) : SCl X (.builtin "all") (op1 (gBls fun bs => bs.all id)) := cl_one (cr_all hc) fun ι M H d x Q A r q => by
  obtain ⟨a, bs, rfl, h, q⟩ := gBls_of A r q
  exact ⟨a, bs, rfl, h, q⟩
theorem cl_any (hc : X.calm = true) : SCl X (.builtin "any") (op1 (gBls fun bs => bs.any id)) := cl_one (cr_any hc) fun ι M H d x Q A r q => by
  obtain ⟨a, bs, rfl, h, q⟩ := gBls_of A r q
  exact ⟨a, bs, rfl, h, q⟩
/-! #### tuple, list -/
def gTuple : D → Store → Option (D × Store) := fun d M => match seqM M d with
  | some l => some (.tup l, M)
  | none => none
theorem Rep.notTup {K : PySem.W.Frag} {ι : List Addr} {H : Hp} {P : Program} {w : World} {M : Store} {n : Nat} {a : Addr} (A : Abs K ι H P w M) (ea : ι[n]? = some a) (hn : n < M.length) : ∀ xs, ¬ Rd H a (.tup xs) := A.nt a (List.mem_of_getElem? ea)
theorem cl_tuple : SCl X (.type "tuple") (op1 gTuple) := cl_one call_tuple_of fun ι M H d x Q A r q => by
  unfold gTuple at q
  cases d with
  | tup l =>
    have r0 := r
    simp only [Rep] at r
    obtain ⟨p, vs, rfl, h1, h2⟩ := r
    simp only [seqM] at q
    exact ⟨p, vs, rfl, .inr ⟨h1, q ι H _ Step.refl A r0⟩⟩
  | ref n =>
    simp only [Rep] at r
    obtain ⟨a, ea, rfl⟩ := r
    cases el : lstM M n with
    | none => simp only [seqM, el] at q; exact q.elim
    | some l =>
      obtain ⟨vs, h1, h2⟩ := lst_get A ea el
      simp only [seqM, el] at q
      exact ⟨a, vs, rfl, .inl ⟨h1, PostO.tup A h2 q⟩⟩
  | _ => exact q.elim
def gList : D → Store → Option (D × Store) := fun d M => match seqM M d with
  | some l => some (.ref M.length, M ++ [.lst l])
  | none => none
theorem cl_list : SCl X (.type "list") (op1 gList) := cl_one call_list_of fun ι M H d x Q A r q => by
  unfold gList at q
  cases el : seqM M d with
  | none => rw [el] at q; exact q.elim
  | some l =>
    obtain ⟨a, vs, rfl, h1, h2⟩ := seq_get A r el
    rw [el] at q
    exact ⟨a, vs, rfl, h1, PostO.lst A h2 q⟩
/-! list(range(n)), tuple(range(n)) -/
def rgOk (a b : Int) : Bool := decide (-(2 ^ 62) ≤ a ∧ a < 2 ^ 62 ∧ -(2 ^ 62) ≤ b ∧ b < 2 ^ 62 ∧ (b - a).toNat ≤ 2 ^ 24)
theorem reps_rg {K : PySem.W.Frag} {ι : List Addr} {H : Hp} (a b : Int) : Reps K ι H (rngD a b) (rgV a b) := by
  unfold rngD rgV
  generalize List.range (b - a).toNat = l
  induction l with
  | nil => simp only [List.map_nil, Reps]
  | cons i l ih => simp only [List.map_cons, Reps]; exact ⟨_, _, rfl, by simp only [Rep], ih⟩
def eLRg1 (f : EF) : EF := fun env M => (f env M).bind fun d M1 => match d with
  | .int n => if rgOk 0 n = true then .ok (.ref M1.length) (M1 ++ [.lst (rngD 0 n)]) else .bad
  | _ => .bad
theorem se_listRg1 {a : Expr} {p pos p2 pos2 : Pos} {f : EF} (hc : X.calm = true) (hg : Gl X "list") (hm : X.mg "list" = none) (hg2 : Gl X "range") (hm2 : X.mg "range" = none) (ha : SE X W a f) (na : starEach [a] X.env = (false, eval a X.env) :: starEach [] X.env := by rfl)
    (nb : starEach [.Call (.Name "range" p2) [a] [] pos2] X.env = (false, eval (.Call (.Name "range" p2) [a] [] pos2) X.env) :: starEach [] X.env := by rfl) : SE X W (.Call (.Name "list" p) [.Call (.Name "range" p2) [a] [] pos2] [] pos) (eLRg1 f) :=
  (pe_listRg hc hg hm (prg_1 hg2 hm2 ha na) nb).imp fun σ H Q h => by
    obtain ⟨ι, M, env, A, E, h⟩ := h
    refine tE.mono (tE.seq A E h) fun x H1 ⟨ι1, M1, d, s1, A1, E1, r1, _, h1⟩ => ?_
    cases d with
    | int n =>
      simp only [Rep] at r1
      simp only at h1
      split at h1
      · rename_i hk
        exact ⟨n, r1, (by unfold rgOk at hk; have := of_decide_eq_true hk; exact this), PostO.lst A1 (reps_rg 0 n) (Post.ofO (r := some _) h1)⟩
      · exact h1.elim
    | _ => exact h1.elim
end
end Sh

namespace Sh
open PySem L2

/-! ### in, not in -/
def flatD : D → Bool
  | .non => true
  | .bl _ => true
  | .int _ => true
  | .str _ => true
  | _ => false
def eqF : D → D → Bool
  | .non, .non => true
  | .bl a, .bl b => a == b
  | .bl a, .int b => (if a then 1 else 0) == b
  | .int a, .bl b => a == (if b then 1 else 0)
  | .int a, .int b => a == b
  | .str a, .str b => a == b
  | _, _ => false
theorem flat_rep {K : PySem.W.Frag} {ι : List Addr} {H : Hp} {d : D} {v : V} (r : Rep K ι H d v) (f : flatD d = true) : flatV v = true := by
  cases d <;> first | (simp only [Rep] at r; subst r; rfl) | cases f
theorem eqF_rep {K : PySem.W.Frag} {ι : List Addr} {H : Hp} {d e : D} {v u : V} (r : Rep K ι H d v) (r2 : Rep K ι H e u) (f : flatD d = true) (f2 : flatD e = true) : eqV v u = eqF d e := by
  cases d <;> first | (simp only [Rep] at r; subst r; cases e <;> first | (simp only [Rep] at r2; subst r2; rfl) | cases f2) | cases f
theorem flats_rep {K : PySem.W.Frag} {ι : List Addr} {H : Hp} {x : D} {xv : V} (rx : Rep K ι H x xv) (fx : flatD x = true) : ∀ {l : List D} {vs : List V}, Reps K ι H l vs → l.all flatD = true → vs.all flatV = true ∧ inV xv vs = l.any fun y => eqF y x
  | [], vs, r, f => by simp only [Reps] at r; subst r; exact ⟨rfl, rfl⟩
  | d :: l, vs, r, f => by
    simp only [Reps] at r
    obtain ⟨v, q, rfl, h1, h2⟩ := r
    simp only [List.all_cons, Bool.and_eq_true] at f
    obtain ⟨a, b⟩ := flats_rep rx fx h2 f.2
    refine ⟨by simp [List.all_cons, flat_rep h1 f.1, a], ?_⟩
    unfold inV at b ⊢
    rw [List.any_cons, List.any_cons, eqF_rep h1 rx f.1 fx, b]
def inSeq (M : Store) (x y : D) : Option Bool := match y with
  | .tup l => if (flatD x && l.all flatD) = true then some (l.any fun z => eqF z x) else none
  | .ref n => match lstM M n with
    | some l => if (flatD x && l.all flatD) = true then some (l.any fun z => eqF z x) else match pyd M 8 x, pyd M 9 (.ref n) with
      | some d, some (.list ds) => if (SeqAt.shaped d && SeqAt.shaped (.list ds)) = true then some (ds.any fun z => PyData.eqv z d) else none
      | _, _ => none
    | none => none
  | _ => none
def oIn (neg : Bool) : O2 := fun x y M => match y with
  | .ref n => match dctM M n with
    | some _ => oInD neg x y M
    | none => (inSeq M x y).map fun b => (.bl (if neg then !b else b), M)
  | _ => (inSeq M x y).map fun b => (.bl (if neg then !b else b), M)
def rInD2 (K : PySem.W.Frag) (neg : Bool) : R2 := fun x y H Q => ∃ d ds, Dp K H x d ∧ Dp K H y (.list ds) ∧ SeqAt.shaped d = true ∧ SeqAt.shaped (.list ds) = true ∧ Q (.bl (if neg then !(ds.any fun z => PyData.eqv z d) else ds.any fun z => PyData.eqv z d)) H
section
variable {X : Cx} {W : WX}
theorem inSeq_of {neg : Bool} {ι : List Addr} {M : Store} {H : Hp} {d e : D} {x y : V} {Q : VK} (A : Abs X.K ι H X.prog X.w M) (r : Rep X.K ι H d x) (r2 : Rep X.K ι H e y) (q : PostO (cgd X) ι H ((inSeq M d e).map fun b => (.bl (if neg then !b else b), M)) Q) :
    rIn X.K neg x y H Q ∨ rInD2 X.K neg x y H Q := by
  cases em : inSeq M d e with
  | none => rw [em] at q; exact q.elim
  | some b =>
    rw [em] at q
    have qq : Q (.bl (if neg then !b else b)) H := q ι H _ Step.refl A (by simp only [Rep])
    cases e with
    | tup l =>
      simp only [inSeq] at em
      split at em
      · rename_i hf
        simp only [Bool.and_eq_true] at hf
        simp only [Rep] at r2
        obtain ⟨p, vs, rfl, h1, h2⟩ := r2
        obtain ⟨a, b'⟩ := flats_rep r hf.1 h2 hf.2
        cases em
        exact .inl ⟨p, vs, rfl, .inr h1, flat_rep r hf.1, a, by rw [b']; exact qq⟩
      · cases em
    | ref n =>
      have r20 := r2
      simp only [Rep] at r2
      obtain ⟨a, ea, rfl⟩ := r2
      simp only [inSeq] at em
      cases el : lstM M n with
      | none => rw [el] at em; cases em
      | some l =>
        simp only [el] at em
        obtain ⟨vs, h1, h2⟩ := lst_get A ea el
        split at em
        · rename_i hf
          simp only [Bool.and_eq_true] at hf
          obtain ⟨a', b'⟩ := flats_rep r hf.1 h2 hf.2
          cases em
          exact .inl ⟨a, vs, rfl, .inl h1, flat_rep r hf.1, a', by rw [b']; exact qq⟩
        · cases e1 : pyd M 8 d with
          | none => rw [e1] at em; cases em
          | some dd =>
            cases e2 : pyd M 9 (.ref n) with
            | none => rw [e1, e2] at em; cases em
            | some ee =>
              rw [e1, e2] at em
              cases ee with
              | list ds =>
                simp only at em
                split at em
                · rename_i hs
                  simp only [Bool.and_eq_true] at hs
                  cases em
                  exact .inr ⟨dd, ds, dp_of (G := cgd X) A 8 _ _ _ r e1, dp_of (G := cgd X) A 9 _ _ _ r20 e2, hs.1, hs.2, qq⟩
                · cases em
              | _ => cases em
    | _ => cases em
theorem so_in (hu : X.A.units + 65 < cLine) : SOp X (compareOp .In) (oIn false) := (OpR.or (so_inD (by omega)) (OpR.or op_in_seq (op_inD hu))).imp fun x y H Q ⟨ι, M, d, e, A, r, r2, q⟩ => by
  unfold oIn at q
  have fin : PostO (cgd X) ι H ((inSeq M d e).map fun b => (.bl (if false then !b else b), M)) Q → rIn X.K false x y H Q ∨ rInD X.K x y H Q := fun q => (inSeq_of A r r2 q).imp id fun ⟨a, b, h1, h2, h3, h4, h5⟩ => ⟨a, b, h1, h2, h3, h4, h5⟩
  cases e with
  | ref n =>
    simp only at q
    cases em : dctM M n with
    | none => rw [em] at q; exact .inr (fin q)
    | some kvs => rw [em] at q; exact .inl ⟨ι, M, d, .ref n, A, r, r2, q⟩
  | _ => exact .inr (fin q)
theorem so_notIn (hu : X.A.units + 65 < cLine) : SOp X (compareOp .NotIn) (oIn true) := (OpR.or (so_notInD (by omega)) (OpR.or op_notIn_seq (op_notInD hu))).imp fun x y H Q ⟨ι, M, d, e, A, r, r2, q⟩ => by
  unfold oIn at q
  have fin : PostO (cgd X) ι H ((inSeq M d e).map fun b => (.bl (if true then !b else b), M)) Q → rIn X.K true x y H Q ∨ rNotInD X.K x y H Q := fun q => (inSeq_of A r r2 q).imp id fun ⟨a, b, h1, h2, h3, h4, h5⟩ => ⟨a, b, h1, h2, h3, h4, h5⟩
  cases e with
  | ref n =>
    simp only at q
    cases em : dctM M n with
    | none => rw [em] at q; exact .inr (fin q)
    | some kvs => rw [em] at q; exact .inl ⟨ι, M, d, .ref n, A, r, r2, q⟩
  | _ => exact .inr (fin q)
/-! ### is, is not -/
def oIs (neg : Bool) : O2 := fun x y M => match y with
  | .non => some (.bl (if neg then !decide (x = .non) else decide (x = .non)), M)
  | .bl b => match x with
    | .bl a => some (.bl (if neg then !decide (a = b) else decide (a = b)), M)
    | _ => none
  | _ => none
theorem is_of {neg : Bool} {ι : List Addr} {M : Store} {H : Hp} {d e : D} {x y : V} {Q : VK} (A : Abs X.K ι H X.prog X.w M) (r : Rep X.K ι H d x) (r2 : Rep X.K ι H e y) (q : PostO (cgd X) ι H (oIs neg d e M) Q) :
    (y = .non ∧ Q (.bl (if neg then !decide (x = .non) else decide (x = .non))) H) ∨ (∃ a b : Bool, x = .bl a ∧ y = .bl b ∧ Q (.bl (if neg then !decide (a = b) else decide (a = b))) H) := by
  cases e with
  | non =>
    simp only [Rep] at r2
    have qq := q ι H _ Step.refl A (by simp only [Rep]; exact rfl)
    refine .inl ⟨r2, ?_⟩
    have : decide (x = V.non) = decide (d = D.non) := by
      cases d with
      | non => simp only [Rep] at r; subst r; rfl
      | bl b => simp only [Rep] at r; subst r; rfl
      | int b => simp only [Rep] at r; subst r; rfl
      | str b => simp only [Rep] at r; subst r; rfl
      | tup l => simp only [Rep] at r; obtain ⟨_, _, rfl, _⟩ := r; rfl
      | ref n => simp only [Rep] at r; obtain ⟨_, _, rfl⟩ := r; rfl
      | ty n => simp only [Rep] at r; subst r; rfl
    rw [this]; exact qq
  | bl b =>
    cases d with
    | bl a =>
      simp only [Rep] at r r2
      exact .inr ⟨a, b, r, r2, q ι H _ Step.refl A (by simp only [Rep])⟩
    | _ => exact q.elim
  | _ => exact q.elim
theorem so_is : SOp X (compareOp .Is) (oIs false) := (OpR.or op_isN op_isBl).imp fun x y H Q ⟨ι, M, d, e, A, r, r2, q⟩ => by
  rcases is_of A r r2 q with ⟨h1, h2⟩ | ⟨a, b, h1, h2, h3⟩
  · exact .inl ⟨h1, h2⟩
  · exact .inr ⟨a, b, h1, h2, h3⟩
theorem so_isNot : SOp X (compareOp .IsNot) (oIs true) := (OpR.or op_notN op_notBl).imp fun x y H Q ⟨ι, M, d, e, A, r, r2, q⟩ => by
  rcases is_of A r r2 q with ⟨h1, h2⟩ | ⟨a, b, h1, h2, h3⟩
  · exact .inl ⟨h1, h2⟩
  · exact .inr ⟨a, b, h1, h2, h3⟩
/-! ### (*a, b) -/
def aStar (a : EF) (r : AF) : AF := fun σ M => (a σ M).bind fun x M1 => match seqM M1 x with
  | some l => (r σ M1).bind fun xs M2 => .ok (l ++ xs) M2
  | none => .bad
theorem Reps.app {K : PySem.W.Frag} {ι : List Addr} {H : Hp} {r : List D} {us : List V} (h2 : Reps K ι H r us) : ∀ {l : List D} {vs : List V}, Reps K ι H l vs → Reps K ι H (l ++ r) (vs ++ us)
  | [], vs, h => by simp only [Reps] at h; subst h; exact h2
  | d :: l, vs, h => by
    simp only [Reps] at h
    obtain ⟨v, q, rfl, a, b⟩ := h
    simp only [List.cons_append, Reps]
    exact ⟨v, q ++ us, rfl, a, Reps.app h2 b⟩
theorem sa_star {e : Expr} {es : List Expr} {f : EF} {fr : AF} {p : Pos} (he : SE X W e f) (hr : SA X W es fr) (hs : starEach (.Starred e p :: es) X.env = (true, eval e X.env) :: starEach es X.env := by rfl) : SA X W (.Starred e p :: es) (aStar f fr) :=
  (StX.pa_star he hr hs).imp fun σ H Q h => by
    obtain ⟨ι, M, env, A, E, h⟩ := h
    refine tE.mono (tE.seq A E h) fun x H1 ⟨ι1, M1, d, s1, A1, E1, r1, _, h1⟩ => ?_
    cases el : seqM M1 d with
    | none => rw [el] at h1; exact h1.elim
    | some l =>
      rw [el] at h1
      obtain ⟨a, vs, rfl, h2, h3⟩ := seq_get A1 r1 el
      refine ⟨a, vs, rfl, h2.symm, tA.mono (tA.seq A1 E1 h1) fun ys H2 ⟨ι2, M2, ds, s2, A2, E2, r2, _, h4⟩ => ?_⟩
      exact h4 ι2 H2 _ Step.refl A2 (Reps.app r2 (h3.ext (s2.ext A1.nt)))
/-! ### l.index(x) -/
def idxF (x : D) : List D → Nat → Option Nat
  | [], _ => none
  | y :: l, k => if eqF y x = true then some k else idxF x l (k + 1)
def idxP (x : PyData) : List PyData → Nat → Option Nat
  | [], _ => none
  | y :: l, k => if PyData.eqv y x = true then some k else idxP x l (k + 1)
theorem idxF_spec {x : D} : ∀ {l : List D} {k j : Nat}, idxF x l k = some j → k ≤ j ∧ (∃ z, l[j - k]? = some z ∧ eqF z x = true) ∧ ∀ (m : Nat) (z' : D), m < j - k → l[m]? = some z' → eqF z' x = false
  | [], k, j, h => by cases h
  | y :: l, k, j, h => by
    unfold idxF at h
    split at h
    · rename_i c
      cases h
      exact ⟨Nat.le_refl _, ⟨y, by simp, c⟩, fun m z' hm => by omega⟩
    · rename_i c
      obtain ⟨a, ⟨z, hz, hz2⟩, b⟩ := idxF_spec h
      refine ⟨by omega, ⟨z, by rw [show j - k = (j - (k + 1)) + 1 by omega]; simpa using hz, hz2⟩, fun m z' hm hz' => ?_⟩
      cases m with
      | zero => simp at hz'; subst hz'; simpa using c
      | succ m => exact b m z' (by omega) (by simpa using hz')
theorem idxP_spec {x : PyData} : ∀ {l : List PyData} {k j : Nat}, idxP x l k = some j → k ≤ j ∧ (∃ z, l[j - k]? = some z ∧ PyData.eqv z x = true) ∧ ∀ (m : Nat) (z' : PyData), m < j - k → l[m]? = some z' → PyData.eqv z' x = false
  | [], k, j, h => by cases h
  | y :: l, k, j, h => by
    unfold idxP at h
    split at h
    · rename_i c
      cases h
      exact ⟨Nat.le_refl _, ⟨y, by simp, c⟩, fun m z' hm => by omega⟩
    · rename_i c
      obtain ⟨a, ⟨z, hz, hz2⟩, b⟩ := idxP_spec h
      refine ⟨by omega, ⟨z, by rw [show j - k = (j - (k + 1)) + 1 by omega]; simpa using hz, hz2⟩, fun m z' hm hz' => ?_⟩
      cases m with
      | zero => simp at hz'; subst hz'; simpa using c
      | succ m => exact b m z' (by omega) (by simpa using hz')
def oIndex : OM := fun o ds M => match o, ds with
  | .ref n, [x] => match lstM M n with
    | some l => if (flatD x && l.all flatD) = true then (idxF x l 0).map fun j => (.int (j : Nat), M) else match pyd M 8 x, pyd M 9 (.ref n) with
      | some d, some (.list ps) => if (SeqAt.shaped d && SeqAt.shaped (.list ps)) = true then (idxP d ps 0).map fun j => (.int (j : Nat), M) else none
      | _, _ => none
    | none => none
  | _, _ => none
theorem Reps.back {K : PySem.W.Frag} {ι : List Addr} {H : Hp} : ∀ {l : List D} {vs : List V} {i : Nat} {v : V}, Reps K ι H l vs → vs[i]? = some v → ∃ d, l[i]? = some d ∧ Rep K ι H d v
  | [], vs, i, v, h, e => by simp only [Reps] at h; subst h; simp at e
  | x :: l, vs, i, v, h, e => by
    simp only [Reps] at h
    obtain ⟨u, r, rfl, h1, h2⟩ := h
    cases i with
    | zero => simp at e; subst e; exact ⟨x, rfl, h1⟩
    | succ i => simp at e; obtain ⟨d, e2, h3⟩ := Reps.back h2 e; exact ⟨d, by simpa using e2, h3⟩
theorem mt_idx (hu : X.A.units + 65 < cLine) : MtR X "list.index" (rOM (cgd X) oIndex) := (MtR.or mt_index (mt_indexD hu)).imp fun x xs H Q ⟨ι, M, d, ds, A, r, rs, q⟩ => by
  match d, ds, r, rs, q with
  | .ref n, [y], r, rs, q =>
    have r0 := r
    simp only [Rep] at r
    obtain ⟨a, ea, rfl⟩ := r
    obtain ⟨yv, rfl, ry⟩ := reps_one rs
    simp only [oIndex] at q
    cases el : lstM M n with
    | none => rw [el] at q; exact q.elim
    | some l =>
      simp only [el] at q
      obtain ⟨vs, h1, h2⟩ := lst_get A ea el
      split at q
      · rename_i hf
        simp only [Bool.and_eq_true] at hf
        cases ej : idxF y l 0 with
        | none => rw [ej] at q; exact q.elim
        | some j =>
          rw [ej] at q
          obtain ⟨_, ⟨z, hz, hz2⟩, hno⟩ := idxF_spec ej
          rw [Nat.sub_zero] at hz hno
          have fl : ∀ {z : D} {i : Nat}, l[i]? = some z → flatD z = true := fun e => List.all_eq_true.mp hf.2 _ (List.mem_of_getElem? e)
          obtain ⟨zv, e3, rz⟩ := h2.get hz
          refine .inl ⟨a, vs, yv, j, zv, rfl, rfl, h1, flat_rep ry hf.1, (flats_rep ry hf.1 h2 hf.2).1, e3, by rw [eqF_rep rz ry (fl hz) hf.1]; exact hz2, fun m z' hm hz' => ?_, q ι H _ Step.refl A (by simp only [Rep])⟩
          obtain ⟨d', hd', rd'⟩ := h2.back hz'
          rw [eqF_rep rd' ry (fl hd') hf.1]
          exact hno m d' hm hd'
      · cases e1 : pyd M 8 y with
        | none => rw [e1] at q; exact q.elim
        | some dd =>
          cases e2 : pyd M 9 (.ref n) with
          | none => rw [e1, e2] at q; exact q.elim
          | some ee =>
            rw [e1, e2] at q
            cases ee with
            | list ps =>
              simp only at q
              split at q
              · rename_i hs
                simp only [Bool.and_eq_true] at hs
                cases ej : idxP dd ps 0 with
                | none => rw [ej] at q; exact q.elim
                | some j =>
                  rw [ej] at q
                  obtain ⟨_, ⟨z, hz, hz2⟩, hno⟩ := idxP_spec ej
                  rw [Nat.sub_zero] at hz hno
                  exact .inr ⟨a, yv, dd, ps, j, z, rfl, rfl, dp_of (G := cgd X) A 9 _ _ _ r0 e2, dp_of (G := cgd X) A 8 _ _ _ ry e1, hs.2, hs.1, hz, hz2, hno, q ι H _ Step.refl A (by simp only [Rep])⟩
              · exact q.elim
            | _ => exact q.elim
  | .ref n, [], r, rs, q => exact q.elim
  | .ref n, _ :: _ :: _, r, rs, q => exact q.elim
  | .non, _, r, rs, q => exact q.elim
  | .bl _, _, r, rs, q => exact q.elim
  | .int _, _, r, rs, q => exact q.elim
  | .str _, _, r, rs, q => exact q.elim
  | .tup _, _, r, rs, q => exact q.elim
  | .ty _, _, r, rs, q => exact q.elim
end
end Sh

namespace Sh
open PySem L2

theorem tk0 {X : Cx} : Takes X W0 := fun u s' ⟨_, _, _, _, _, _, _, _, _, _, _, _, _, _, _, _, w⟩ => w.elim
theorem body_len_own {prog : Program} {w : World} {A : Around} {E : Value → Shared → Prop} {s : Shared} {K : PySem.W.Frag} {x C f : Addr} {ox : Obj} {od : Option Obj} {Q : Value → Shared → Prop} (X : K.In s.heap) (I : PySem.W.InstAt s.heap x ox C od) (hs : PySem.W.findIn K (.ref C) "__len__" = some (some (.ref f))) (hf : PySem.W.isFn K (.ref f) = true)
    (h : wpAny (model prog w) A (call (.ref f) [.ref x]) (fun r s1 => ∃ n t, r = Value.int n t ∧ 0 ≤ n ∧ n < 2 ^ 63 ∧ ∀ t' tk, Q (.int n t') { s1 with toks := tk }) E s) :
    wpAny (model prog w) A (Builtin.«len» ⟨[.ref x], []⟩) (fun fin s' => ∃ r, fin = .done (.ret r) ∧ Q r s') E s := by
  unfold Builtin.«len»
  refine wpAny_bind (m := oneArg "len" _) (wpAny_pure ?_)
  refine wpAny_bind (m := callSpecial? (.ref x) (Str.ofString "__len__")) (PySem.W.special_fn X I hs (beq_iff_eq.mp hf) (wpAny_mono h (fun r s' hr => ?_) fun _ _ y => y))
  obtain ⟨n, t, rfl, h0, h1, hq⟩ := hr
  refine wpAny_bind (wpAny_holding (wpAny_pure ?_))
  refine wpAny_bind (wpAny_letGo ?_)
  show wpAny _ _ (if n < 0 then _ else _) _ _ _
  rw [if_neg (by omega)]
  show wpAny _ _ (if n ≥ 2 ^ 63 then _ else _) _ _ _
  rw [if_neg (by omega)]
  exact wpAny_bind (wpAny_mkInt (wpAny_pure ⟨_, rfl, hq _ _⟩))
theorem call_len_own {prog : Program} {w : World} {A : Around} {E : Value → Shared → Prop} {s : Shared} {K : PySem.W.Frag} {x C f : Addr} {ox : Obj} {od : Option Obj} {Q : Value → Shared → Prop} (X : K.In s.heap) (I : PySem.W.InstAt s.heap x ox C od) (hs : PySem.W.findIn K (.ref C) "__len__" = some (some (.ref f))) (hf : PySem.W.isFn K (.ref f) = true)
    (h : wpAny (model prog w) A.in1 (call (.ref f) [.ref x]) (fun r s1 => ∃ n t, r = Value.int n t ∧ 0 ≤ n ∧ n < 2 ^ 63 ∧ ∀ t' tk, Q (.int n t') { s1 with toks := tk }) E s) :
    wpAny (model prog w) A (call (.builtin "len") [.ref x]) Q E s :=
  Calls.call_function_entry kind_len plain_len entry_len (args_len1 _) (body_len_own X I hs hf h)
/-! ### len -/
def lenR (disp : Nat → Option FF) (d : D) (M : Store) : Res D := match d with
  | .str z => if z.length ≤ sizeLine then .ok (.int z.length) M else .bad
  | .tup l => .ok (.int l.length) M
  | .ref n => match M[n]? with
    | some (.lst l) => .ok (.int l.length) M
    | some (.fz l) => .ok (.int l.length) M
    | some (.dct l) => .ok (.int l.length) M
    | some (.dlk l) => .ok (.int l.length) M
    | some (.ins c _) => match disp c with
      | some ff => match ff [d] M with
        | .ok (.int i) M' => if 0 ≤ i ∧ i < 2 ^ 63 then .ok (.int i) M' else .bad
        | _ => .bad
      | none => .bad
    | _ => .bad
  | _ => .bad
def eLen (disp : Nat → Option FF) (fa : EF) : EF := fun env M => (fa env M).bind fun d M1 => lenR disp d M1
abbrev EF0 : XK := fun _ _ _ => False
def rLenR (G : Gd) (disp : Nat → Option FF) : List V → Hp → VK → Prop := fun xs H Q => ∃ ι M d x, xs = [x] ∧ Abs G.K ι H G.P G.w M ∧ Rep G.K ι H d x ∧ PostF G ι H (lenR disp d M) Q EF0
section
variable {X : Cx} {W : WX}
theorem pass00 : Passes (L2.CX X.prog X.w) X EF0 := fun pins σ H s e s' I c => tk0 e s' (L2.XE.of_call I (fun _ _ _ h => h) c)
theorem fn_raw {k n : Nat} {f : Addr} {ff : FF} (F : Fn X k f n ff) : FnR X.prog X.w X.K X.mg X.base (L2.CX X.prog X.w) k f (spF (cgd X) n ff) := by
  obtain ⟨fd, ps, F, hb⟩ := F
  exact (F.raw hb .nil).imp fun vs H Q E h => by rw [List.append_nil]; exact h
theorem cr_lenR {disp : Nat → Option FF} {k : Nat} (hd : ∀ c ff, disp c = some ff → ∃ f, Meth X.K (ca X.K c) "__len__" f ∧ Fn X k f 1 ff) (hr : Room (k + 1) X.A) : CallR X (.builtin "len") (rLenR (cgd X) disp) := by
  intro pins s σ H xs us Q I r h
  obtain ⟨ι, M, d, x, rfl, A, rd, h⟩ := h
  have seq : ∀ (n : Nat), (∃ a vs, x = .ref a ∧ (SqL X.K H a vs ∨ SqT X.K H a vs) ∧ vs.length = n) → Q (.int n) H → wpAny (model X.prog X.w) X.A (call (.builtin "len") us) (EP X pins σ Q) X.xe s := by
    rintro n ⟨a, vs, rfl, h1, rfl⟩ q
    exact call_len_seq pins s σ H _ us Q I r ⟨a, vs, rfl, h1, q⟩
  have one : ∀ (i : Int) , (∀ (Q' : VK), PostF (cgd X) ι H (.ok (.int i) M) Q' EF0 → Q' (.int i) H) := fun i Q' q => q ι H _ Step.refl A (by simp only [Rep])
  cases d with
  | str z =>
    simp only [Rep] at rd
    subst rd
    simp only [lenR] at h
    split at h
    · rename_i hz
      exact call_len pins s σ H _ us Q I r ⟨.str z, z.length, rfl, ⟨hz, rfl⟩, one _ Q h⟩
    · exact h.elim
  | tup l =>
    simp only [Rep] at rd
    obtain ⟨p, vs, rfl, h1, h2⟩ := rd
    exact seq l.length ⟨p, vs, rfl, .inr h1, h2.length.symm⟩ (one _ Q h)
  | ref n =>
    have rd0 := rd
    simp only [Rep] at rd
    obtain ⟨a, ea, rfl⟩ := rd
    simp only [lenR] at h
    have dict : ∀ (kvs : List (D × D)) (o : Obj), s.heap.get? a = some o → DctAt X.K ι H X.prog X.w a kvs o → Q (.int (kvs.length : Nat)) H → wpAny (model X.prog X.w) X.A (call (.builtin "len") us) (EP X pins σ Q) X.xe s := by
      intro kvs o ho da q
      obtain ⟨xs, hx, pr, hl, hz, hsm⟩ := dct_of I ho da
      rw [Vals.ref1 r]
      rw [sizeLine_eq] at hz
      refine call_len_dictH hsm hx (by omega) ?_
      rw [hl]
      exact ⟨.int (kvs.length : Nat), H, I.tok _, ⟨_, rfl⟩, q⟩
    cases e : M[n]? with
    | none => rw [e] at h; exact h.elim
    | some o =>
      rw [e] at h
      have ho := A.obj n a o ea e
      cases o with
      | lst l =>
        obtain ⟨vs, h1, h2⟩ := sq_lst ho
        exact seq l.length ⟨a, vs, rfl, .inl h1, h2.length.symm⟩ (one _ Q h)
      | fz l =>
        obtain ⟨vs, h1, h2⟩ := sq_fz ho
        exact seq l.length ⟨a, vs, rfl, .inl h1, h2.length.symm⟩ (one _ Q h)
      | dct kvs =>
        obtain ⟨o, h1, h2⟩ := ho
        exact dict kvs o (dct_at I h1) h2 (one _ Q h)
      | dlk kvs =>
        obtain ⟨o, h1, h2⟩ := ho
        exact dict kvs o (dlk_at I h1).2 h2 (one _ Q h)
      | ins c fs =>
        simp only at h
        cases ec : disp c with
        | none => rw [ec] at h; exact h.elim
        | some ff =>
          simp only [ec] at h
          obtain ⟨f, mt, F⟩ := hd c ff ec
          obtain ⟨dx, vs, h1, h2⟩ := ho
          obtain ⟨mA, O, _⟩ := ins_get I.hok h1
          obtain ⟨od, J, _⟩ := O.look
          rw [Vals.ref1 r]
          refine call_len_own I.kIn J mt.at_ mt.fn (wpAny_mono (wpAny_call (SlX.run_at (Q := fun z H' => ∃ i, z = .int i ∧ 0 ≤ i ∧ i < 2 ^ 63 ∧ Q z H') (us := [.ref a]) (ws := [.ref a]) (fn_raw F) hr.in1 I.env0.in1 pass00 I (.cons rfl .nil) ?_)) (fun u s' z => ?_) fun _ _ x => x)
          · refine ⟨ι, M, [.ref n], A, Reps.one rd0, rfl, ?_⟩
            cases ef : ff [.ref n] M with
            | bad => rw [ef] at h; exact h.elim
            | exc _ _ _ => rw [ef] at h; exact h.elim
            | ok y M' =>
              rw [ef] at h
              cases y with
              | int i =>
                simp only at h
                split at h
                · rename_i hi
                  intro ι' H' v st Ab rv
                  have hv := rv
                  simp only [Rep] at hv
                  exact ⟨i, hv, hi.1, hi.2, h ι' H' v st Ab rv⟩
                · exact h.elim
              | _ => exact h.elim
          · obtain ⟨z', H', I', rz, i, rfl, h0, h3, q⟩ := z
            obtain ⟨t, e⟩ := (show ∃ t, u = Value.int i t from rz)
            exact ⟨i, t, e, h0, h3, fun t' tk => ⟨.int i, H', I'.tok _, ⟨_, rfl⟩, q⟩⟩
      | _ => exact h.elim
  | _ => exact h.elim
theorem lenR_nox {disp : Nat → Option FF} {d : D} {M : Store} {c : Nat} {fs : List (Str × D)} {M' : Store} : lenR disp d M ≠ .exc c fs M' := by
  intro h
  unfold lenR at h
  repeat' split at h
  all_goals cases h
theorem se_len {e : Expr} {fe : EF} {p pos : Pos} {disp : Nat → Option FF} {k : Nat} (hd : ∀ c ff, disp c = some ff → ∃ f, Meth X.K (ca X.K c) "__len__" f ∧ Fn X k f 1 ff) (hr : Room (k + 1) X.A) (hg : Gl X "len") (hm : X.mg "len" = none) (ha : SE X W e fe)
    (he : starEach [e] X.env = (false, eval e X.env) :: starEach [] X.env := by rfl) : SE X W (.Call (.Name "len" p) [e] [] pos) (eLen disp fe) :=
  (pe_callB (cr_lenR hd hr) hg hm boot_len (pa_cons ha pa_nil he) (by decide) (by decide) he rfl).imp fun σ H Q h => by
    obtain ⟨ι, M, env, A, E, h⟩ := h
    refine tE.mono (tE.seq A E h) fun x H1 ⟨ι1, M1, d, s1, A1, E1, r1, _, h1⟩ => ?_
    refine ⟨ι1, M1, d, x, rfl, A1, r1, ?_⟩
    cases er : lenR disp d M1 with
    | ok y M' => rw [er] at h1; exact h1
    | exc c fs M' => exact absurd er lenR_nox
    | bad => rw [er] at h1; exact h1

/-! ### isinstance -/
inductive Kd where
  | ty (n : String) | cls (c : Nat)
  deriving DecidableEq
def Kd.val (K : PySem.W.Frag) : Kd → Value
  | .ty n => .type n
  | .cls c => .ref (ca K c)
def Kd.v (K : PySem.W.Frag) : Kd → V
  | .ty n => .ty n
  | .cls c => .ref (ca K c)
/-- the type of a value -/
def kdOf (M : Store) : D → Option Kd
  | .non => some (.ty "NoneType")
  | .bl _ => some (.ty "bool")
  | .int _ => some (.ty "int")
  | .str _ => some (.ty "str")
  | .tup _ => some (.ty "tuple")
  | .ref n => match M[n]? with
    | some (.lst _) => some (.ty "list")
    | some (.fz _) => some (.ty "list")
    | some (.dct _) => some (.ty "dict")
    | some (.dlk _) => some (.ty "dict")
    | some (.set _) => some (.ty "set")
    | some (.ins c _) => some (.cls c)
    | _ => none
  | .ty _ => none
def tyNames : List String := ["NoneType", "bool", "int", "str", "tuple", "list", "dict", "set"]
/-- the answer: cs the own classes that are known not to be below each other -/
def isKd (cs : List Nat) : Kd → Kd → Option Bool
  | .ty a, .ty b => if (tyNames.contains a && tyNames.contains b) = true then some (a == b || (a == "bool" && b == "int")) else none
  | .ty a, .cls c => if (tyNames.contains a && cs.contains c) = true then some false else none
  | .cls c, .ty a => if (tyNames.contains a && cs.contains c) = true then some false else none
  | .cls c, .cls e => if (cs.contains c && cs.contains e) = true then some (c == e) else none
/-- what K must say of the own classes -/
structure ClsOk (K : PySem.W.Frag) (c : Nat) : Prop where
  cl : Cls K (ca K c)
  ha : PySem.W.findIn K (.ref (ca K c)) "__class__" = some (some (.builtin "object.__class__"))
  hn : PySem.W.specialIn K (.builtin "object.__class__") "__get__" = some (some (.builtin "getset_descriptor.__get__"))
  htk : PySem.W.takesIn K (.builtin "object.__class__") = some true
  hm : PySem.W.mroIn K (ca K c) (.type "object") = some true
structure IsiOk (K : PySem.W.Frag) (cs : List Nat) : Prop where
  ok : ∀ c ∈ cs, ClsOk K c
  own : ∀ c ∈ cs, ∀ e ∈ cs, PySem.W.kitOne K (.ref (ca K c)) (.ref (ca K e)) = some (c == e)
  ty : ∀ c ∈ cs, ∀ a ∈ tyNames, PySem.W.kitOne K (.type a) (.ref (ca K c)) = some false
  yt : ∀ c ∈ cs, ∀ a ∈ tyNames, PySem.W.kitOne K (.ref (ca K c)) (.type a) = some false
def clsB (K : PySem.W.Frag) (c : Nat) : Bool := (He.Fa.cls (cnm c)).ok K && (He.eqO (PySem.W.findIn K (.ref (ca K c)) "__class__") (some (some (.builtin "object.__class__"))) &&
  (He.eqO (PySem.W.specialIn K (.builtin "object.__class__") "__get__") (some (some (.builtin "getset_descriptor.__get__"))) && (decide (PySem.W.takesIn K (.builtin "object.__class__") = some true) && decide (PySem.W.mroIn K (ca K c) (.type "object") = some true))))
theorem clsB_ok {K : PySem.W.Frag} {c : Nat} (h : clsB K c = true) : ClsOk K c := by
  obtain ⟨h1, h⟩ := He.ba h
  obtain ⟨h2, h⟩ := He.ba h
  obtain ⟨h3, h⟩ := He.ba h
  obtain ⟨h4, h5⟩ := He.ba h
  exact ⟨He.cls_ok h1, He.eqO_ok h2, He.eqO_ok h3, of_decide_eq_true h4, of_decide_eq_true h5⟩
def isiB (K : PySem.W.Frag) (cs : List Nat) : Bool := (cs.all fun c => clsB K c) && ((cs.all fun c => cs.all fun e => decide (PySem.W.kitOne K (.ref (ca K c)) (.ref (ca K e)) = some (c == e))) &&
  ((cs.all fun c => tyNames.all fun a => decide (PySem.W.kitOne K (.type a) (.ref (ca K c)) = some false)) && (cs.all fun c => tyNames.all fun a => decide (PySem.W.kitOne K (.ref (ca K c)) (.type a) = some false))))
theorem isiB_ok {K : PySem.W.Frag} {cs : List Nat} (h : isiB K cs = true) : IsiOk K cs := by
  obtain ⟨h1, h⟩ := He.ba h
  obtain ⟨h2, h⟩ := He.ba h
  obtain ⟨h3, h4⟩ := He.ba h
  refine ⟨fun c m => clsB_ok (List.all_eq_true.mp h1 c m), fun c m e n => ?_, fun c m a n => ?_, fun c m a n => ?_⟩
  · exact of_decide_eq_true (List.all_eq_true.mp (List.all_eq_true.mp h2 c m) e n)
  · exact of_decide_eq_true (List.all_eq_true.mp (List.all_eq_true.mp h3 c m) a n)
  · exact of_decide_eq_true (List.all_eq_true.mp (List.all_eq_true.mp h4 c m) a n)
theorem kitB_all : ∀ a ∈ tyNames, ∀ b ∈ tyNames, kitB a b = some (a == b || (a == "bool" && b == "int")) := by decide +kernel
theorem isKd_ok {K : PySem.W.Frag} {cs : List Nat} (O : IsiOk K cs) {a b : Kd} {r : Bool} (h : isKd cs a b = some r) : PySem.W.kitOne K (a.val K) (b.val K) = some r := by
  have mem : ∀ {x : String} {l : List String}, l.contains x = true → x ∈ l := fun h => by simpa using h
  have memN : ∀ {x : Nat} {l : List Nat}, l.contains x = true → x ∈ l := fun h => by simpa using h
  cases a with
  | ty a =>
    cases b with
    | ty b =>
      simp only [isKd] at h
      split at h
      · rename_i hc
        simp only [Bool.and_eq_true] at hc
        cases h
        exact kit_ty (kitB_all a (mem hc.1) b (mem hc.2))
      · cases h
    | cls c =>
      simp only [isKd] at h
      split at h
      · rename_i hc
        simp only [Bool.and_eq_true] at hc
        cases h
        exact O.ty c (memN hc.2) a (mem hc.1)
      · cases h
  | cls c =>
    cases b with
    | ty a =>
      simp only [isKd] at h
      split at h
      · rename_i hc
        simp only [Bool.and_eq_true] at hc
        cases h
        exact O.yt c (memN hc.2) a (mem hc.1)
      · cases h
    | cls e =>
      simp only [isKd] at h
      split at h
      · rename_i hc
        simp only [Bool.and_eq_true] at hc
        cases h
        exact O.own c (memN hc.1) e (memN hc.2)
      · cases h
def isAny (cs : List Nat) (k : Kd) : List Kd → Option Bool
  | [] => some false
  | t :: r => match isKd cs k t with
    | some true => some true
    | some false => isAny cs k r
    | none => none
theorem isAny_ok {K : PySem.W.Frag} {cs : List Nat} (O : IsiOk K cs) {k : Kd} : ∀ {ts : List Kd} {r : Bool}, isAny cs k ts = some r → PySem.W.kitAny K (k.val K) (ts.map (Kd.val K)) = some r
  | [], r, h => by cases h; rfl
  | t :: ts, r, h => by
    unfold isAny at h
    cases e : isKd cs k t with
    | none => rw [e] at h; cases h
    | some b =>
      rw [e] at h
      refine kitAny_cons (isKd_ok O e) (fun hb => ?_) fun hb => ?_
      · subst hb; exact isAny_ok O h
      · subst hb; cases h; rfl
/-- what isinstance asks of the value -/
theorem kit_rep {pins : List (Addr × Obj)} {σ : St} {H : Hp} {s : Shared} {ι : List Addr} {M : Store} {cs : List Nat} {d : D} {x : V} {u : Value} {k : Kd} (I : Inv X pins σ H s) (A : Abs X.K ι H X.prog X.w M) (O : IsiOk X.K cs) (rd : Rep X.K ι H d x) (rx : RelV x u) (hk : kdOf M d = some k) (hm : ∀ c, k = .cls c → c ∈ cs) :
    ∃ P : Heap → Prop, PySem.W.KitX X.K u (k.val X.K) P ∧ P s.heap ∧ u ≠ .builtin "__main__.__loader__#opaque" := by
  cases d with
  | non => simp only [Rep] at rd; subst rd; cases hk; exact kit_of I rx (.base .non)
  | bl b => simp only [Rep] at rd; subst rd; cases hk; exact kit_of I rx (.base (.bl _))
  | int b => simp only [Rep] at rd; subst rd; cases hk; exact kit_of I rx (.base (.int _))
  | str b => simp only [Rep] at rd; subst rd; cases hk; exact kit_of I rx (.base (.str _))
  | tup l =>
    simp only [Rep] at rd
    obtain ⟨p, vs, rfl, h1, h2⟩ := rd
    cases hk
    rcases h1 with (h1 | ⟨o, h1⟩) | ⟨o, its, n, h1, hc, _⟩
    · exact kit_of I rx (.base (.tup h1))
    · exact kit_of I rx (.fTuple h1)
    · exact kit_of I rx (.kTuple h1 hc)
  | ref n =>
    simp only [Rep] at rd
    obtain ⟨a, ea, rfl⟩ := rd
    cases (show u = Value.ref a from rx)
    simp only [kdOf] at hk
    cases e : M[n]? with
    | none => rw [e] at hk; cases hk
    | some o =>
      rw [e] at hk
      have ho := A.obj n a o ea e
      cases o with
      | lst l => obtain ⟨vs, h1, h2⟩ := ho; cases hk; exact kit_of (x := V.ref a) I rfl (.base (.lst h1))
      | fz l => obtain ⟨vs, o, h1, h2⟩ := ho; cases hk; exact kit_of (x := V.ref a) I rfl (.base (.frz h1))
      | dct kvs => obtain ⟨o, h1, h2⟩ := ho; cases hk; exact ⟨_, PySem.W.kitx_dict, ⟨o, dct_at I h1, h2.2.2.1.1⟩, fun z => nomatch z⟩
      | dlk kvs => obtain ⟨o, h1, h2⟩ := ho; cases hk; exact ⟨_, PySem.W.kitx_dict, ⟨o, (dlk_at I h1).2, h2.2.2.1.1⟩, fun z => nomatch z⟩
      | set l => obtain ⟨S, h1, h2⟩ := ho; cases hk; exact kit_of (x := V.ref a) I rfl (.set h1)
      | ins c fs =>
        obtain ⟨dx, vs, h1, h2⟩ := ho
        cases hk
        have k := O.ok c (hm c rfl)
        exact kit_of (x := V.ref a) I rfl (.base (.ins h1 k.cl k.ha k.hn k.htk k.hm))
      | dead => cases hk
      | exn c fs => cases hk
      | sdc fs => cases hk
  | ty n => cases hk
/-- isinstance(x, C) with one class; with a tuple of classes -/
def isiD (cs : List Nat) (ts : List Kd) (M : Store) (d : D) : Option Bool := match kdOf M d with
  | some (.ty n) => isAny cs (.ty n) ts
  | some (.cls c) => if cs.contains c = true then isAny cs (.cls c) ts else none
  | none => none
def eIsi (cs : List Nat) (ts : List Kd) (fe : EF) : EF := fun env M => (fe env M).bind fun d M1 => match isiD cs ts M1 d with
  | some b => .ok (.bl b) M1
  | none => .bad
theorem isiD_of {cs : List Nat} {ts : List Kd} {M : Store} {d : D} {b : Bool} (h : isiD cs ts M d = some b) : ∃ k, kdOf M d = some k ∧ isAny cs k ts = some b ∧ ∀ c, k = .cls c → c ∈ cs := by
  unfold isiD at h
  cases e : kdOf M d with
  | none => rw [e] at h; cases h
  | some k =>
    rw [e] at h
    cases k with
    | ty n => exact ⟨_, rfl, h, fun c z => by cases z⟩
    | cls c =>
      simp only at h
      split at h
      · rename_i hc
        exact ⟨_, rfl, h, fun c' z => by cases z; simpa using hc⟩
      · cases h
def rIsD (G : Gd) (cs : List Nat) (t : Kd) : List V → Hp → VK → Prop := fun xs H Q => ∃ ι M d x b, xs = [x, t.v G.K] ∧ Abs G.K ι H G.P G.w M ∧ Rep G.K ι H d x ∧ isiD cs [t] M d = some b ∧ Q (.bl b) H
theorem Kd.clsV {K : PySem.W.Frag} (t : Kd) : ClsV (t.v K) (t.val K) := by
  cases t with
  | ty n => exact .ty n
  | cls c => exact .own _
theorem kitAny_one {K : PySem.W.Frag} {t c : Value} {b : Bool} (h : PySem.W.kitAny K t [c] = some b) : PySem.W.kitOne K t c = some b := by
  unfold PySem.W.kitAny at h
  cases e : PySem.W.kitOne K t c with
  | none => rw [e] at h; cases h
  | some r =>
    rw [e] at h
    cases r with
    | true => exact h
    | false => exact h
theorem cr_isD {cs : List Nat} (O : IsiOk X.K cs) (t : Kd) : CallR X (.builtin "isinstance") (rIsD (cgd X) cs t) := by
  intro pins s σ H xs us Q I r h
  obtain ⟨ι, M, d, x, b, rfl, A, rd, hb, q⟩ := h
  obtain ⟨u1, u2, rfl, r1, r2⟩ := vals2 r
  have e2 := t.clsV.eq r2
  subst e2
  obtain ⟨k, h1, h2, h3⟩ := isiD_of hb
  obtain ⟨P, Z, p, hx⟩ := kit_rep I A O rd r1 h1 h3
  exact PySem.W.kia_one Z I.kIn p (kitAny_one (isAny_ok O h2)) hx fun tk => ⟨.bl b, H, I.tok tk, rfl, q⟩
theorem se_isi {e c : Expr} {fe : EF} {p pos : Pos} {cs : List Nat} {t : Kd} (O : IsiOk X.K cs) (hg : Gl X "isinstance") (hm : X.mg "isinstance" = none) (ha : SE X W e fe) (hc : PE X c (tC (t.v X.K)))
    (he : starEach [e, c] X.env = (false, eval e X.env) :: starEach [c] X.env := by rfl) (he2 : starEach [c] X.env = (false, eval c X.env) :: starEach [] X.env := by rfl) (hpl : (backTo pos (starEach [c] X.env)).any (·.1) = false := by rfl) : SE X W (.Call (.Name "isinstance" p) [e, c] [] pos) (eIsi cs [t] fe) :=
  (pe_callB (cr_isD O t) hg hm PyProof.Rows.boot_isinstance (pa_cons ha (pa_cons hc pa_nil he2) he) (by decide) (by decide) he hpl).imp fun σ H Q h => by
    obtain ⟨ι, M, env, A, E, h⟩ := h
    refine tE.mono (tE.seq A E h) fun x H1 ⟨ι1, M1, d, s1, A1, E1, r1, _, h1⟩ => ?_
    cases eb : isiD cs [t] M1 d with
    | none => rw [eb] at h1; exact h1.elim
    | some b => rw [eb] at h1; exact ⟨ι1, M1, d, x, b, rfl, A1, r1, eb, h1 ι1 H1 _ Step.refl A1 (by simp only [Rep])⟩
/-- a tuple of classes -/
def rIsDT (G : Gd) (cs : List Nat) (ts : List Kd) : List V → Hp → VK → Prop := fun xs H Q => ∃ ι M d x b tp, xs = [x, .ref tp] ∧ H tp = some (.tup (ts.map (Kd.v G.K))) ∧ Abs G.K ι H G.P G.w M ∧ Rep G.K ι H d x ∧ isiD cs ts M d = some b ∧ Q (.bl b) H
theorem clsV_all {K : PySem.W.Frag} : ∀ ts : List Kd, Paired ClsV (ts.map (Kd.v K)) (ts.map (Kd.val K))
  | [] => .nil
  | t :: ts => .cons t.clsV (clsV_all ts)
theorem cr_isDT {cs : List Nat} (O : IsiOk X.K cs) (ts : List Kd) : CallR X (.builtin "isinstance") (rIsDT (cgd X) cs ts) := by
  intro pins s σ H xs us Q I r h
  obtain ⟨ι, M, d, x, b, tp, rfl, hT, A, rd, hb, q⟩ := h
  obtain ⟨u1, u2, rfl, r1, r2⟩ := vals2 r
  cases (show u2 = Value.ref tp from r2)
  obtain ⟨k, h1, h2, h3⟩ := isiD_of hb
  obtain ⟨P, Z, p, hx⟩ := kit_rep I A O rd r1 h1 h3
  obtain ⟨_, its, rv, o, g1, g2, n, g3⟩ := (show ObjOk X.prog X.w H s.heap tp (.tup (ts.map (Kd.v X.K))) from I.hok tp _ hT)
  have e3 := ClsV.all (clsV_all ts) rv
  subst e3
  obtain ⟨oc, od, dt, sl⟩ := o
  simp only at g2 g3
  subst g2 g3
  exact PySem.W.kia_tup Z I.kIn p g1 (isAny_ok O h2) hx fun tk => ⟨.bl b, H, I.tok tk, rfl, q⟩
def tCs : List V → TA
  | [] => tNil
  | v :: vs => tCons (tC v) (tCs vs)
theorem tCs_of {vs : List V} {σ : St} {H : Hp} {Q : List V → Hp → Prop} (h : Q vs H) : tCs vs σ H Q := by
  induction vs generalizing Q with
  | nil => exact h
  | cons v vs ih => exact ih (Q := fun r H1 => Q (v :: r) H1) h
theorem se_isiT {e : Expr} {es : List Expr} {fe : EF} {p pos tpos : Pos} {n : Nat} {cs : List Nat} {ts : List Kd} (O : IsiOk X.K cs) (hg : Gl X "isinstance") (hm : X.mg "isinstance" = none) (ha : SE X W e fe) (hts : ts.length ≤ sizeLine) (hc : PA X es (tCs (ts.map (Kd.v X.K))))
    (hev : PE X (.Tuple es n tpos) (tTup (tCs (ts.map (Kd.v X.K)))))
    (he : starEach [e, .Tuple es n tpos] X.env = (false, eval e X.env) :: starEach [.Tuple es n tpos] X.env := by rfl) (he2 : starEach [.Tuple es n tpos] X.env = (false, eval (.Tuple es n tpos) X.env) :: starEach [] X.env := by rfl) (hpl : (backTo pos (starEach [.Tuple es n tpos] X.env)).any (·.1) = false := by rfl) :
    SE X W (.Call (.Name "isinstance" p) [e, .Tuple es n tpos] [] pos) (eIsi cs ts fe) :=
  (pe_callB (cr_isDT O ts) hg hm PyProof.Rows.boot_isinstance (pa_cons ha (pa_cons hev pa_nil he2) he) (by decide) (by decide) he hpl).imp fun σ H Q h => by
    obtain ⟨ι, M, env, A, E, h⟩ := h
    refine tE.mono (tE.seq A E h) fun x H1 ⟨ι1, M1, d, s1, A1, E1, r1, _, h1⟩ => ?_
    cases eb : isiD cs ts M1 d with
    | none => rw [eb] at h1; exact h1.elim
    | some b =>
      rw [eb] at h1
      refine tCs_of ⟨by simpa using hts, fun p hp => ?_⟩
      have e : Ext (cgd X).K ι1 H1 ι1 (upd H1 p (.tup (ts.map (Kd.v X.K)))) := by have := ext_new (K := (cgd X).K) (ι := ι1) (u := .tup (ts.map (Kd.v X.K))) hp []; simpa using this
      exact ⟨ι1, M1, d, x, b, p, rfl, upd_same, A1.tmp hp, r1.ext e, eb, h1 ι1 _ _ (step_tmp hp) (A1.tmp hp) (by simp only [Rep])⟩
end
end Sh

namespace Sh
open PySem L2 

/-! ### o[i] = v, o[i] op= v -/
theorem _root_.L2.PSet.or {X : Cx} {t t' : TSet} (h : PSet X t) (h' : PSet X t') : PSet X (fun o i v H Q => t o i v H Q ∨ t' o i v H Q) :=
  fun pins s σ H o i v ov iv u Q I a b c q => q.elim (fun q => h pins s σ H o i v ov iv u Q I a b c q) (fun q => h' pins s σ H o i v ov iv u Q I a b c q)
theorem _root_.L2.PGet.or {X : Cx} {t t' : V → V → Hp → VK → Prop} (h : PGet X t) (h' : PGet X t') : PGet X (fun o i H Q => t o i H Q ∨ t' o i H Q) :=
  fun pins s σ H o i ov iv Q I a b q => q.elim (fun q => h pins s σ H o i ov iv Q I a b q) (fun q => h' pins s σ H o i ov iv Q I a b q)
def oSet : O3 := fun o i v M => match i with
  | .int _ => oSetL o i v M
  | _ => oSetD o i v M
section
variable {X : Cx} {W : WX}
theorem set_all (hu : X.A.units + 64 < cLine) : PSet X (rO3 (cgd X) oSet) := (PSet.or set_lst (set_dct hu)).imp fun o i v H Q ⟨ι, M, a, b, c, A, r1, r2, r3, q⟩ => by
  cases b with
  | int k => exact .inl ⟨ι, M, a, _, c, A, r1, r2, r3, q⟩
  | _ => exact .inr ⟨ι, M, a, _, c, A, r1, r2, r3, q⟩
def rGetL (K : PySem.W.Frag) : V → V → Hp → VK → Prop := fun x y H Q => ∃ p xs i z, x = .ref p ∧ y = .int i ∧ SqL K H p xs ∧ atI xs i = some z ∧ Q z H
theorem pget_lst : PGet X (rGetL X.K) := by
  intro pins s σ H x y v u Q I rx ry h
  obtain ⟨p, xs, i, z, rfl, rfl, hq, he, q⟩ := h
  cases rx
  obtain ⟨t, rfl⟩ := ry
  obtain ⟨its, r, pl, hz⟩ := I.list hq
  obtain ⟨j, h1, h2, h3, h4, h5⟩ := atI_get he
  obtain ⟨w, ew, rw'⟩ := r.get h2
  have hl := r.length
  have hn := line63
  have fin : EP X pins σ Q w s := ⟨z, H, I, rw', q⟩
  by_cases h0 : 0 ≤ i
  · have hj : i.toNat = j := by
      rw [seqIndex_of h0 h5] at h1
      exact Option.some.inj h1
    exact wpAny_getItem_list pl.isList h0 (by omega) (by rw [hj]; simpa using ew) fin
  · have hj : (i + (its.toArray.size : Int)).toNat = j := by
      rw [seqIndex_neg (by omega) h4] at h1
      rw [List.size_toArray, ← hl]
      exact Option.some.inj h1
    exact wpAny_getItem_list_neg pl.isList (by omega) (by rw [List.size_toArray] <;> omega) (by omega) (by rw [hj]; simpa using ew) fin
def oGet : O2 := fun x y M => match y with
  | .int i => match x with
    | .ref n => match lstM M n with
      | some l => (atI l i).map fun d => (d, M)
      | none => none
    | _ => none
  | _ => oGetD x y M
theorem pget_all (hu : X.A.units + 64 < cLine) : PGet X (rO2 (cgd X) oGet) := (PGet.or pget_lst (pget_dct hu)).imp fun x y H Q ⟨ι, M, d, e, A, r1, r2, q⟩ => by
  cases e with
  | int i =>
    simp only [Rep] at r2
    subst r2
    cases d with
    | ref n =>
      simp only [Rep] at r1
      obtain ⟨a, ea, rfl⟩ := r1
      unfold oGet at q
      cases el : lstM M n with
      | none => simp only [el] at q; exact q.elim
      | some l =>
        simp only [el] at q
        obtain ⟨vs, h1, h2⟩ := lst_get A ea el
        cases e : atI l i with
        | none => rw [e] at q; exact q.elim
        | some z =>
          rw [e] at q
          obtain ⟨v, ev, rv⟩ := h2.atI e
          exact .inl ⟨a, vs, i, v, rfl, rfl, h1, ev, PostO.val A rv q⟩
    | _ => exact q.elim
  | _ => exact .inr ⟨ι, M, d, _, A, r1, r2, q⟩
theorem rO3_of {op : O3} {ι : List Addr} {H : Hp} {M : Store} {a b c : D} {o i v : V} {C : Ends} {σ : St} {env : Env} (A : Abs X.K ι H X.prog X.w M) (E : EnvR X.K ι H env σ) (r1 : Rep X.K ι H a o) (r2 : Rep X.K ι H b i) (r3 : Rep X.K ι H c v)
    (h : PostS (cgd X) W ι H (match op a b c M with | some M4 => .ok (.nx env) M4 | none => .bad) C) : rO3 (cgd X) op o i v H fun H3 => C.nx σ H3 := by
  refine ⟨ι, M, a, b, c, A, r1, r2, r3, ?_⟩
  cases e : op a b c M with
  | none => rw [e] at h; exact h
  | some M4 =>
    rw [e] at h
    exact fun ι' H' s A' => h ι' H' σ s A' (E.ext (s.ext A.nt))
theorem ss_store {o i value : Expr} {fo fi fv : EF} {op : O3} {tpos spos : Pos} (ho : SE X W o fo) (hi : SE X W i fi) (hs : PSet X (rO3 (cgd X) op)) (hv : SE X W value fv) (hsw : swapsWith value (some (.Subscript o i tpos)) spos.line X.env = pure false)
    (ha : ∀ v, assign (.Subscript o i tpos) X.env v = (do
      let ov ← holding [v] (eval o X.env)
      let iv ← holding [v, ov] (eval i X.env)
      standAt tpos
      holding [v, ov, iv] (setItem ov iv v)
      release [v, ov, iv] []) := by intro _; rfl) : SS X W (.Assign [.Subscript o i tpos] value spos) (sStore op fv fo fi) :=
  (ps_asg hv (pg_sub ho hi hs ha) hsw).imp fun C σ H h => by
    obtain ⟨ι, M, env, A, E, h⟩ := h
    refine tE.mono (tE.seqS A E h) fun v H1 ⟨ι1, M1, dv, s1, A1, E1, r1, _, h1⟩ => ?_
    refine tE.mono (tE.seqS A1 E1 h1) fun x H2 ⟨ι2, M2, dx, s2, A2, E2, r2, _, h2⟩ => ?_
    refine tE.mono (tE.seqS A2 E2 h2) fun y H3 ⟨ι3, M3, dy, s3, A3, E3, r3, _, h3⟩ => ?_
    exact rO3_of A3 E3 (r2.ext (s3.ext A2.nt)) r3 ((r1.ext (s2.ext A1.nt)).ext (s3.ext A2.nt)) h3
theorem ss_augS {o i e : Expr} {fo fi fv : EF} {get ip : O2} {op : O3} {oper : Operator} {tpos pos : Pos} (ho : SE X W o fo) (hi : SE X W i fi) (hg : PGet X (rO2 (cgd X) get)) (hv : SE X W e fv) (hp : SOp X (inplaceOp oper) ip) (hs : PSet X (rO3 (cgd X) op))
    (ha : ∀ ov iv new, augStore i ov iv new = (do holding [new, ov, iv] (setItem ov iv new); release [new, ov, iv] []; pure .next) := by intros; rfl) : SS X W (.AugAssign (.Subscript o i tpos) oper e pos) (sAugS get ip op fo fi fv) :=
  (ps_augS ho hi hg hv hp hs ha).imp fun C σ H h => by
    obtain ⟨ι, M, env, A, E, h⟩ := h
    refine tE.mono (tE.seqS A E h) fun x H1 ⟨ι1, M1, dx, s1, A1, E1, r1, _, h1⟩ => ?_
    refine tE.mono (tE.seqS A1 E1 h1) fun y H2 ⟨ι2, M2, dy, s2, A2, E2, r2, _, h2⟩ => ?_
    have r12 := r1.ext (s2.ext A1.nt)
    refine ⟨ι2, M2, dx, dy, A2, r12, r2, ?_⟩
    cases eg : get dx dy M2 with
    | none => rw [eg] at h2; exact h2
    | some p =>
      rw [eg] at h2
      intro ι3 H3 z s3 A3 r3
      have h3 := PostS.step s3 h2
      have r13 := r12.ext (s3.ext A2.nt)
      have r23 := r2.ext (s3.ext A2.nt)
      refine tE.mono (tE.seqS A3 (E2.ext (s3.ext A2.nt)) h3) fun v H4 ⟨ι4, M4, dv, s4, A4, E4, r4, _, h4⟩ => ?_
      refine ⟨ι4, M4, p.1, dv, A4, r3.ext (s4.ext A3.nt), r4, ?_⟩
      cases ep : ip p.1 dv M4 with
      | none => rw [ep] at h4; exact h4
      | some p2 =>
        rw [ep] at h4
        intro ι5 H5 z5 s5 A5 r5
        have h5 := PostS.step s5 h4
        exact rO3_of A5 (E4.ext (s5.ext A4.nt)) ((r13.ext (s4.ext A3.nt)).ext (s5.ext A4.nt)) ((r23.ext (s4.ext A3.nt)).ext (s5.ext A4.nt)) r5 h5
end
end Sh

namespace Sh
open PySem L2 

/-! ### dict displays -/
abbrev emptyD : Obj := { cls := .type "dict", data := .dict #[] }
def eDNew : EF := fun _ M => .ok (.ref M.length) (M ++ [.dct []])
theorem dctAt_nil {K : PySem.W.Frag} {ι : List Addr} {H : Hp} {P : Program} {w : World} {a : Addr} (h : (a == sysModules) = false) : DctAt K ι H P w a [] emptyD :=
  ⟨h, Nat.zero_le _, ⟨rfl, rfl, rfl⟩, #[], 0, [], rfl, rfl, List.nodup_nil, .nil⟩
theorem big_ne {a : Addr} (hb : sysModules < a) : (a == sysModules) = false := beq_eq_false_iff_ne.mpr (Ne.symm (Nat.ne_of_lt hb))
/-- {}; the reading: fresh p above the modules -/
def tDN : TE := fun _ H Q => ∀ p, H p = none → (p == sysModules) = false → Q (.ref p) (upd H p (dctO p emptyD))
def putAll (acc : List (D × D)) (kvs : List (D × D)) : List (D × D) := kvs.foldl (fun acc p => putKD acc p.1 p.2) acc
def dPairs : List (EF × EF) → Env → Store → Res (List (D × D))
  | [], _, M => .ok [] M
  | (fk, fv) :: r, env, M => (fk env M).bind fun k M1 => (fv env M1).bind fun v M2 => (dPairs r env M2).bind fun l M3 => .ok ((k, v) :: l) M3
def eDisp (ps : List (EF × EF)) : EF := fun env M => (dPairs ps env M).bind fun kvs M1 => if (kvs.all (fun p => (nkey p.1).isSome) && decide (kvs.length ≤ 15)) = true then .ok (.ref M1.length) (M1 ++ [.dct (putAll [] kvs)]) else .bad
section
variable {X : Cx} {W : WX}
theorem se_dnew {pos : Pos} : SE X W (.Dict [] [] pos) eDNew := ⟨fun pins s σ H Q I h => by
  obtain ⟨ι, M, env, A, E, h⟩ := h
  refine wpAny_Dict_empty ?_
  have hn := I.hok.fresh (Nat.le_refl s.heap.objs.size)
  have I1 := I.laid (a := s.heap.objs.size) (o := dctO s.heap.objs.size emptyD) (t' := s.toks) (h' := s.heap.push emptyD) (fun _ _ q => Heap.get?_push_of_some _ q) (Nat.le_refl _) (dctO_new (X := X) (Heap.get?_push_size _ rfl))
  refine ⟨.ref s.heap.objs.size, _, I1, rfl, h (ι ++ [s.heap.objs.size]) _ _ (step_new hn) (A.new hn ⟨emptyD, upd_same, dctAt_nil (big_ne I.big)⟩) ?_⟩
  simp only [Rep]
  exact ⟨_, by rw [← A.len]; simp, rfl⟩⟩
/-- pairs of values -/
def RepP (K : PySem.W.Frag) (ι : List Addr) (H : Hp) : List (D × D) → List (V × V) → Prop := Paired fun p q => Rep K ι H p.1 q.1 ∧ Rep K ι H p.2 q.2
def tps (G : Gd) (W : WX) (ps : List (EF × EF)) : List (TE × TE) := ps.map fun p => (tE G W p.1, tE G W p.2)
/-- as tE.seq, with the answer kept where it was -/
theorem tE.at {G : Gd} {γ δ : Type} {R2 : List Addr → Hp → γ → δ → Prop} {ι0 ι : List Addr} {H0 H : Hp} {σ : St} {M : Store} {env : Env} {f : EF} {g : D → Store → Res γ} {Q : δ → Hp → Prop} (s0 : Step ι0 H0 ι H) (A : Abs G.K ι H G.P G.w M) (E : EnvR G.K ι H env σ)
    (h : Post G W ι0 H0 R2 σ ((f env M).bind g) Q) :
    tE G W f σ H fun x H1 => ∃ ι1 M1 d, Step ι H ι1 H1 ∧ Abs G.K ι1 H1 G.P G.w M1 ∧ EnvR G.K ι1 H1 env σ ∧ Rep G.K ι1 H1 d x ∧ f env M = .ok d M1 ∧ Post G W ι0 H0 R2 σ (g d M1) Q := by
  refine ⟨ι, M, env, A, E, ?_⟩
  cases e : f env M with
  | ok d M1 =>
    rw [e] at h
    exact fun ι' H' v s a r => ⟨ι', M1, d, s, a, E.ext (s.ext A.nt), r, rfl, h⟩
  | exc c fs M1 => rw [e] at h; exact fun ι' H' cls d s a x => h ι' H' cls d (s0.trans s) a x
  | bad => rw [e] at h; exact h
theorem pairs_at {G : Gd} {δ γ : Type} {R2 : List Addr → Hp → γ → δ → Prop} {ι0 : List Addr} {H0 : Hp} {σ : St} {env : Env} {Q : δ → Hp → Prop} : ∀ {ps : List (EF × EF)} {ι : List Addr} {H : Hp} {M : Store} {g : List (D × D) → Store → Res γ} {T : List (V × V) → Hp → Prop}, Step ι0 H0 ι H → Abs G.K ι H G.P G.w M → EnvR G.K ι H env σ →
    Post G W ι0 H0 R2 σ ((dPairs ps env M).bind g) Q →
    (∀ vs H2 ι2 M2 kvs, Step ι H ι2 H2 → Abs G.K ι2 H2 G.P G.w M2 → RepP G.K ι2 H2 kvs vs → kvs.length = ps.length → Post G W ι0 H0 R2 σ (g kvs M2) Q → T vs H2) → tPairs (tps G W ps) σ H T
  | [], ι, H, M, g, T, s0, A, E, h, k => k [] H ι M [] Step.refl A .nil rfl h
  | (fk, fv) :: r, ι, H, M, g, T, s0, A, E, h, k => by
    have h : Post G W ι0 H0 R2 σ ((fk env M).bind fun x M1 => (((fv env M1).bind fun v M2 => (dPairs r env M2).bind fun l M3 => .ok ((x, v) :: l) M3)).bind g) Q := by
      have e : ((dPairs ((fk, fv) :: r) env M).bind g) = ((fk env M).bind fun x M1 => (((fv env M1).bind fun v M2 => (dPairs r env M2).bind fun l M3 => .ok ((x, v) :: l) M3)).bind g) := by
        show ((fk env M).bind _).bind g = _
        cases fk env M <;> rfl
      rw [e] at h; exact h
    refine tE.mono (tE.at s0 A E h) fun x H1 ⟨ι1, M1, dk, s1, A1, E1, r1, _, h1⟩ => ?_
    have h1 : Post G W ι0 H0 R2 σ ((fv env M1).bind fun v M2 => ((dPairs r env M2).bind fun l M3 => .ok ((dk, v) :: l) M3).bind g) Q := by
      have e : (((fv env M1).bind fun v M2 => (dPairs r env M2).bind fun l M3 => .ok ((dk, v) :: l) M3)).bind g = ((fv env M1).bind fun v M2 => ((dPairs r env M2).bind fun l M3 => .ok ((dk, v) :: l) M3).bind g) := by
        cases fv env M1 <;> rfl
      rw [e] at h1; exact h1
    refine tE.mono (tE.at (s0.trans s1) A1 E1 h1) fun y H2 ⟨ι2, M2, dv, s2, A2, E2, r2, _, h2⟩ => ?_
    have h2 : Post G W ι0 H0 R2 σ ((dPairs r env M2).bind fun l M3 => g ((dk, dv) :: l) M3) Q := by
      have e : ((dPairs r env M2).bind fun l M3 => .ok ((dk, dv) :: l) M3).bind g = ((dPairs r env M2).bind fun l M3 => g ((dk, dv) :: l) M3) := by
        cases dPairs r env M2 <;> rfl
      rw [e] at h2; exact h2
    refine pairs_at (ps := r) ((s0.trans s1).trans s2) A2 E2 h2 fun vs H3 ι3 M3 kvs s3 A3 r3 hl h3 => ?_
    exact k ((x, y) :: vs) H3 ι3 M3 ((dk, dv) :: kvs) ((s1.trans s2).trans s3) A3 (.cons ⟨(r1.ext (s2.ext A1.nt)).ext (s3.ext A2.nt), r2.ext (s3.ext A2.nt)⟩ r3) (by simp [hl]) h3
theorem carriesH_of {pins : List (Addr × Obj)} {σ : St} {H : Hp} {s : Shared} {ι : List Addr} (I : Inv X pins σ H s) : ∀ {kvs : List (D × D)} {ps : List (V × V)} {ws : List (Value × Value)}, RepP X.K ι H kvs ps → VV ps ws → kvs.all (fun p => (nkey p.1).isSome) = true →
    ∃ rs, CarriesH (nestedKind X.prog X.w) s.heap ws rs ∧ Paired (EntR X.K ι H) kvs rs
  | [], [], [], .nil, .nil, _ => ⟨[], trivial, .nil⟩
  | (k, d) :: kvs, (x, y) :: ps, (u, v) :: ws, .cons r1 t1, .cons r2 t2, h => by
    simp only [List.all_cons, Bool.and_eq_true] at h
    obtain ⟨rs, c, q⟩ := carriesH_of I t1 t2 h.2
    obtain ⟨nkk, e⟩ := Option.isSome_iff_exists.mp h.1
    obtain ⟨a, rfl⟩ : ∃ a, x = .ref a := by
      cases k with
      | tup l => have := r1.1; simp only [Rep] at this; obtain ⟨b, _, z, _⟩ := this; exact ⟨b, z⟩
      | _ => simp [nkey] at e
    have eu : u = Value.ref a := r2.1
    exact ⟨(nkk, a, v) :: rs, ⟨eu, rfl, key_is I r1.1 e, c⟩, .cons ⟨e, r1.1, y, r2.2, r1.2⟩ q⟩
theorem putAll_rel {K : PySem.W.Frag} {ι : List Addr} {H : Hp} : ∀ {kvs : List (D × D)} {rs : List (NestedKey × Addr × Value)} {acc : List (D × D)} {xs : List (NestedKey × Addr × Value)}, Paired (EntR K ι H) kvs rs → Paired (EntR K ι H) acc xs → Paired (EntR K ι H) (putAll acc kvs) (storedAllH xs rs)
  | [], [], acc, xs, .nil, q => q
  | (k, d) :: kvs, (x, a, u) :: rs, acc, xs, .cons r t, q => by
    obtain ⟨h1, h2, v, h3, h4⟩ := r
    exact putAll_rel (kvs := kvs) (rs := rs) (acc := putKD acc k d) (xs := storedH xs x a u) t (put_rel h1 h2 h3 h4 q)
theorem putAll_length : ∀ (kvs acc : List (D × D)), (putAll acc kvs).length ≤ acc.length + kvs.length
  | [], acc => Nat.le_refl _
  | p :: kvs, acc => by
    have h1 := putAll_length kvs (putKD acc p.1 p.2)
    have h2 := putKD_length acc p.1 p.2
    show (putAll (putKD acc p.1 p.2) kvs).length ≤ _
    rw [List.length_cons]; omega
theorem dict_pairsA {prog : Program} {w : World} {KK : Type} [DecidableEq KK] {knd : HeapKind prog w KK} {A : Around} {E : Value → Shared → Prop} {s : Shared} {env : PySem.Env} {keys : List (Option Expr)} {values : List Expr} {pos : Pos} {pairs : List (Sem Value × Sem Value)} {Q : Value → Shared → Prop} (hu : knd.room A)
    (hshape : (evalEachOpt keys env).zip ((evalEach values env).map fun v => do let x ← v; standAt pos; pure x) = pairs.map fun p => (some p.1, p.2)) (h0 : pairs ≠ []) (hlen : pairs.length ≤ 15)
    (h : wpAny (model prog w) A (evalPairs pairs) (fun vs s₁ => ∃ ps, CarriesH knd s₁.heap vs ps ∧ s₁.heap.DictOfH knd s.heap.objs.size [] ∧
      ∀ h' tk, h'.DictOfH knd s.heap.objs.size (storedAllH [] ps) → Heap.SameBut s.heap.objs.size s₁.heap h' → Q (.ref s.heap.objs.size) { s₁ with heap := h', toks := tk }) E
      { s with heap := s.heap.push { cls := .type "dict", data := .dict #[] } }) :
    wpAny (model prog w) A (eval (.Dict keys values pos) env) Q E s := by
  rw [arm_eval_Dict, hshape, dictDisplay_pairs pairs h0 (by omega)]
  exact wpAny_bind (wpAny_standAt (wpAny_bind (wpAny_subDictH (knd := knd) (Q := fun d s' => wpAny (model prog w) A (pure (Value.ref d)) Q E s') hu hlen
    (wpAny_mono h (fun vs s₁ h₁ => by obtain ⟨ps, hc, hm, hq⟩ := h₁; exact ⟨ps, hc, hm, fun h' tk a b => wpAny_pure (hq h' tk a b)⟩) fun _ _ e => e))))
theorem rd_dct {H : Hp} {a : Addr} {o : Obj} (h : H a = some (dctO a o)) : ∀ xs, ¬ Rd H a (.tup xs) := fun xs r => by rcases r with r | ⟨o, r⟩ <;> (rw [h] at r; cases r)
theorem nf_dct {H : Hp} {a : Addr} {o : Obj} (h : H a = some (dctO a o)) : NF H a := NF.of h fun _ _ z => nomatch z
theorem se_disp {keys : List (Option Expr)} {values : List Expr} {pos : Pos} {ps : List (EF × EF)} (hu : X.A.units + 64 < cLine) (hp : PPs X pos keys values (tps (cgd X) W ps)) (hall : keys.all (·.isSome) = true) (hl : keys.length = values.length) (h0 : keys ≠ []) (h15 : keys.length ≤ 15) : SE X W (.Dict keys values pos) (eDisp ps) := ⟨fun pins s σ H Q I h => by
  obtain ⟨ι, M, env, A, E, h⟩ := h
  have hn := I.hok.fresh (Nat.le_refl s.heap.objs.size)
  have I1 := I.laid (a := s.heap.objs.size) (o := dctO s.heap.objs.size emptyD) (t' := s.toks) (h' := s.heap.push emptyD) (fun _ _ q => Heap.get?_push_of_some _ q) (Nat.le_refl _) (dctO_new (X := X) (Heap.get?_push_size _ rfl))
  have hD : s.heap.objs.size ∉ ι := A.notin hn
  have hlen := pairTrees_length keys values X.env pos hall hl
  refine dict_pairsA (knd := nestedKind X.prog X.w) (pairs := pairTrees keys values X.env pos) (show X.A.units + 8 < cLine by omega) (zip_pairTrees keys values X.env pos hall hl) (fun he => ?_) (by rw [hlen]; exact h15) ?_
  · rw [he] at hlen
    exact h0 (List.length_eq_zero_iff.mp hlen.symm)
  refine thn (hp.run pins _ σ _ (fun vs H2 => ∃ ι2 M2 kvs, Step ι (upd H s.heap.objs.size (dctO s.heap.objs.size emptyD)) ι2 H2 ∧ Abs X.K ι2 H2 X.prog X.w M2 ∧ RepP X.K ι2 H2 kvs vs ∧ PostE (cgd X) W ι H σ (if (kvs.all (fun p => (nkey p.1).isSome) && decide (kvs.length ≤ 15)) = true then .ok (.ref M2.length) (M2 ++ [.dct (putAll [] kvs)]) else .bad) Q) I1 ?_) fun ws s2 ⟨vs, H2, I2, rel, ι2, M2, kvs, s2', A2, r2, h2⟩ => ?_
  · have e : Ext X.K ι H ι (upd H s.heap.objs.size (dctO s.heap.objs.size emptyD)) := by have := ext_new (K := X.K) (ι := ι) (u := dctO s.heap.objs.size emptyD) hn []; simpa using this
    exact pairs_at (G := cgd X) (step_tmp hn) (A.tmp hn) (E.ext e) h fun vs H2 ι2 M2 kvs s2 A2 r2 hl h2 => ⟨ι2, M2, kvs, s2, A2, r2, h2⟩
  · split at h2
    · rename_i hk
      simp only [Bool.and_eq_true, decide_eq_true_eq] at hk
      obtain ⟨hD2, e2⟩ := s2'.out hD upd_same
      obtain ⟨rs, c, pr⟩ := carriesH_of I2 r2 rel hk.1
      refine ⟨rs, c, ⟨emptyD, #[], 0, dct_at I2 e2, ⟨rfl, rfl, rfl⟩, rfl, rfl, by simp, List.nodup_nil⟩, fun h' tk dk sb => ?_⟩
      obtain ⟨o', es, ep, ho', hex, hdt, hes, _, hnd⟩ := dk
      have I' : Inv X pins σ (upd H2 s.heap.objs.size (dctO s.heap.objs.size o')) { s2 with heap := h', toks := tk } :=
        I2.write (x := s.heap.objs.size) (e := s.heap.objs.size) (by rw [e2]; exact mut_dct) (.inl rfl) (fun b ob hb e => (sb.2 b hb).trans e) ⟨o', ho'⟩ (dctO_new ho')
      have x3 : Ext X.K ι2 H2 ι2 (upd H2 s.heap.objs.size (dctO s.heap.objs.size o')) := ext_off (rd_dct e2) (nf_dct e2)
      have s0 : Step ι H ι2 H2 := (step_tmp hn).trans s2'
      have A3 := abs_off (u := dctO s.heap.objs.size o') A2 hD2 (rd_dct e2) (nf_dct e2)
      have hlen2 := putAll_length kvs []
      refine ⟨.ref s.heap.objs.size, _, I', rfl, h2 (ι2 ++ [s.heap.objs.size]) _ _ ((s0.off hn).add hn) (A3.add hD2 ⟨o', upd_same, big_ne I.big, ?_, hex, es, ep, _, hdt, hes, hnd, ?_⟩) ?_⟩
      · rw [sizeLine_eq]; simp at hlen2; omega
      · exact Paired.mapP (putAll_rel pr .nil) fun _ _ z => (z.ext x3).ext (ext_add _)
      · simp only [Rep]
        exact ⟨_, by rw [← A2.len]; simp, rfl⟩
    · exact h2.elim⟩
end
end Sh

namespace Sh
open PySem L2 PyProof.Rows

/-! ### a dict walked: it stays locked from then on -/
/-- the keys of the locked dict at d -/
def ItK (d : Addr) (o : Obj) (es : Array DictEntry) : It :=
  ⟨fun i H => H d = some (.frz o (dctO d o)) ∧ i < es.size, fun i H x H' => H' = H ∧ ∃ (hi : i < es.size) (q : Addr), es[i].key = .ref q ∧ x = .ref q, fun i H => H d = some (.frz o (dctO d o)) ∧ es.size ≤ i⟩
/-- the pairs -/
def ItP (d : Addr) (o : Obj) (es : Array DictEntry) : It :=
  ⟨fun i H => H d = some (.frz o (dctO d o)) ∧ i < es.size, fun i H x H' => ∃ (T : Addr) (hi : i < es.size) (q : Addr) (v : V), es[i].key = .ref q ∧ RelV v es[i].val ∧ x = .ref T ∧ H T = none ∧ H' = upd H T (.tup [.ref q, v]), fun i H => H d = some (.frz o (dctO d o)) ∧ es.size ≤ i⟩
/-- each key is a tuple's address -/
def KeysRef (es : Array DictEntry) : Prop := ∀ (i : Nat) (h : i < es.size), (∃ q, es[i].key = .ref q) ∧ ∃ v : V, RelV v es[i].val
section
variable {P : Program} {w : World} {K : PySem.W.Frag} {tg : Expr} {d : Addr} {o : Obj} {es : Array DictEntry} {ep : Nat}
theorem turn_K (it : Addr) (hod : o.data = .dict es ep) (hx : o.ExactDict) (hr : KeysRef es) : Turn P w K tg (ItK d o es) [it] it (fun i h => h.IsKeyIter it d i es.size ep) where
  mem := by simp
  obj := fun i h st b hb => by
    have e : b = it := by simpa using hb
    subst e
    obtain ⟨oi, e, c, dd⟩ := st
    exact ⟨oi, e, fun v z => by rw [dd] at z; cases z⟩
  keep := fun i h h' st k => st.at fun oi e => k it (by simp) oi e
  item := by
    intro X hP hw hK hc i pins s σ H E I hf st hg
    subst hP hw hK
    obtain ⟨hd, hi⟩ := hg
    obtain ⟨f0, f1, f2, f3, f4, f5⟩ := hf it (by simp)
    obtain ⟨⟨q, hq⟩, _⟩ := hr i hi
    refine wpAny_pyNext_keys_item_raw st ⟨o, (dlk_at I hd).2, hx, hod⟩ hi fun h' st' sb => ?_
    have I1 : Inv X pins σ H { s with heap := h' } := I.turned (t' := s.toks) (fun b ob hb e => (sb.2 b hb).trans e) f0 f1 f3 f4 f5
    obtain ⟨oi, e, c, dd⟩ := id st'
    exact ⟨es[i].key, rfl, go_of (s := { s with heap := h' }) e c dd (by decide) ⟨.ref q, H, I1, hq, ⟨rfl, hi, q, hq, rfl⟩, st', fun b hb => (hf b hb).1⟩⟩
  done := by
    intro X hP hw hK hc i pins s σ H E I hf st hg
    subst hP hw hK
    obtain ⟨hd, hi⟩ := hg
    obtain ⟨f0, f1, f2, f3, f4, f5⟩ := hf it (by simp)
    exact wpAny_pyNext_keys_end_raw (I.ok.hd hc) st ⟨o, (dlk_at I hd).2, hx, hod⟩ hi fun h' eb => ⟨rfl, I.turned (t' := s.toks) (fun b ob hb e => eb b ob hb e) f0 f1 f3 f4 f5⟩
  self := fun A i s Q E st h => by
    refine wpAny_pyIter_slot st.typeIs F.slot_dict_keyiterator_iter (wpAny_call_entry F.slot_dict_keyiterator_iter st.typeIs F.entry_dict_keyiterator_iter ?_ (F.args_dict_keyiterator_iter_1 _))
    show wpAny _ _ (ret (.ref it)) _ _ s
    exact wpAny_pure ⟨_, rfl, "dict_keyiterator", _, st.typeIs, F.slot_dict_keyiterator_next.lookup, h⟩
theorem turn_P {elts : List Expr} {kk : Nat} {tpos : Pos} (it : Addr) (hod : o.data = .dict es ep) (hx : o.ExactDict) (hr : KeysRef es) :
    Turn P w K (.Tuple elts kk tpos) (ItP d o es) [it] it (fun i h => ∃ ok ov, IsItemIter h it d i es.size ep ok ov) where
  mem := by simp
  obj := fun i h st b hb => by
    have e : b = it := by simpa using hb
    subst e
    obtain ⟨ok, ov, e⟩ := st
    exact ⟨_, e, fun v z => nomatch z⟩
  keep := fun i h h' st k => let ⟨ok, ov, e⟩ := st; ⟨ok, ov, k it (by simp) _ e⟩
  item := by
    intro X hP hw hK hc i pins s σ H E I hf st hg
    subst hP hw hK
    obtain ⟨hd, hi⟩ := hg
    obtain ⟨⟨q, hq⟩, v, hv⟩ := hr i hi
    obtain ⟨ok, ov, he⟩ := st
    have hlt : it < s.heap.objs.size := Heap.lt_size he
    refine wpAny_pyNext_items_item_raw he ⟨o, (dlk_at I hd).2, hx, hod⟩ hi fun h' ho hT hz hk => ?_
    refine ⟨_, rfl, wpAny_letOwnedTupleGo_items (s := { s with heap := h' }) ho fun h'' he' sb => ?_⟩
    have hT2 : h''.get? s.heap.objs.size = some { cls := .type "tuple", data := .seq #[es[i].key, es[i].val] } := (sb.2 _ (Nat.ne_of_gt hlt)).trans hT
    have new : ObjOk X.prog X.w (upd H s.heap.objs.size (.tup [.ref q, v])) h'' s.heap.objs.size (.tup [.ref q, v]) :=
      ⟨by show 2 ≤ sizeLine; decide, [es[i].key, es[i].val], .cons hq (.cons hv .nil), ⟨_, hT2, rfl, _, rfl⟩⟩
    have I1 : Inv X pins σ (upd H s.heap.objs.size (.tup [.ref q, v])) { s with heap := h'' } :=
      I.turnedNew (t' := s.toks) (ch := [it]) (fun b ob hb e => (sb.2 b (by simpa using hb)).trans (hk b ob (by simpa using hb) e)) hf (Nat.le_refl _) new
    refine ⟨.ref s.heap.objs.size, _, I1, rfl, ⟨_, hi, q, v, hq, hv, rfl, I.hok.fresh (Nat.le_refl _), rfl⟩, ⟨es[i].key, es[i].val, he'⟩, fun b hb => ?_⟩
    have e : b = it := by simpa using hb
    rw [e, upd_ne (Nat.ne_of_lt hlt)]
    exact (hf it (by simp)).1
  done := by
    intro X hP hw hK hc i pins s σ H E I hf st hg
    subst hP hw hK
    obtain ⟨hd, hi⟩ := hg
    obtain ⟨f0, f1, f2, f3, f4, f5⟩ := hf it (by simp)
    obtain ⟨ok, ov, he⟩ := st
    exact wpAny_pyNext_items_end_raw (I.ok.hd hc) he ⟨o, (dlk_at I hd).2, hx, hod⟩ hi fun h' eb => ⟨rfl, I.turned (t' := s.toks) (fun b ob hb e => eb b ob hb e) f0 f1 f3 f4 f5⟩
  self := fun A i s Q E st h => let ⟨_, _, e⟩ := st; PySem.W.kcp_self e h
end
/-! #### the lock -/
theorem ext_frz {K : PySem.W.Frag} {ι : List Addr} {H : Hp} {a : Addr} {o o' : Obj} (e : H a = some (dctO a o)) : Ext K ι H ι (upd H a (.frz o' (dctO a o))) := ext_off (rd_dct e) (nf_dct e)
theorem lock_dct {X : Cx} {pins : List (Addr × Obj)} {σ : L2.St} {H : Hp} {s : Shared} {ι : List Addr} {M : Store} {n : Nat} {a : Addr} {kvs : List (D × D)} (I : Inv X pins σ H s) (A : Abs X.K ι H X.prog X.w M) (ea : ι[n]? = some a) (e : M[n]? = some (.dct kvs)) :
    ∃ o, Inv X pins σ (upd H a (.frz o (dctO a o))) s ∧ Step ι H ι (upd H a (.frz o (dctO a o))) ∧ Abs X.K ι (upd H a (.frz o (dctO a o))) X.prog X.w (M.set n (.dlk kvs)) ∧ DctAt X.K ι (upd H a (.frz o (dctO a o))) X.prog X.w a kvs o ∧ s.heap.get? a = some o := by
  obtain ⟨o, h1, h2⟩ := A.obj n a _ ea e
  obtain ⟨od, I1⟩ := I.lock h1 trivial
  have e1 := (dlk_at I1 upd_same).1
  have e2 := dct_at I h1
  have eo : od = o := Option.some.inj (e1.symm.trans e2)
  subst eo
  have ha := List.mem_of_getElem? ea
  have h3 := h2.ext (ext_frz (K := X.K) (ι := ι) (o' := od) h1)
  exact ⟨od, I1, step_upd ha (nf_dct h1), A.upd (nf_dct h1) ea ⟨od, upd_same, h3⟩, h3, e2⟩
theorem frz_dct {X : Cx} {pins : List (Addr × Obj)} {σ : L2.St} {H : Hp} {s : Shared} {ι : List Addr} {M : Store} {n : Nat} {a : Addr} {kvs : List (D × D)} (I : Inv X pins σ H s) (A : Abs X.K ι H X.prog X.w M) (ea : ι[n]? = some a) (e : M[n]? = some (.dlk kvs)) :
    ∃ o, H a = some (.frz o (dctO a o)) ∧ DctAt X.K ι H X.prog X.w a kvs o ∧ s.heap.get? a = some o := by
  obtain ⟨o, h1, h2⟩ := A.obj n a _ ea e
  exact ⟨o, h1, h2, (dlk_at I h1).2⟩
/-- a list, a tuple or a dict, walked -/
def iAny (f : EF) : IF := fun env M => (f env M).bind fun d M1 => match d with
  | .tup l => .ok ⟨l, fun _ => true⟩ M1
  | .ref n => match M1[n]? with
    | some (.lst l) => .ok ⟨l, fun M => decide (M[n]? = some (.lst l))⟩ M1
    | some (.fz l) => .ok ⟨l, fun M => decide (M[n]? = some (.fz l))⟩ M1
    | some (.dct kvs) => .ok ⟨kvs.map (·.1), fun _ => true⟩ (M1.set n (.dlk kvs))
    | some (.dlk kvs) => .ok ⟨kvs.map (·.1), fun _ => true⟩ M1
    | _ => .bad
  | _ => .bad
def pairD (p : D × D) : D := .tup [p.1, p.2]
/-- d.items(), walked -/
def iItm (f : EF) : IF := fun env M => (f env M).bind fun d M1 => match d with
  | .ref n => match M1[n]? with
    | some (.dct kvs) => .ok ⟨kvs.map pairD, fun _ => true⟩ (M1.set n (.dlk kvs))
    | some (.dlk kvs) => .ok ⟨kvs.map pairD, fun _ => true⟩ M1
    | _ => .bad
  | _ => .bad
section
variable {X : Cx} {W : WX}
theorem ent_get {K : PySem.W.Frag} {ι : List Addr} {H : Hp} {P : Program} {w : World} {kvs : List (D × D)} {xs : List (NestedKey × Addr × Value)} {es : Array DictEntry} (he : es.toList = xs.map (entryOfKey (nestedKind P w))) (pr : Paired (EntR K ι H) kvs xs) {i : Nat} {p : D × D} (e : kvs[i]? = some p) (hi : i < es.size) :
    ∃ q v, es[i].key = .ref q ∧ RelV v es[i].val ∧ Rep K ι H p.1 (.ref q) ∧ Rep K ι H p.2 v := by
  obtain ⟨b, hb, h1, h2, v, h3, h4⟩ := paired_get pr e
  have q : es.toList[i]? = some (entryOfKey (nestedKind P w) b) := by rw [he, List.getElem?_map, hb]; rfl
  rw [Array.getElem?_toList, Array.getElem?_eq_getElem hi] at q
  have q := Option.some.inj q
  refine ⟨b.2.1, v, by rw [q]; rfl, by rw [q]; exact h3, h2, h4⟩
theorem ent_size {K : PySem.W.Frag} {ι : List Addr} {H : Hp} {P : Program} {w : World} {kvs : List (D × D)} {xs : List (NestedKey × Addr × Value)} {es : Array DictEntry} (he : es.toList = xs.map (entryOfKey (nestedKind P w))) (pr : Paired (EntR K ι H) kvs xs) : es.size = kvs.length := by
  have h1 : es.size = xs.length := size_of_entries he
  have h2 := Paired.length pr
  omega
theorem ent_keys {K : PySem.W.Frag} {ι : List Addr} {H : Hp} {P : Program} {w : World} {kvs : List (D × D)} {xs : List (NestedKey × Addr × Value)} {es : Array DictEntry} (he : es.toList = xs.map (entryOfKey (nestedKind P w))) (pr : Paired (EntR K ι H) kvs xs) : KeysRef es := fun i hi => by
  have hz := ent_size he pr
  obtain ⟨q, v, h1, h2, _⟩ := ent_get he pr (List.getElem?_eq_getElem (show i < kvs.length by omega)) hi
  exact ⟨⟨q, h1⟩, v, h2⟩
theorem sim_K {G : Gd} {ι0 : List Addr} {H0 : Hp} {a : Addr} {o : Obj} {es : Array DictEntry} {ep : Nat} {kvs : List (D × D)} {xs : List (NestedKey × Addr × Value)} (hf : H0 a = some (.frz o (dctO a o))) (he : es.toList = xs.map (entryOfKey (nestedKind G.P G.w))) (pr : Paired (EntR G.K ι0 H0) kvs xs) :
    SimI G ι0 H0 (ItK a o es) ⟨kvs.map (·.1), fun _ => true⟩ := fun i ι H M x A _ => by
  have hz := ent_size he pr
  have hf' := x.frz _ _ _ hf
  refine ⟨fun d e => ?_, fun e => ⟨hf', by simp at e; omega⟩⟩
  simp only [List.getElem?_map, Option.map_eq_some_iff] at e
  obtain ⟨p, e, rfl⟩ := e
  have hi : i < es.size := by rw [hz]; exact (List.getElem?_eq_some_iff.mp e).1
  refine ⟨⟨hf', hi⟩, fun y H' h => ?_⟩
  obtain ⟨rfl, hi', q, hq, rfl⟩ := h
  obtain ⟨q', v, h1, h2, h3, h4⟩ := ent_get he pr e hi
  have : q' = q := Value.ref.inj (h1.symm.trans hq)
  subst this
  exact ⟨Step.refl, A, h3.ext x⟩
theorem sim_P {G : Gd} {ι0 : List Addr} {H0 : Hp} {a : Addr} {o : Obj} {es : Array DictEntry} {ep : Nat} {kvs : List (D × D)} {xs : List (NestedKey × Addr × Value)} (hf : H0 a = some (.frz o (dctO a o))) (he : es.toList = xs.map (entryOfKey (nestedKind G.P G.w))) (pr : Paired (EntR G.K ι0 H0) kvs xs)
    (un : ∀ (v u : V) (w : Value), RelV v w → RelV u w → v = u) : SimI G ι0 H0 (ItP a o es) ⟨kvs.map pairD, fun _ => true⟩ := fun i ι H M x A _ => by
  have hz := ent_size he pr
  have hf' := x.frz _ _ _ hf
  refine ⟨fun d e => ?_, fun e => ⟨hf', by simp at e; omega⟩⟩
  simp only [List.getElem?_map, Option.map_eq_some_iff] at e
  obtain ⟨p, e, rfl⟩ := e
  have hi : i < es.size := by rw [hz]; exact (List.getElem?_eq_some_iff.mp e).1
  refine ⟨⟨hf', hi⟩, fun y H' h => ?_⟩
  obtain ⟨T, hi', q, v, hq, hv, rfl, hT, rfl⟩ := h
  obtain ⟨q', v', h1, h2, h3, h4⟩ := ent_get he pr e hi
  have : q' = q := Value.ref.inj (h1.symm.trans hq)
  subst this
  have : v' = v := un _ _ _ h2 hv
  subst this
  have ex : Ext G.K ι H ι (upd H T (.tup [.ref q', v'])) := by have := ext_new (K := G.K) (ι := ι) (u := .tup [.ref q', v']) hT []; simpa using this
  refine ⟨step_tmp hT, A.tmp hT, ?_⟩
  simp only [pairD, Rep, Reps]
  exact ⟨T, [.ref q', v'], rfl, SqT.of upd_same, _, _, rfl, (h3.ext x).ext ex, _, _, rfl, (h4.ext x).ext ex, rfl⟩
theorem relV_un {v u : V} {w : Value} (h1 : RelV v w) (h2 : RelV u w) : v = u := by
  cases v <;> cases u <;> simp only [L2.RelV] at h1 h2 <;> first
    | (subst h1; cases h2; rfl)
    | (obtain ⟨t, rfl⟩ := h1; obtain ⟨t', h⟩ := h2; cases h; rfl)
    | (subst h1; obtain ⟨t', h⟩ := h2; cases h)
    | (obtain ⟨t, rfl⟩ := h1; obtain ⟨t', h⟩ := h2; exact nomatch h)
    | (obtain ⟨t, rfl⟩ := h1; exact nomatch h2)
    | (subst h1; cases h2)
    | (obtain ⟨t, rfl⟩ := h1; subst h2; rfl)
theorem si_any {tg e : Expr} {f : EF} (he : SE X W e f) : SI X W tg e (iAny f) := ⟨fun pins s σ H R I h => by
  obtain ⟨ι, M, env, A, E, h⟩ := h
  refine thn (he.run pins s σ H _ I (tE.seq A E h)) fun v s1 ⟨x, H1, I1, r1, ι1, M1, d, st, A1, E1, rd, _, h1⟩ => ?_
  cases d with
  | tup l =>
    simp only [Rep] at rd
    obtain ⟨a, vs, rfl, hq, rr⟩ := rd
    cases (show v = Value.ref a from r1)
    obtain ⟨its, rv, p, hz⟩ := I1.tuple hq
    refine wpAny_pyIter_tuple (show s1.heap.IsTuple a its.toArray from p) ?_
    exact pi_one (tk := s1.toks) I1 _ (turn_tuple a _) ⟨_, Heap.get?_push_size _ rfl, rfl, rfl⟩ (h1 ι1 H1 _ Step.refl A1 (sim_tup hq rr))
  | ref n =>
    simp only [Rep] at rd
    obtain ⟨a, ea, rfl⟩ := rd
    cases (show v = Value.ref a from r1)
    simp only at h1
    cases e : M1[n]? with
    | none => rw [e] at h1; exact h1.elim
    | some ob =>
      rw [e] at h1
      cases ob with
      | lst l =>
        obtain ⟨vs, hq, rr⟩ := sq_lst (A1.obj n a _ ea e)
        obtain ⟨its, rv, p, hz⟩ := I1.list hq
        refine wpAny_pyIter_list p.isList ?_
        exact pi_one (tk := s1.toks) I1 _ (turn_list a _) ⟨_, Heap.get?_push_size _ rfl, rfl, rfl⟩ (h1 ι1 H1 _ Step.refl A1 (sim_lst ea sq_lst))
      | fz l =>
        obtain ⟨vs, hq, rr⟩ := sq_fz (A1.obj n a _ ea e)
        obtain ⟨its, rv, p, hz⟩ := I1.list hq
        refine wpAny_pyIter_list p.isList ?_
        exact pi_one (tk := s1.toks) I1 _ (turn_list a _) ⟨_, Heap.get?_push_size _ rfl, rfl, rfl⟩ (h1 ι1 H1 _ Step.refl A1 (sim_lst ea sq_fz))
      | dct kvs =>
        obtain ⟨o, I2, s2, A2, d2, ho⟩ := lock_dct I1 A1 ea e
        obtain ⟨g1, g2, g3, es, ep, xs, g4, g5, g6, g7⟩ := d2
        refine iter_keys g1 ho g3 g4 (pi_one (tk := s1.toks) I2 _ (turn_K _ g4 g3 (ent_keys g5 g7)) ⟨_, Heap.get?_push_size _ rfl, rfl, rfl⟩ (h1 ι1 _ _ s2 A2 (sim_K (ep := ep) upd_same g5 g7)))
      | dlk kvs =>
        obtain ⟨o, hf, d2, ho⟩ := frz_dct I1 A1 ea e
        obtain ⟨g1, g2, g3, es, ep, xs, g4, g5, g6, g7⟩ := d2
        refine iter_keys g1 ho g3 g4 (pi_one (tk := s1.toks) I1 _ (turn_K _ g4 g3 (ent_keys g5 g7)) ⟨_, Heap.get?_push_size _ rfl, rfl, rfl⟩ (h1 ι1 _ _ Step.refl A1 (sim_K (ep := ep) hf g5 g7)))
      | _ => exact h1.elim
  | _ => exact h1.elim⟩
theorem items_run {pins : List (Addr × Obj)} {σ : L2.St} {H : Hp} {s : Shared} {elts : List Expr} {kk : Nat} {tpos cpos : Pos} {R : It → Hp → Prop} {a : Addr} {o : Obj} {es : Array DictEntry} {ep : Nat} (I : Inv X pins σ H s) (hs : (a == sysModules) = false) (ho : s.heap.get? a = some o) (hx : o.ExactDict) (hd : o.data = .dict es ep) (hk : KeysRef es) (q : R (ItP a o es) H) :
    wpAny (model X.prog X.w) X.A (callWith cpos (.builtin "dict.items") [.ref a] [] []) (fun v s' => wpAny (model X.prog X.w) X.A (pyIter v) (PIE X pins σ (.Tuple elts kk tpos) R) X.xe s') X.xe s := by
  have I2 : Inv X pins σ H { s with heap := s.heap.push { cls := .type "dict_items", data := .fields #[.ref a] } } := I.kept (t' := s.toks) fun b ob q => Heap.get?_push_of_some _ q
  have raw : s.heap.DictRaw a es ep := ⟨o, ho, hx, hd⟩
  have fin : wpAny (model X.prog X.w) X.A (pyIter (.ref s.heap.objs.size)) (PIE X pins σ (.Tuple elts kk tpos) R) X.xe { s with heap := s.heap.push { cls := .type "dict_items", data := .fields #[.ref a] } } :=
    wpAny_pyIter_items_raw (d := a) ⟨_, Heap.get?_push_size _ rfl, rfl, rfl⟩ (raw.push _) (pi_one (tk := s.toks) I2 _ (turn_P _ hd hx hk) ⟨.none, .none, Heap.get?_push_size _ rfl⟩ q)
  exact method_meetsIn F.slot_dict_items F.entry_dict_items rfl (PySem.evalArgs_none ⟨rfl, raw.typeIs, F.args_dict_items_1 _, _, meets_dict_items_raw a hs, ⟨es, ep, raw⟩, fin⟩)
theorem si_items {e : Expr} {f : EF} {elts : List Expr} {kk : Nat} {tpos apos cpos : Pos} (he : SE X W e f) (hbase : attributeBase e "items" X.env (eval e X.env) = eval e X.env := by rfl) (hline : (apos.endLine == cpos.line) = true := by rfl) :
    SI X W (.Tuple elts kk tpos) (.Call (.Attribute e "items" apos) [] [] cpos) (iItm f) := ⟨fun pins s σ H R I h => by
  obtain ⟨ι, M, env, A, E, h⟩ := h
  refine wpAny_Call_method (T := "dict") (id := "dict.items") hbase rfl hline F.plainAttrs_dict F.slot_dict_items F.type_dict_items (thn (he.run pins s σ H _ I (tE.seq A E h)) fun v s1 ⟨x, H1, I1, r1, ι1, M1, d, st, A1, E1, rd, _, h1⟩ => ?_)
  cases d with
  | ref n =>
    simp only [Rep] at rd
    obtain ⟨a, ea, rfl⟩ := rd
    cases (show v = Value.ref a from r1)
    simp only at h1
    cases e : M1[n]? with
    | none => rw [e] at h1; exact h1.elim
    | some ob =>
      rw [e] at h1
      cases ob with
      | dct kvs =>
        obtain ⟨o, I2, s2, A2, d2, ho⟩ := lock_dct I1 A1 ea e
        obtain ⟨g1, g2, g3, es, ep, xs, g4, g5, g6, g7⟩ := d2
        exact ⟨⟨o, ho, g3.1⟩, fun b eb => by { cases eb; exact ⟨o, ho, g3.2.1⟩ }, items_run I2 g1 ho g3 g4 (ent_keys g5 g7) (h1 ι1 _ _ s2 A2 (sim_P (ep := ep) upd_same g5 g7 fun _ _ _ => relV_un))⟩
      | dlk kvs =>
        obtain ⟨o, hf, d2, ho⟩ := frz_dct I1 A1 ea e
        obtain ⟨g1, g2, g3, es, ep, xs, g4, g5, g6, g7⟩ := d2
        exact ⟨⟨o, ho, g3.1⟩, fun b eb => by { cases eb; exact ⟨o, ho, g3.2.1⟩ }, items_run I1 g1 ho g3 g4 (ent_keys g5 g7) (h1 ι1 _ _ Step.refl A1 (sim_P (ep := ep) hf g5 g7 fun _ _ _ => relV_un))⟩
      | _ => exact h1.elim
  | _ => exact h1.elim⟩
end
end Sh

namespace Sh
open PySem L2

/-! ### dict comprehensions (the walk of the block follows HandS.DictComp, for a dict whose keys are tuples of any depth) -/
/-- a pair stored into the dict that is being made -/
def SetR (X : Cx) (RS : Addr → V → V → Hp → (Hp → Prop) → Prop) : Prop :=
  ∀ (pins : List (Addr × Obj)) (s : Shared) (σ : St) (H : Hp) (D : Addr) (y z : V) (u r : Value) (Nx : Hp → Prop) (E : Value → Shared → Prop) {Q : Unit → Shared → Prop}, Inv X pins σ H s → RelV y u → RelV z r → RS D y z H Nx → (∀ s' H', Inv X pins σ H' s' → Nx H' → Q () s') → wpAny (model X.prog X.w) X.A (dictSet D u r) Q E s
def rsD (G : Gd) : Addr → V → V → Hp → (Hp → Prop) → Prop := fun D y z H Nx => ∃ ι kvs o dk dv, H D = some (dctO D o) ∧ DctAt G.K ι H G.P G.w D kvs o ∧ Rep G.K ι H dk y ∧ Rep G.K ι H dv z ∧ (nkey dk).isSome = true ∧ kvs.length < 1000000 ∧ ∀ o', DctAt G.K ι (upd H D (dctO D o')) G.P G.w D (putKD kvs dk dv) o' → Nx (upd H D (dctO D o'))
theorem set_dcN {X : Cx} (hu : X.A.units + 64 < cLine) : SetR X (rsD (cgd X)) := by
  intro pins s σ H D y z u r Nx E Q I ry rz h hQ
  obtain ⟨ι, kvs, o, dk, dv, h1, h2, r2, r3, hk, hl, k⟩ := h
  obtain ⟨nkk, e2⟩ := Option.isSome_iff_exists.mp hk
  obtain ⟨xs, hx, pr, hxl, _, hs⟩ := dct_of I (dct_at I h1) h2
  obtain ⟨bb, rfl⟩ : ∃ b, y = .ref b := by
    cases dk with
    | tup l => simp only [Rep] at r2; obtain ⟨b, _, rfl, _⟩ := r2; exact ⟨b, rfl⟩
    | _ => simp [nkey] at e2
  rw [show u = Value.ref bb from ry]
  refine wpAny_dictSet_heap (show X.A.units + 8 < cLine by omega) (key_is I r2 e2) hx (fun h' hd sb => ?_) (by rw [hxl]; exact lim_le (Nat.le_of_lt hl))
  obtain ⟨o', es, ep, ho', hex, hdt, hes, _, hnd⟩ := hd
  have I' : Inv X pins σ (upd H D (dctO D o')) { s with heap := h', toks := s.toks + (nestedKind X.prog X.w).draws nkk } :=
    I.write (x := D) (e := D) (by rw [h1]; exact mut_dct) (.inl rfl) (fun b ob hb e => (sb.2 b hb).trans e) ⟨o', ho'⟩ (dctO_new ho')
  have x3 := ext_off (K := X.K) (ι := ι) (u := dctO D o') (rd_dct h1) (nf_dct h1)
  exact hQ _ _ I' (k o' ⟨hs, lim_le (Nat.le_trans (putKD_length _ _ _) hl), hex, es, ep, _, hdt, hes, hnd, Paired.mapP (put_rel e2 r2 rz r3 pr) fun _ _ z => z.ext x3⟩)
section
variable {X : Cx}
def tDcN (RS : Addr → V → V → Hp → (Hp → Prop) → Prop) (wi : TI) (g : TG) (tt : TT) (tk tv : TE) (vs : List Nat) : TE := fun σ H Q => wi σ H fun J H1 => ∀ D, H1 D = none → (D == sysModules) = false → ∃ W : Nat → Nat → Hp → Prop, (∃ m, W 0 m (upd H1 D (dctO D emptyD))) ∧ ∀ i m H, W i m H →
  (J.stop i H ∧ Q (.ref D) H) ∨ (J.go i H ∧ ∃ Nx : Hp → Prop, (∀ H', Nx H' → ∃ m', m' < m ∧ W (i + 1) m' H') ∧ ∀ x H', J.yld i H x H' → g x (wipe σ vs) H' fun σ2 H2 => wipe σ2 vs = wipe σ vs ∧ tt σ2 H2 fun b H3 =>
    if b = true then tk σ2 H3 fun y H4 => tv σ2 H4 fun z H5 => RS D y z H5 Nx else Nx H3)
theorem dcn_core {pins : List (Addr × Obj)} {s : Shared} {σ : St} {H : Hp} {Q : VK} {kx vx tg iter : Expr} {ifs : List Expr} {scope : Scope} {own : List (Str × Nat)} {pos pos' : Pos} {wi : TI} {g : TG} {tt : TT} {tk tv : TE} {RS : Addr → V → V → Hp → (Hp → Prop) → Prop} {use : Option (Value → Sem Unit)} {Qf : Value → Shared → Prop}
    (hc : X.calm = true) (hN : X.N.Nodup) (I : Inv X pins σ H s) (hi : PI X tg iter wi) (ok : BlkOk X.N X.env.scope scope own)
    (hg : ∀ (s : Shared) (H : Hp) (C : Addr) (cl : List (Str × Addr)) (fp : List Addr), PG (X.blk s H scope (compEnvC scope cl C X.env) fp) tg g) (ht : ∀ (s : Shared) (H : Hp) (C : Addr) (cl : List (Str × Addr)) (fp : List Addr), PTs (X.blk s H scope (compEnvC scope cl C X.env) fp) ifs tt)
    (hk : ∀ (s : Shared) (H : Hp) (C : Addr) (cl : List (Str × Addr)) (fp : List Addr), PE (X.blk s H scope (compEnvC scope cl C X.env) fp) kx tk)
    (he : ∀ (s : Shared) (H : Hp) (C : Addr) (cl : List (Str × Addr)) (fp : List Addr), PE (X.blk s H scope (compEnvC scope cl C X.env) fp) vx tv) (hs : ∀ x, foldedSetIterable iter X.env x = pure x)
    (hset : ∀ (s : Shared) (H : Hp) (C : Addr) (cl : List (Str × Addr)) (fp : List Addr), SetR (X.blk s H scope (compEnvC scope cl C X.env) fp) RS)
    (h : tDcN RS wi g tt tk tv (own.map (·.2)) σ H Q)
    (hRR : ∀ D C s' m H', Inv X pins σ H' s' → Q (.ref D) H' → s'.heap.Ns C m → FpOk X pins H' C → compPost (model X.prog X.w) X.A X.xe use Qf (.ref D) C (.ok .next) s') :
    wpAny (model X.prog X.w) X.A (comprehension (.DictComp kx vx [⟨tg, iter, ifs, 0⟩] scope pos) scope X.env pos' newDict false (eval iter X.env) use) Qf X.xe s := by
  have hfree : ∀ y ∈ scope.names, y.2 = .free → ∃ c, X.env.cells.lookup y.1 = some c := fun y hy e => by
    rcases ok.free y hy e with k | k
    · exact I.ok.has _ (.inl k)
    · exact I.ok.has _ (.inr k)
  refine wpAny_comprehension_free (use := use) rfl hs (closure_ok hfree) ok.kind (fun y hy e => by rw [ok.uniq y hy, e])
    (thn (hi.run pins s σ H _ I h) fun xv s1 hx => thn hx fun itv s2 h2 => ?_)
  obtain ⟨it, fp, tn, J, H2, e, I2, T, st2, f2, q⟩ := h2
  subst e
  refine wpAny_newObj_type (newEnv_comp ?_)
  generalize hD : s2.heap.objs.size = D
  have hDn : H2 D = none := I2.hok.fresh (Nat.le_of_eq hD)
  have hbig : (D == sysModules) = false := by rw [← hD]; exact big_ne I2.big
  obtain ⟨W, ⟨m0, w0⟩, turn⟩ := q D hDn hbig
  -- the new list
  generalize hs3 : ({ s2 with heap := s2.heap.push { cls := .type "dict", data := .dict #[] } } : Shared) = s3
  have I3 : Inv X pins σ (upd H2 D (dctO D emptyD)) s3 := by
    rw [← hs3]
    refine I2.laid (t' := s2.toks) (fun b o e => Heap.get?_push_of_some _ e) (Nat.le_of_eq hD) ?_
    rw [← hD]
    exact dctO_new (X := X) (Heap.get?_push_size _ rfl)
  have h3 : s3.heap = s2.heap.push { cls := .type "dict", data := .dict #[] } := by rw [← hs3]
  have sz : ∀ b ∈ fp, b < s2.heap.objs.size := fun b hb => by
    obtain ⟨o, e, _⟩ := T.obj _ _ st2 b hb
    exact Heap.lt_size e
  have f3 : ∀ b ∈ fp, FpOk X pins (upd H2 D (dctO D emptyD)) b ∧ b < s3.heap.objs.size := fun b hb => by
    have hlt := sz b hb
    refine ⟨⟨?_, (f2 b hb).2⟩, by rw [h3, Heap.size_push]; exact Nat.lt_succ_of_lt hlt⟩
    rw [upd_ne (by rw [← hD]; exact Nat.ne_of_lt hlt)]
    exact (f2 b hb).1
  have st3 : tn 0 s3.heap := T.keep _ _ _ st2 fun b _ o e => by rw [h3]; exact Heap.get?_push_of_some _ e
  have I4 := block_start I3 ok hN f3
  have pg := hg s3 (upd H2 D (dctO D emptyD)) s3.heap.objs.size (cellsFrom (s3.heap.objs.size + 1) scope.names (cloFrom X.env.cells scope.names [])) fp
  have pt := ht s3 (upd H2 D (dctO D emptyD)) s3.heap.objs.size (cellsFrom (s3.heap.objs.size + 1) scope.names (cloFrom X.env.cells scope.names [])) fp
  have ps := hset s3 (upd H2 D (dctO D emptyD)) s3.heap.objs.size (cellsFrom (s3.heap.objs.size + 1) scope.names (cloFrom X.env.cells scope.names [])) fp
  have pk := hk s3 (upd H2 D (dctO D emptyD)) s3.heap.objs.size (cellsFrom (s3.heap.objs.size + 1) scope.names (cloFrom X.env.cells scope.names [])) fp
  have pe := he s3 (upd H2 D (dctO D emptyD)) s3.heap.objs.size (cellsFrom (s3.heap.objs.size + 1) scope.names (cloFrom X.env.cells scope.names [])) fp
  show codeAny _ _ (.compStart (.DictComp kx vx [⟨tg, iter, ifs, 0⟩] scope pos) 0 (.ref it) (.ref D) (compEnvC scope (cellsFrom (s3.heap.objs.size + 1) scope.names (cloFrom X.env.cells scope.names [])) s3.heap.objs.size X.env)) (compPost (model X.prog X.w) X.A X.xe use Qf (.ref D) s3.heap.objs.size) { s3 with heap := pushCells (s3.heap.push { cls := .type "dict", data := .dict #[] }) scope.names }
  have nfp : ∀ b ∈ fp, (upd H2 D (dctO D emptyD)) b = none := fun b hb => (f3 b hb).1.1
  generalize hce : compEnvC scope (cellsFrom (s3.heap.objs.size + 1) scope.names (cloFrom X.env.cells scope.names [])) s3.heap.objs.size X.env = ce at I4 pg pt ps pk pe ⊢
  have cL : ce.locals = s3.heap.objs.size := by subst hce; rfl
  generalize hH3 : upd H2 D (dctO D emptyD) = H3 at I3 I4 pg pt ps pk pe w0 nfp f3
  generalize hs4 : ({ s3 with heap := pushCells (s3.heap.push { cls := .type "dict", data := .dict #[] }) scope.names } : Shared) = s4 at I4 ⊢
  have st4 : tn 0 s4.heap := T.keep _ _ _ st3 fun b _ o e => by rw [← hs4]; exact pushCells_keeps _ _ _ _ (Heap.get?_push_of_some _ e)
  have stat : ∀ {σ' : St} {H' : Hp} {s' : Shared}, Inv (X.blk s3 H3 scope ce fp) [] σ' H' s' → (∀ b ∈ fp, H' b = none) → ∀ b ∈ fp, FpOk (X.blk s3 H3 scope ce fp) [] H' b := fun {σ' H' s'} I' hn b hb =>
    ⟨hn b hb, (I'.ok.exf b hb).1, I'.ok.exfs b hb, .inl hb, fun x c e => (I'.ok.exf b hb).2 x c e, fun p hp => absurd (show p ∈ ([] : List (Addr × Obj)) ++ [] from hp) (by simp)⟩
  have loop : codeAny (model X.prog X.w) X.A (.compLoop (.DictComp kx vx [⟨tg, iter, ifs, 0⟩] scope pos) 0 (.ref it) (.ref D) ce) (compPost (model X.prog X.w) X.A X.xe use Qf (.ref D) s3.heap.objs.size) s4 := by
    refine compLoop_anyD (fun n s' => ∃ i H', Inv (X.blk s3 H3 scope ce fp) [] (wipe σ (own.map (·.2))) H' s' ∧ tn i s'.heap ∧ (∀ b ∈ fp, H' b = none) ∧ W i n H') ?_ m0 ⟨0, H3, I4, st4, nfp, w0⟩
    rintro n s5 ⟨i, H5, I5, st5, n5, w5⟩
    rcases turn i n H5 w5 with ⟨stop, qq⟩ | ⟨go, Nx, hNx, step⟩
    · have td := T.done (X.blk s3 H3 scope ce fp) rfl rfl rfl hc i [] s5 _ H5 (fun _ _ => False) I5 (stat I5 n5) st5 stop
      refine thnF td fun r s6 ⟨hr, I6⟩ => ?_
      subst hr
      -- back in the def's context
      have I7 : Inv X pins σ H5 s6 := I3.call' (ch := fp) I6.os I6.base I6.hok I6.bare fun b hb => ⟨(f3 b hb).1.2.2.2.1, (f3 b hb).1.2.1, (f3 b hb).1.2.2.2.2.1, (f3 b hb).1.2.2.2.2.2⟩
      have nC : H5 s3.heap.objs.size = none := by
        have z : H5 ce.locals = none := I6.free
        rw [cL] at z
        exact z
      obtain ⟨m, hn, _⟩ := I6.loc
      have hn : s6.heap.Ns ce.locals m := hn
      rw [cL] at hn
      exact hRR D s3.heap.objs.size s6 m H5 I7 qq hn (I3.fpOk (Nat.le_refl _) nC)
    · have ti := T.item (X.blk s3 H3 scope ce fp) rfl rfl rfl hc i [] s5 _ H5 (fun _ _ => False) I5 (stat I5 n5) st5 go
      refine thnF ti fun r s6 ⟨u, hr, h6⟩ => ?_
      subst hr
      refine thnF h6 fun _ s7 ⟨x, H7, I7, r7, y7, st7, n7⟩ => ?_
      have I7' := I7.pinned (stat I7 n7) (T.obj _ _ st7)
      refine thnF (pg.run _ s7 _ H7 x u _ I7' r7 (step x H7 y7)) fun _ s8 ⟨σ8, H8, I8, hw8, q8⟩ => ?_
      refine thnF (pt.run _ s8 σ8 H8 _ I8 q8) fun b s9 ⟨H9, I9, q9⟩ => ?_
      -- the turn's end
      have fin : ∀ {s' : Shared} {H' : Hp}, Inv (X.blk s3 H3 scope ce fp) ([] ++ pinsAt fp s7.heap) σ8 H' s' → Nx H' → ∃ m, m < n ∧ ∃ i H', Inv (X.blk s3 H3 scope ce fp) [] (wipe σ (own.map (·.2))) H' s' ∧ tn i s'.heap ∧ (∀ b ∈ fp, H' b = none) ∧ W i m H' := fun {s' H'} I' nx => by
        obtain ⟨m', hm, w'⟩ := hNx H' nx
        have pin' : ∀ b ∈ fp, ∀ o, s7.heap.get? b = some o → s'.heap.get? b = some o ∧ H' b = none := fun b hb o e =>
          let z := I'.pin (b, o) (List.mem_append_right _ (List.mem_append_right _ (mem_pinsAt hb e)))
          ⟨z.1, z.2.1⟩
        have hl : (wipe σ (own.map (·.2))).length = σ8.length := by rw [← hw8, wipe_length]
        refine ⟨m', hm, i + 1, H', (I'.unpinned (pins := [])).weak hl (fun j v e => ?_), T.keep _ _ _ st7 fun b hb o e => (pin' b hb o e).1, fun b hb => ?_, w'⟩
        · rw [← hw8] at e
          exact (wipe_some e).1
        · obtain ⟨o, e, _⟩ := T.obj _ _ st7 b hb
          exact (pin' b hb o e).2
      cases b with
      | false =>
        simp only [Bool.false_eq_true, if_false] at q9 ⊢
        exact fin I9 q9
      | true =>
        simp only [if_true] at q9 ⊢
        refine thnF (pk.run _ s9 σ8 H9 _ I9 q9) fun z s10 ⟨yk, H10, I10, r10, q10⟩ => ?_
        refine thnF (pe.run _ s10 σ8 H10 _ I10 q10) fun z2 s11 ⟨yv, H11, I11, r11, nx⟩ => ?_
        exact ps _ _ _ _ D yk yv z z2 _ _ I11 r10 r11 nx fun s12 H12 I12 nx => fin I12 nx
  exact codeAny_compStart_dict loop (T.self X.A 0 _ _ _ st4 loop)
theorem pe_dcN {kx vx tg iter : Expr} {ifs : List Expr} {scope : Scope} {own : List (Str × Nat)} {pos : Pos} {wi : TI} {g : TG} {tt : TT} {tk tv : TE} {RS : Addr → V → V → Hp → (Hp → Prop) → Prop} (hc : X.calm = true) (hN : X.N.Nodup) (hi : PI X tg iter wi) (ok : BlkOk X.N X.env.scope scope own)
    (hb : ∀ (s : Shared) (H : Hp) (C : Addr) (cl : List (Str × Addr)) (fp : List Addr), PG (X.blk s H scope (compEnvC scope cl C X.env) fp) tg g ∧ PTs (X.blk s H scope (compEnvC scope cl C X.env) fp) ifs tt ∧ PE (X.blk s H scope (compEnvC scope cl C X.env) fp) kx tk ∧ PE (X.blk s H scope (compEnvC scope cl C X.env) fp) vx tv ∧ SetR (X.blk s H scope (compEnvC scope cl C X.env) fp) RS)
    (hs : ∀ x, foldedSetIterable iter X.env x = pure x := by intro _; rfl) : PE X (.DictComp kx vx [⟨tg, iter, ifs, 0⟩] scope pos) (tDcN RS wi g tt tk tv (own.map (·.2))) := by
  refine ⟨fun pins s σ H Q I h => ?_⟩
  rw [arm_eval_DictComp]
  refine dcn_core hc hN I hi ok (fun s H C cl fp => (hb s H C cl fp).1) (fun s H C cl fp => (hb s H C cl fp).2.1) (fun s H C cl fp => (hb s H C cl fp).2.2.1) (fun s H C cl fp => (hb s H C cl fp).2.2.2.1) hs (fun s H C cl fp => (hb s H C cl fp).2.2.2.2) h fun D C s' m H' I' q hn f => ⟨m, hn, fun h'' sb => ?_⟩
  obtain ⟨f0, f1, f2, f3, f4, f5⟩ := f
  exact ⟨.ref D, H', I'.turned (t' := s'.toks) (fun b o hb e => (sb.2 b hb).trans e) f0 f1 f3 f4 f5, rfl, q⟩
end
def dcGo (guard : Store → Bool) (one : Bool) (is : List Nat) (c : TF) (fk fv : EF) (env : Env) : List D → List (D × D) → Store → Res D
  | [], acc, M => if guard M = true then .ok (.ref M.length) (M ++ [.dct acc]) else .bad
  | x :: r, acc, M => if guard M = true then (match parts one is.length x with
    | none => .bad
    | some ds => match c (setD is ds env) M with
      | .ok true M1 => (match fk (setD is ds env) M1 with
        | .ok k M2 => (match fv (setD is ds env) M2 with
          | .ok v M3 => if ((nkey k).isSome && decide (acc.length < 1000000)) = true then dcGo guard one is c fk fv env r (putKD acc k v) M3 else .bad
          | _ => .bad)
        | _ => .bad)
      | .ok false M1 => dcGo guard one is c fk fv env r acc M1
      | _ => .bad) else .bad
def eDc (fi : IF) (one : Bool) (is : List Nat) (own : List Nat) (c : TF) (fk fv : EF) : EF := fun env M => (fi env M).bind fun s M1 => dcGo s.guard one is c fk fv (wipeD env own) s.items [] M1
section
variable {X : Cx} {W : WX}
theorem rd_one {K : PySem.W.Frag} {i : Nat} {ι : List Addr} {H : Hp} {d : D} {ds : List D} {x : V} {σ : St} {Q : St → Hp → Prop} (e : parts true [i].length d = some ds) (r : Rep K ι H d x) (h : ∀ vs, Reps K ι H ds vs → Q (setV [i] vs σ) H) : gName i x σ H Q := by
  simp only [parts, if_true, Option.some.injEq] at e
  subst e
  exact h [_] (by simp only [Reps]; exact ⟨_, [], rfl, r, rfl⟩)
theorem rd_tup {K : PySem.W.Frag} {is : List Nat} {ι : List Addr} {H : Hp} {d : D} {ds : List D} {x : V} {σ : St} {Q : St → Hp → Prop} (e : parts false is.length d = some ds) (r : Rep K ι H d x) (h : ∀ vs, Reps K ι H ds vs → Q (setV is vs σ) H) : gTup K is.length (gNs is) x σ H Q := by
  cases d with
  | tup l =>
    simp only [parts, Bool.false_eq_true, if_false] at e
    split at e
    · rename_i hl
      cases e
      simp only [Rep] at r
      obtain ⟨p, vs, rfl, hq, rr⟩ := r
      have hl2 : vs.length = is.length := by rw [← hl, rr.length]
      exact ⟨p, vs, rfl, hq, hl2, gNs_of hl2 (h vs rr)⟩
    · cases e
  | _ => simp [parts] at e
theorem dc_read {t : TG} {fi : IF} {one : Bool} {is own : List Nat} {c : TF} {fk fv : EF} (hown : ∀ i ∈ is, i ∈ own)
    (rd : ∀ {ι : List Addr} {H : Hp} {d : D} {ds : List D} {x : V} {σ : St} {Q : St → Hp → Prop}, parts one is.length d = some ds → Rep X.K ι H d x → (∀ vs, Reps X.K ι H ds vs → Q (setV is vs σ) H) → t x σ H Q)
    {σ : St} {H : Hp} {Q : VK} (h : tE (cgd X) W (eDc fi one is own c fk fv) σ H Q) : tDcN (rsD (cgd X)) (tI (cgd X) W fi) t (tT (cgd X) W0 c) (tE (cgd X) W0 fk) (tE (cgd X) W0 fv) own σ H Q := by
  obtain ⟨ι, M, env, A, E, h⟩ := h
  refine tI.mono (tI.seq A E h) fun J H1 ⟨ι1, M1, s, s1, A1, E1, sim, _, h1⟩ => ?_
  intro D hD hbig
  have hDi : D ∉ ι1 := A1.notin hD
  refine ⟨fun i m H => m = s.items.length - i ∧ i ≤ s.items.length ∧ ∃ ι M acc o, Step ι1 H1 ι H ∧ D ∉ ι ∧ H D = some (dctO D o) ∧ DctAt X.K ι H X.prog X.w D acc o ∧ Abs (cgd X).K ι H (cgd X).P (cgd X).w M ∧ PostE (cgd X) W ι1 H1 σ (dcGo s.guard one is c fk fv (wipeD env own) (s.items.drop i) acc M) Q, ⟨_, rfl, Nat.zero_le _, ι1, M1, [], emptyD, step_tmp hD, hDi, upd_same, dctAt_nil hbig, A1.tmp hD, by simpa using h1⟩, ?_⟩
  rintro i m H2 ⟨rfl, hile, ι2, M2, acc, o2, s2, hD2, e2, da2, A2, h2⟩
  have x2 : Ext (cgd X).K ι1 H1 ι2 H2 := s2.ext A1.nt
  have E2 := (E1.wipe own).ext x2
  cases ei : s.items[i]? with
  | none =>
    have hl : s.items.length ≤ i := List.getElem?_eq_none_iff.mp ei
    rw [List.drop_eq_nil_of_le hl] at h2
    unfold dcGo at h2
    by_cases hgd : s.guard M2 = true
    · rw [if_pos hgd] at h2
      refine .inl ⟨(sim i ι2 H2 M2 x2 A2 hgd).2 (Nat.le_antisymm hile hl), h2 (ι2 ++ [D]) H2 _ (s2.add hD) (A2.add hD2 ⟨o2, e2, da2.ext (ext_add _)⟩) ?_⟩
      simp only [Rep]
      exact ⟨D, by rw [← A2.len]; simp, rfl⟩
    · rw [if_neg hgd] at h2; exact h2.elim
  | some d =>
    obtain ⟨hl, ed⟩ := List.getElem?_eq_some_iff.mp ei
    rw [List.drop_eq_getElem_cons hl, ed] at h2
    unfold dcGo at h2
    by_cases hgd : s.guard M2 = true
    · rw [if_pos hgd] at h2
      obtain ⟨go, yl⟩ := (sim i ι2 H2 M2 x2 A2 hgd).1 d ei
      refine .inr ⟨go, fun H' => s.items.length - (i + 1) < s.items.length - i ∧ i + 1 ≤ s.items.length ∧ ∃ ι M acc o, Step ι1 H1 ι H' ∧ D ∉ ι ∧ H' D = some (dctO D o) ∧ DctAt X.K ι H' X.prog X.w D acc o ∧ Abs (cgd X).K ι H' (cgd X).P (cgd X).w M ∧ PostE (cgd X) W ι1 H1 σ (dcGo s.guard one is c fk fv (wipeD env own) (s.items.drop (i + 1)) acc M) Q, fun H' ⟨h1, h2, h3⟩ => ⟨_, h1, rfl, h2, h3⟩, fun x H3 hy => ?_⟩
      have lt : s.items.length - (i + 1) < s.items.length - i := by omega
      obtain ⟨s3, A3, r3⟩ := yl x H3 hy
      obtain ⟨hD3, e3⟩ := s3.out hD2 e2
      have x3 := s3.ext (K := (cgd X).K) A2.nt
      cases ep : parts one is.length d with
      | none => rw [ep] at h2; exact h2.elim
      | some ds =>
        rw [ep] at h2
        refine rd ep r3 fun vs rv => ⟨?_, ?_⟩
        · rw [wipe_setV is vs _ hown, wipe_wipe]
        · have E3 := (E2.ext x3).setA (is := is) rv
          refine ⟨ι2, M2, _, A3, E3, ?_⟩
          cases ec : c (setD is ds (wipeD env own)) M2 with
          | bad => simp only [ec] at h2; exact h2.elim
          | exc _ _ _ => simp only [ec] at h2; exact h2.elim
          | ok b M4 =>
            simp only [ec] at h2
            rintro ι4 H4 b' s4 A4 rfl
            obtain ⟨hD4, e4⟩ := s4.out hD3 e3
            have x4 := s4.ext (K := (cgd X).K) A3.nt
            cases b with
            | false =>
              simp only [Bool.false_eq_true, if_false]
              exact ⟨lt, hl, ι4, M4, acc, o2, (s2.trans s3).trans s4, hD4, e4, da2.ext (x3.trans x4), A4, h2⟩
            | true =>
              simp only [if_true]
              refine ⟨ι4, M4, _, A4, E3.ext x4, ?_⟩
              cases ef : fk (setD is ds (wipeD env own)) M4 with
              | bad => simp only [ef] at h2; exact h2.elim
              | exc _ _ _ => simp only [ef] at h2; exact h2.elim
              | ok y M5 =>
                simp only [ef] at h2
                intro ι5 H5 yv s5 A5 r5
                obtain ⟨hD5, e5⟩ := s5.out hD4 e4
                have x5 := s5.ext (K := (cgd X).K) A4.nt
                refine ⟨ι5, M5, _, A5, (E3.ext x4).ext x5, ?_⟩
                cases eg : fv (setD is ds (wipeD env own)) M5 with
                | bad => simp only [eg] at h2; exact h2.elim
                | exc _ _ _ => simp only [eg] at h2; exact h2.elim
                | ok z M6 =>
                  simp only [eg] at h2
                  intro ι6 H6 zv s6 A6 r6
                  obtain ⟨hD6, e6⟩ := s6.out hD5 e5
                  have x6 := s6.ext (K := (cgd X).K) A5.nt
                  split at h2
                  · rename_i hk
                    simp only [Bool.and_eq_true, decide_eq_true_eq] at hk
                    refine ⟨ι6, acc, o2, y, z, e6, da2.ext (((x3.trans x4).trans x5).trans x6), r5.ext x6, r6, hk.1, hk.2, fun o' da' => ?_⟩
                    exact ⟨lt, hl, ι6, M6, _, o', ((((s2.trans s3).trans s4).trans s5).trans s6).off hD, hD6, upd_same, da', abs_off A6 hD6 (rd_dct e6) (nf_dct e6), h2⟩
                  · exact h2.elim
    · rw [if_neg hgd] at h2; exact h2.elim
theorem se_dc {kx vx tg iter : Expr} {ifs : List Expr} {scope : Scope} {own : List (Str × Nat)} {pos : Pos} {fi : IF} {one : Bool} {is : List Nat} {t : TG} {c : TF} {fk fv : EF} (hc : X.calm = true) (hN : X.N.Nodup) (hu : X.A.units + 64 < cLine) (hi : SI X W tg iter fi) (ok : BlkOk X.N X.env.scope scope own) (hown : ∀ i ∈ is, i ∈ own.map (·.2))
    (hb : ∀ (s : Shared) (H : Hp) (C : Addr) (cl : List (Str × Addr)) (fp : List Addr), PG (X.blk s H scope (compEnvC scope cl C X.env) fp) tg t ∧ PTs (X.blk s H scope (compEnvC scope cl C X.env) fp) ifs (tT (cgd (X.blk s H scope (compEnvC scope cl C X.env) fp)) W0 c) ∧ SE (X.blk s H scope (compEnvC scope cl C X.env) fp) W0 kx fk ∧ SE (X.blk s H scope (compEnvC scope cl C X.env) fp) W0 vx fv)
    (rd : ∀ {ι : List Addr} {H : Hp} {d : D} {ds : List D} {x : V} {σ : St} {Q : St → Hp → Prop}, parts one is.length d = some ds → Rep X.K ι H d x → (∀ vs, Reps X.K ι H ds vs → Q (setV is vs σ) H) → t x σ H Q)
    (hs : ∀ x, foldedSetIterable iter X.env x = pure x := by intro _; rfl) : SE X W (.DictComp kx vx [⟨tg, iter, ifs, 0⟩] scope pos) (eDc fi one is (own.map (·.2)) c fk fv) :=
  (pe_dcN (RS := rsD (cgd X)) hc hN hi ok (fun s H C cl fp => ⟨(hb s H C cl fp).1, (hb s H C cl fp).2.1, (hb s H C cl fp).2.2.1, (hb s H C cl fp).2.2.2, set_dcN (X := X.blk s H scope (compEnvC scope cl C X.env) fp) hu⟩) hs).imp fun σ H Q h => dc_read hown rd h
end
end Sh

namespace Sh
open PySem L2

section
variable {X : Cx} {W : WX}
/-! ### list comprehensions, by target -/
theorem se_lcP {elt tg iter : Expr} {ifs : List Expr} {scope : Scope} {own : List (Str × Nat)} {pos : Pos} {fi : IF} {one : Bool} {is : List Nat} {t : TG} {c : TF} {f : EF} (hc : X.calm = true) (hN : X.N.Nodup) (hi : SI X W tg iter fi) (ok : BlkOk X.N X.env.scope scope own) (hown : ∀ i ∈ is, i ∈ own.map (·.2))
    (hb : ∀ (s : Shared) (H : Hp) (C : Addr) (cl : List (Str × Addr)) (fp : List Addr), PG (X.blk s H scope (compEnvC scope cl C X.env) fp) tg t ∧ PTs (X.blk s H scope (compEnvC scope cl C X.env) fp) ifs (tT (cgd (X.blk s H scope (compEnvC scope cl C X.env) fp)) W0 c) ∧ SE (X.blk s H scope (compEnvC scope cl C X.env) fp) W0 elt f)
    (rd : ∀ {ι : List Addr} {H : Hp} {d : D} {ds : List D} {x : V} {σ : St} {Q : St → Hp → Prop}, parts one is.length d = some ds → Rep X.K ι H d x → (∀ vs, Reps X.K ι H ds vs → Q (setV is vs σ) H) → t x σ H Q)
    (hs : ∀ x, foldedSetIterable iter X.env x = pure x := by intro _; rfl) : SE X W (.ListComp elt [⟨tg, iter, ifs, 0⟩] scope pos) (eLc fi one is (own.map (·.2)) c f) :=
  (pe_lc hc hN hi ok (fun s H C cl fp => (hb s H C cl fp).1) (fun s H C cl fp => (hb s H C cl fp).2.1) (fun s H C cl fp => (hb s H C cl fp).2.2) hs).imp fun σ H Q h => lc_read hown rd h
theorem ss_setLcP {i : Nat} {y : Str} {py : Pos} {elt tg iter : Expr} {ifs : List Expr} {scope : Scope} {own : List (Str × Nat)} {pos spos : Pos} {fi : IF} {one : Bool} {is : List Nat} {t : TG} {c : TF} {f : EF} (hc : X.calm = true) (hN : X.N.Nodup) (hy : X.N[i]? = some y) (hyl : X.env.scope.names.lookup y = some .local)
    (hsw : swapsWith (.ListComp elt [⟨tg, iter, ifs, 0⟩] scope pos) (some (.Name y py)) spos.line X.env = pure true) (hi : SI X W tg iter fi) (ok : BlkOk X.N X.env.scope scope own) (hown : ∀ i ∈ is, i ∈ own.map (·.2))
    (hb : ∀ (s : Shared) (H : Hp) (C : Addr) (cl : List (Str × Addr)) (fp : List Addr), PG (X.blk s H scope (compEnvC scope cl C X.env) fp) tg t ∧ PTs (X.blk s H scope (compEnvC scope cl C X.env) fp) ifs (tT (cgd (X.blk s H scope (compEnvC scope cl C X.env) fp)) W0 c) ∧ SE (X.blk s H scope (compEnvC scope cl C X.env) fp) W0 elt f)
    (rd : ∀ {ι : List Addr} {H : Hp} {d : D} {ds : List D} {x : V} {σ : St} {Q : St → Hp → Prop}, parts one is.length d = some ds → Rep X.K ι H d x → (∀ vs, Reps X.K ι H ds vs → Q (setV is vs σ) H) → t x σ H Q)
    (hs : ∀ x, foldedSetIterable iter X.env x = pure x := by intro _; rfl) : SS X W (.Assign [.Name y py] (.ListComp elt [⟨tg, iter, ifs, 0⟩] scope pos) spos) (sSet i (eLc fi one is (own.map (·.2)) c f)) :=
  (ps_setLc hc hN hy hyl hsw hi ok (fun s H C cl fp => (hb s H C cl fp).1) (fun s H C cl fp => (hb s H C cl fp).2.1) (fun s H C cl fp => (hb s H C cl fp).2.2) hs).imp fun C σ H h => by
    obtain ⟨ι, M, env, A, E, h⟩ := h
    refine lc_read hown rd (tE.mono (tE.seqS A E h) fun x H1 ⟨ι1, M1, d, s1, A1, E1, r1, _, h1⟩ => ?_)
    exact h1 ι1 H1 _ Step.refl A1 (E1.set r1)
/-! ### a, b = x, y with plain local names -/
def sPar (is : List Nat) (fa : AF) : SF := fun env M => (fa env M).bindS env fun ds M1 => if ds.length = is.length then .ok (.nx (setD is ds env)) M1 else .bad
theorem tA.seqS {G : Gd} {ι : List Addr} {H : Hp} {σ : St} {M : Store} {env : Env} {f : AF} {g : List D → Store → Res Fl} {C : Ends} (A : Abs G.K ι H G.P G.w M) (E : EnvR G.K ι H env σ)
    (h : PostS G W ι H ((f env M).bindS env g) C) :
    tA G W f σ H fun x H1 => ∃ ι1 M1 d, Step ι H ι1 H1 ∧ Abs G.K ι1 H1 G.P G.w M1 ∧ EnvR G.K ι1 H1 env σ ∧ Reps G.K ι1 H1 d x ∧ f env M = .ok d M1 ∧ PostS G W ι1 H1 (g d M1) C := by
  refine ⟨ι, M, env, A, E, ?_⟩
  cases e : f env M with
  | ok d M1 =>
    rw [e] at h
    exact fun ι' H' v s a r => ⟨ι', M1, d, s, a, E.ext (s.ext A.nt), r, rfl, PostS.step s h⟩
  | exc c fs M1 => rw [e] at h; exact fun ι' H' cls d s a x => h ι' H' σ cls d s a (E.ext (s.ext A.nt)) x
  | bad => rw [e] at h; exact h
theorem ss_par2 {i j : Nat} {x y : Str} {a b : Expr} {fa : AF} {px py pt pos : Pos} {kt k2 : Nat} {pt2 : Pos} (hc : X.calm = true) (hN : X.N.Nodup) (hi : X.N[i]? = some x) (hj : X.N[j]? = some y) (hij : i ≠ j)
    (hx : X.env.scope.names.lookup x = some .local) (hy : X.env.scope.names.lookup y = some .local) (ha : SA X W [a, b] fa)
    (hw : swappedStores [.Tuple [.Name x px, .Name y py] kt pt] (.Tuple [a, b] k2 pt2) X.env = pure (some [x, y]))
    (hs : swapsWithSole [.Tuple [.Name x px, .Name y py] kt pt] (.Tuple [a, b] k2 pt2) pos.line X.env = pure false := by rfl) :
    SS X W (.Assign [.Tuple [.Name x px, .Name y py] kt pt] (.Tuple [a, b] k2 pt2) pos) (sPar [i, j] fa) :=
  (ps_par hc hN hi hj hij hx hy ha hw hs).imp fun C σ H h => by
    obtain ⟨ι, M, env, A, E, h⟩ := h
    refine tA.mono (tA.seqS A E h) fun vs H1 ⟨ι1, M1, ds, s1, A1, E1, r1, _, h1⟩ => ?_
    split at h1
    · rename_i hl
      match ds, hl, r1, h1 with
      | [d, e], hl, r1, h1 =>
        obtain ⟨v, u, rfl, rv, ru⟩ := reps_two r1
        exact ⟨v, u, rfl, h1 ι1 H1 _ Step.refl A1 ((E1.set rv).set ru)⟩
    · exact h1.elim
theorem reps_three {K : PySem.W.Frag} {ι : List Addr} {H : Hp} {d e f : D} {xs : List V} (h : Reps K ι H [d, e, f] xs) : ∃ v u w, xs = [v, u, w] ∧ Rep K ι H d v ∧ Rep K ι H e u ∧ Rep K ι H f w := by
  simp only [Reps] at h
  obtain ⟨v, r, rfl, a, u, r2, rfl, b, w, r3, rfl, c, rfl⟩ := h
  exact ⟨v, u, w, rfl, a, b, c⟩
theorem ss_par3 {i j l : Nat} {x y z : Str} {a b c : Expr} {fa : AF} {px py pz pt pos : Pos} {kt k2 : Nat} {pt2 : Pos} (hc : X.calm = true) (hN : X.N.Nodup) (hi : X.N[i]? = some x) (hj : X.N[j]? = some y) (hl : X.N[l]? = some z) (hij : i ≠ j) (hil : i ≠ l) (hjl : j ≠ l)
    (hx : X.env.scope.names.lookup x = some .local) (hy : X.env.scope.names.lookup y = some .local) (hz : X.env.scope.names.lookup z = some .local) (ha : SA X W [a, b, c] fa)
    (hw : swappedStores [.Tuple [.Name x px, .Name y py, .Name z pz] kt pt] (.Tuple [a, b, c] k2 pt2) X.env = pure (some [x, y, z]))
    (hs : swapsWithSole [.Tuple [.Name x px, .Name y py, .Name z pz] kt pt] (.Tuple [a, b, c] k2 pt2) pos.line X.env = pure false := by rfl) :
    SS X W (.Assign [.Tuple [.Name x px, .Name y py, .Name z pz] kt pt] (.Tuple [a, b, c] k2 pt2) pos) (sPar [i, j, l] fa) :=
  (ps_par3 hc hN hi hj hl hij hil hjl hx hy hz ha hw hs).imp fun C σ H h => by
    obtain ⟨ι, M, env, A, E, h⟩ := h
    refine tA.mono (tA.seqS A E h) fun vs H1 ⟨ι1, M1, ds, s1, A1, E1, r1, _, h1⟩ => ?_
    split at h1
    · rename_i hl
      match ds, hl, r1, h1 with
      | [d, e, f], hl, r1, h1 =>
        obtain ⟨v, u, w, rfl, rv, ru, rw'⟩ := reps_three r1
        exact ⟨v, u, w, rfl, h1 ι1 H1 _ Step.refl A1 (((E1.set rv).set ru).set rw')⟩
    · exact h1.elim
/-! ### list(d) -/
theorem vals_keys {K : PySem.W.Frag} {ι : List Addr} {H : Hp} {P : Program} {w : World} {kvs : List (D × D)} {xs : List (NestedKey × Addr × Value)} {es : Array DictEntry} {acc : Array Value} (he : es.toList = xs.map (entryOfKey (nestedKind P w))) (pr : Paired (EntR K ι H) kvs xs)
    (hacc : ItemsOf (fun i v => ∃ hi : i < es.size, v = es[i].key) acc es.size) : ∃ vs, Vals vs acc.toList ∧ Reps K ι H (kvs.map (·.1)) vs := by
  have hz := ent_size he pr
  have main : ∀ (kvs' : List (D × D)) (us : List Value) (n : Nat), us.length = kvs'.length → (∀ (j : Nat) (p : D × D) (u : Value), kvs'[j]? = some p → us[j]? = some u → ∃ q, u = Value.ref q ∧ Rep K ι H p.1 (.ref q)) → ∃ vs, Vals vs us ∧ Reps K ι H (kvs'.map (·.1)) vs := by
    intro kvs'
    induction kvs' with
    | nil => intro us n hl h; have : us = [] := List.length_eq_zero_iff.mp hl; subst this; exact ⟨[], .nil, by simp only [List.map_nil, Reps]⟩
    | cons p kvs' ih =>
      intro us n hl h
      cases us with
      | nil => simp at hl
      | cons u us =>
        obtain ⟨vs, a, b⟩ := ih us n (by simpa using hl) fun j p' u' h1 h2 => h (j + 1) p' u' (by simpa using h1) (by simpa using h2)
        obtain ⟨q, e1, e2⟩ := h 0 p u rfl rfl
        exact ⟨.ref q :: vs, .cons e1 a, by simp only [List.map_cons, Reps]; exact ⟨_, _, rfl, e2, b⟩⟩
  refine main kvs acc.toList 0 (by rw [Array.length_toList, hacc.1, hz]) fun j p u h1 h2 => ?_
  obtain ⟨hi, e⟩ := hacc.2 j u (by rw [← Array.getElem?_toList]; exact h2)
  obtain ⟨q, v, g1, g2, g3, g4⟩ := ent_get he pr h1 hi
  exact ⟨q, e.trans g1, g3⟩
theorem vals_vals {K : PySem.W.Frag} {ι : List Addr} {H : Hp} {P : Program} {w : World} {kvs : List (D × D)} {xs : List (NestedKey × Addr × Value)} {es : Array DictEntry} {acc : Array Value} (he : es.toList = xs.map (entryOfKey (nestedKind P w))) (pr : Paired (EntR K ι H) kvs xs)
    (hacc : ItemsOf (fun i v => ∃ hi : i < es.size, v = es[i].val) acc es.size) : ∃ vs, Vals vs acc.toList ∧ Reps K ι H (kvs.map (·.2)) vs := by
  have hz := ent_size he pr
  have main : ∀ (kvs' : List (D × D)) (us : List Value) (n : Nat), us.length = kvs'.length → (∀ (j : Nat) (p : D × D) (u : Value), kvs'[j]? = some p → us[j]? = some u → ∃ q, RelV q u ∧ Rep K ι H p.2 q) → ∃ vs, Vals vs us ∧ Reps K ι H (kvs'.map (·.2)) vs := by
    intro kvs'
    induction kvs' with
    | nil => intro us n hl h; have : us = [] := List.length_eq_zero_iff.mp hl; subst this; exact ⟨[], .nil, by simp only [List.map_nil, Reps]⟩
    | cons p kvs' ih =>
      intro us n hl h
      cases us with
      | nil => simp at hl
      | cons u us =>
        obtain ⟨vs, a, b⟩ := ih us n (by simpa using hl) fun j p' u' h1 h2 => h (j + 1) p' u' (by simpa using h1) (by simpa using h2)
        obtain ⟨q, e1, e2⟩ := h 0 p u rfl rfl
        exact ⟨q :: vs, .cons e1 a, by simp only [List.map_cons, Reps]; exact ⟨_, _, rfl, e2, b⟩⟩
  refine main kvs acc.toList 0 (by rw [Array.length_toList, hacc.1, hz]) fun j p u h1 h2 => ?_
  obtain ⟨hi, e⟩ := hacc.2 j u (by rw [← Array.getElem?_toList]; exact h2)
  obtain ⟨q, v, g1, g2, g3, g4⟩ := ent_get he pr h1 hi
  exact ⟨v, e ▸ g2, g4⟩
def gListA : D → Store → Option (D × Store) := fun d M => match d with
  | .ref n => match dctM M n with
    | some kvs => some (.ref M.length, M ++ [.lst (kvs.map (·.1))])
    | none => gList d M
  | _ => gList d M
def rListK (G : Gd) : List V → Hp → VK → Prop := fun xs H Q => ∃ ι M n kvs a, xs = [.ref a] ∧ Abs G.K ι H G.P G.w M ∧ ι[n]? = some a ∧ dctM M n = some kvs ∧ ∀ p vs, H p = none → Reps G.K ι H (kvs.map (·.1)) vs → Q (.ref p) (upd H p (.lst vs))
theorem cr_listK (hc : X.calm = true) : CallR X (.type "list") (rListK (cgd X)) := by
  intro pins s σ H xs us Q I r h
  obtain ⟨ι, M, n, kvs, a, rfl, A, ea, e, q⟩ := h
  rw [Vals.ref1 r]
  obtain ⟨o, ho, g1, g2, g3, es, ep, xs, g4, g5, g6, g7⟩ := dct_get I A ea e
  have hz := ent_size g5 g7
  refine PySem.W.kdl_call (KdlSrc.rawDict (es := es) (ep := ep) g1) (I.ok.hd hc) ⟨o, ho, g3, g4⟩ (by rw [hz]; exact g2) fun h' tk acc c hkeep hS hacc => ?_
  obtain ⟨vs, v1, v2⟩ := vals_keys g5 g7 hacc
  refine ⟨.ref s.heap.objs.size, upd H s.heap.objs.size (.lst vs), I.laid hkeep (Nat.le_refl _) (show ObjOk X.prog X.w _ _ _ (.lst vs) from ⟨?_, acc.toList, c, v1, ?_⟩), rfl, q _ vs (I.hok.fresh (Nat.le_refl _)) v2⟩
  · rw [← v2.length, List.length_map]; exact g2
  · rw [Array.toArray_toList]; exact hS
theorem cl_listA (hc : X.calm = true) : SCl X (.type "list") (op1 gListA) := cl_one (CallR.or (cr_listK hc) cl_list) fun ι M H d x Q A r q => by
  have alt : PostO (cgd X) ι H (gList d M) Q → rON (cgd X) (op1 gList) [x] H Q := fun q => ⟨ι, M, [d], A, Reps.one r, q⟩
  cases d with
  | ref n =>
    unfold gListA at q
    cases e : dctM M n with
    | none => simp only [e] at q; exact .inr (alt q)
    | some kvs =>
      simp only [e] at q
      simp only [Rep] at r
      obtain ⟨a, ea, rfl⟩ := r
      exact .inl ⟨ι, M, n, kvs, a, rfl, A, ea, e, fun p vs hp rv => PostO.lst A rv q p hp⟩
  | _ => exact .inr (alt q)
/-- list(e.values()) -/
def eLVals (f : EF) : EF := fun env M => (f env M).bind fun d M1 => match d with
  | .ref n => match dctM M1 n with
    | some kvs => .ok (.ref M1.length) (M1 ++ [.lst (kvs.map (·.2))])
    | none => .bad
  | _ => .bad
theorem se_listVals {e : Expr} {f : EF} {p pos apos cpos : Pos} (hc : X.calm = true) (he : SE X W e f) (hg : Gl X "list") (hm : X.mg "list" = none) (hbase : attributeBase e "values" X.env (eval e X.env) = eval e X.env := by rfl) (hline : (apos.endLine == cpos.line) = true := by rfl)
    (hs : starEach [.Call (.Attribute e "values" apos) [] [] cpos] X.env = (false, eval (.Call (.Attribute e "values" apos) [] [] cpos) X.env) :: starEach [] X.env := by rfl) :
    SE X W (.Call (.Name "list" p) [.Call (.Attribute e "values" apos) [] [] cpos] [] pos) (eLVals f) := ⟨fun pins s σ H Q I hq => by
  obtain ⟨ι, M, env, A, E, h⟩ := hq
  refine wpAny_Call_Name_kw (ld_blt I hg hm PyProof.Rows.boot_list ?_)
  refine PyProof.Rows.callWith_type1 ?_ hs rfl
  rw [hs]
  show wpAny _ _ (spliced ((false, eval (.Call (.Attribute e "values" apos) [] [] cpos) X.env) :: backTo pos (starEach [] X.env))) _ _ s
  refine Calls.spliced_cons ?_
  refine wpAny_Call_method (T := "dict") (id := "dict.values") hbase rfl hline F.plainAttrs_dict F.slot_dict_values F.type_dict_values (thn (he.run pins s σ H _ I (tE.seq A E h)) fun v s1 ⟨x, H1, I1, r1, ι1, M1, d, st, A1, E1, rd, _, h1⟩ => ?_)
  cases d with
  | ref n =>
    simp only [Rep] at rd
    obtain ⟨a, ea, rfl⟩ := rd
    cases (show v = Value.ref a from r1)
    simp only at h1
    cases e : dctM M1 n with
    | none => rw [e] at h1; exact h1.elim
    | some kvs =>
      rw [e] at h1
      obtain ⟨o, ho, g1, g2, g3, es, ep, xs, g4, g5, g6, g7⟩ := dct_get I1 A1 ea e
      have hz := ent_size g5 g7
      have raw : s1.heap.DictRaw a es ep := ⟨o, ho, g3, g4⟩
      have I2 : Inv X pins σ H1 { s1 with heap := s1.heap.push { cls := .type "dict_values", data := .fields #[.ref a] } } := I1.kept (t' := s1.toks) fun b ob q => Heap.get?_push_of_some _ q
      refine ⟨⟨o, ho, g3.1⟩, fun b eb => by { cases eb; exact ⟨o, ho, g3.2.1⟩ }, ?_⟩
      show wpAny _ _ (callWith cpos (.builtin "dict.values") [.ref a] [] []) _ X.xe s1
      refine method_meetsIn F.slot_dict_values F.entry_dict_values rfl (PySem.evalArgs_none ⟨rfl, raw.typeIs, F.args_dict_values_1 _, _, meets_dict_values_raw a g1, ⟨es, ep, raw⟩, ?_⟩)
      refine Calls.spliced_nil ?_
      refine PySem.W.kdl_call (KdlSrc.rawValues (r := s1.heap.objs.size) (d := a) (es := es) (ep := ep)) (I2.ok.hd hc) ⟨⟨_, Heap.get?_push_size _ rfl, rfl, rfl⟩, raw.push _⟩ (by rw [hz]; exact g2) fun h' tk acc c hkeep hS hacc => ?_
      obtain ⟨vs, v1, v2⟩ := vals_vals g5 g7 hacc
      have hfr := I2.hok.fresh (Nat.le_refl _)
      refine ⟨.ref _, upd H1 _ (.lst vs), I2.laid hkeep (Nat.le_refl _) (show ObjOk X.prog X.w _ _ _ (.lst vs) from ⟨?_, acc.toList, c, v1, ?_⟩), rfl, PostO.lst A1 v2 (Post.ofO (r := some _) h1) _ hfr⟩
      · rw [← v2.length, List.length_map]; exact g2
      · rw [Array.toArray_toList]; exact hS
  | _ => exact h1.elim⟩
end
end Sh

namespace PySem
section
variable {prog : Program} {w : World} {K : Type} [DecidableEq K] {knd : HeapKind prog w K} {A : Around} {E : Value → Shared → Prop} {s : Shared}
theorem sh_dict_copy {o : Addr} {more : List (K × Addr × Value)} {Q : Value → Shared → Prop} (hu : knd.room A.in1.in1) (hoS : (o == sysModules) = false) (hlt : o < s.heap.objs.size) (ho' : (s.heap.push { cls := .type "dict", data := .dict #[] }).DictOfH knd o more)
    (hap : (∀ x ∈ more, Shared.TypeIs { s with heap := s.heap.push { cls := .type "dict", data := .dict #[] } } (.ref x.2.1) "tuple") ∧ (more.map fun x => knd.hash x.1).Nodup) (hsz : more.length ≤ sizeLine)
    (h : ∀ h', h'.DictOfH knd s.heap.objs.size more → Heap.SameBut s.heap.objs.size (s.heap.push { cls := .type "dict", data := .dict #[] }) h' → Q (.ref s.heap.objs.size) { s with heap := h' }) :
    wpAny (model prog w) A (call (.type "dict") [.ref o]) Q E s := by
  refine callType_codes (Q₁ := fun obj s₁ => obj = .ref s.heap.objs.size ∧ s₁ = { s with heap := s.heap.push { cls := .type "dict", data := .dict #[] } }) F.kt_called_dict (F.kt_typeCall_dict_1 _) F.entry_dict_init (kt_code_dict_new _ ⟨rfl, rfl⟩) ?_
  rintro obj s₁ ⟨rfl, rfl⟩
  have hnew : (s.heap.push { cls := .type "dict", data := .dict #[] }).DictOfH knd s.heap.objs.size [] := Heap.DictOfH.new s.heap
  have hn : (more.map (·.1)).Nodup := ho'.nodup
  have hdo : s.heap.objs.size ≠ o := Nat.ne_of_gt hlt
  refine ⟨hnew.typeIs, F.args_dict_init_2 _ _, ?_⟩
  unfold Builtin.«dict.__init__»
  refine wpAny_bind ?_
  unfold Builtin.Dict.selfAndRest
  refine wpAny_bind (wpAny_notOrdered_dict hnew.typeIs ?_)
  show wpAny _ _ (pure (s.heap.objs.size, [Value.ref o])) _ _ _
  refine wpAny_pure ?_
  show wpAny _ _ (Builtin.Dict.updateFrom "dict.__init__" s.heap.objs.size (.ref o) [] .none) _ _ _
  refine updateFrom_dictH (A := A.in1) (kvs := []) (more := more) .none hu hdo hoS hnew ho' (.inr hap) (by simpa using hsz) fun h' hd' _ sb => ?_
  rw [storedAllH_nil_of_nodup more hn] at hd'
  exact ⟨rfl, h h' hd' sb⟩
end
end PySem
namespace Sh
open PySem L2
/-! ### dict(d), d a dict: a copy, where no two keys hash alike -/
/-- no text in the key: its hash is the same in each world -/
def noTx : NestedKey → Bool
  | .none => true
  | .num _ => true
  | .text _ => false
  | .tup ks => noTxs ks
where noTxs : List NestedKey → Bool
  | [] => true
  | k :: ks => noTx k && noTxs ks
/-- the hash, by data -/
def hsh : NestedKey → Int
  | .none => reduceHash 0xFCA86420
  | .num i => hashInt i
  | .text _ => 0
  | .tup ks => reduceHash (Builtin.Tuple.tupleHashOf (hshs ks))
where hshs : List NestedKey → List Int
  | [] => []
  | k :: ks => hsh k :: hshs ks
mutual
theorem hsh_eq (w : World) : ∀ k : NestedKey, noTx k = true → k.hash w = hsh k
  | .none, _ => by unfold NestedKey.hash hsh; rfl
  | .num i, _ => by unfold NestedKey.hash hsh; rfl
  | .text _, h => by cases h
  | .tup ks, h => by
    have h : noTx.noTxs ks = true := by unfold noTx at h; exact h
    have e := hshs_eq w ks h
    unfold NestedKey.hash hsh
    rw [e]
theorem hshs_eq (w : World) : ∀ ks : List NestedKey, noTx.noTxs ks = true → NestedKey.hashes w ks = hsh.hshs ks
  | [], _ => by unfold NestedKey.hashes hsh.hshs; rfl
  | k :: ks, h => by
    have h : (noTx k && noTx.noTxs ks) = true := by unfold noTx.noTxs at h; exact h
    simp only [Bool.and_eq_true] at h
    unfold NestedKey.hashes hsh.hshs
    rw [hsh_eq w k h.1, hshs_eq w ks h.2]
end
def nodupI : List Int → Bool
  | [] => true
  | i :: l => !(l.contains i) && nodupI l
theorem nodupI_ok : ∀ {l : List Int}, nodupI l = true → l.Nodup
  | [], _ => List.nodup_nil
  | i :: l, h => by
    simp only [nodupI, Bool.and_eq_true, Bool.not_eq_true'] at h
    exact List.nodup_cons.mpr ⟨by simpa using h.1, nodupI_ok h.2⟩
/-- the keys' hashes, if all are told by data -/
def hashesD : List (D × D) → Option (List Int)
  | [] => some []
  | (k, _) :: r => match nkey k with
    | some x => if noTx x = true then (hashesD r).map (hsh x :: ·) else none
    | none => none
def apartD (kvs : List (D × D)) : Bool := decide (kvs.length ≤ 1) || (match hashesD kvs with
  | some l => nodupI l
  | none => false)
theorem hashesD_ok {K : PySem.W.Frag} {ι : List Addr} {H : Hp} {w : World} : ∀ {kvs : List (D × D)} {xs : List (NestedKey × Addr × Value)} {l : List Int}, Paired (EntR K ι H) kvs xs → hashesD kvs = some l → (xs.map fun x => x.1.hash w) = l
  | _, _, l, .nil, e => by cases e; rfl
  | (k, v) :: kvs, x :: xs, l, .cons r t, e => by
    unfold hashesD at e
    rw [r.1] at e
    simp only at e
    split at e
    · rename_i hn
      simp only [Option.map_eq_some_iff] at e
      obtain ⟨l', e1, rfl⟩ := e
      rw [List.map_cons, hsh_eq w _ hn, hashesD_ok t e1]
    · cases e
theorem apartD_ok {K : PySem.W.Frag} {ι : List Addr} {H : Hp} {w : World} {kvs : List (D × D)} {xs : List (NestedKey × Addr × Value)} (p : Paired (EntR K ι H) kvs xs) (h : apartD kvs = true) : (xs.map fun x => x.1.hash w).Nodup := by
  simp only [apartD, Bool.or_eq_true, decide_eq_true_eq] at h
  rcases h with h | h
  · have := Paired.length p
    match xs, this with
    | [], _ => exact List.nodup_nil
    | [x], _ => simp
    | _ :: _ :: _, this => simp at this; omega
  · cases e : hashesD kvs with
    | none => rw [e] at h; cases h
    | some l =>
      rw [e] at h
      rw [hashesD_ok p e]
      exact nodupI_ok h
def gDict : D → Store → Option (D × Store) := fun d M => match d with
  | .ref n => match dctM M n with
    | some kvs => if apartD kvs = true then some (.ref M.length, M ++ [.dct kvs]) else none
    | none => none
  | _ => none
section
variable {X : Cx} {W : WX}
theorem cl_dictC (hu : X.A.units + 64 < cLine) : SCl X (.type "dict") (op1 gDict) := by
  intro pins s σ H xs us Q I r h
  obtain ⟨ι, M, ds, A, rr, q⟩ := h
  match ds, rr, q with
  | [.ref n], rr, q =>
    obtain ⟨v, rfl, rv⟩ := reps_one rr
    simp only [Rep] at rv
    obtain ⟨a, ea, rfl⟩ := rv
    rw [Vals.ref1 r]
    simp only [op1, gDict] at q
    cases e : dctM M n with
    | none => rw [e] at q; exact q.elim
    | some kvs =>
      simp only [e] at q
      split at q
      · rename_i hap
        have I2 : Inv X pins σ H { s with heap := s.heap.push { cls := .type "dict", data := .dict #[] } } := I.kept (t' := s.toks) fun b ob q => Heap.get?_push_of_some _ q
        obtain ⟨o, ho, da⟩ := dct_get I A ea e
        obtain ⟨o2, ho2, da2⟩ := dct_get I2 A ea e
        obtain ⟨xs, hx, pr, hxl, hz, hs⟩ := dct_of I2 ho2 da2
        refine sh_dict_copy (knd := nestedKind X.prog X.w) (show X.A.units + 1 + 1 + 8 < cLine by omega) hs (Heap.lt_size ho) hx ⟨fun x hx' => ?_, apartD_ok pr hap⟩ (by omega) fun h' hd sb => ?_
        · obtain ⟨o', es, ep, _, _, _, _, his, _⟩ := hx
          have hk := (his x hx').1
          obtain ⟨i, hi⟩ := List.getElem?_of_mem hx'
          have : ∀ {k : NestedKey} {q : Addr}, NestedIs (s.heap.push { cls := .type "dict", data := .dict #[] }) k (.ref q) → Shared.TypeIs { s with heap := s.heap.push { cls := .type "dict", data := .dict #[] } } (.ref q) "tuple" := by
            intro k q hk
            cases hk with
            | tup hg hc hd hk => exact ⟨_, hg, hc⟩
          exact this hk
        · have hn := I.hok.fresh (Nat.le_refl s.heap.objs.size)
          obtain ⟨o', es, ep, ho', hex, hdt, hes, _, hnd⟩ := hd
          have kp : ∀ b u, s.heap.get? b = some u → h'.get? b = some u := fun b u e => (sb.2 b (Nat.ne_of_lt (Heap.lt_size e))).trans (Heap.get?_push_of_some _ e)
          have x3 : Ext X.K ι H (ι ++ [s.heap.objs.size]) (upd H s.heap.objs.size (dctO s.heap.objs.size o')) := ext_new hn _
          refine ⟨.ref s.heap.objs.size, upd H s.heap.objs.size (dctO s.heap.objs.size o'), I.laid (t' := s.toks) kp (Nat.le_refl _) (dctO_new (X := X) ho'), rfl, q (ι ++ [s.heap.objs.size]) _ _ (step_new hn) (A.new hn ⟨o', upd_same, big_ne I.big, hz, hex, es, ep, xs, hdt, hes, hnd, Paired.mapP pr fun _ _ z => z.ext x3⟩) ?_⟩
          simp only [Rep]
          exact ⟨_, by rw [← A.len]; simp, rfl⟩
      · exact q.elim
  | [.non], rr, q => exact q.elim
  | [.bl _], rr, q => exact q.elim
  | [.int _], rr, q => exact q.elim
  | [.str _], rr, q => exact q.elim
  | [.tup _], rr, q => exact q.elim
  | [.ty _], rr, q => exact q.elim
  | [], rr, q => exact q.elim
  | _ :: _ :: _, rr, q => exact q.elim
end
end Sh

namespace Sh
open PySem L2
/-! ### o.m(k = v, ..) -/
def eMethK (c : Nat) (m : Str) (nk np : Nat) (gD : List D → List D → List D) (ff : FF) (fo : EF) (fk : AF) : EF := fun env M => (fo env M).bind fun o M1 => match o with
  | .ref i => match M1[i]? with
    | some (.ins c' fs) => if c' = c ∧ fs.lookup m = none then (fk env M1).bind fun es M2 => if es.length = nk ∧ (gD [.ref i] es).length = np then ff (gD [.ref i] es) M2 else .bad else .bad
    | _ => .bad
  | _ => .bad
section
variable {X : Cx} {W : WX}
theorem FRel.none {K : PySem.W.Frag} {ι : List Addr} {H : Hp} {m : Str} : ∀ {fs : List (Str × D)} {vs : List (Str × V)}, FRel K ι H fs vs → fs.lookup m = none → vs.lookup m = none
  | _, _, .nil, _ => rfl
  | (a, d) :: fs, (b, v) :: vs, .cons r t, h => by
    obtain ⟨e, _⟩ := r
    simp only at e
    subst e
    simp only [List.lookup] at h ⊢
    cases q : (m == a) with
    | true => rw [q] at h; cases h
    | false => rw [q] at h; exact FRel.none t h
theorem se_methK0 {o : Expr} {m : Str} {apos pos : Pos} {c k np : Nat} {ks : List Str} {gD : List D → List D → List D} {ff : FF} {fo : EF} {fk : AF} {kws : List Keyword} {pl : Sem Bool} {f : Addr} (he : SE X W o fo) (cl : Cls X.K (ca X.K c)) (mt : Meth X.K (ca X.K c) m f) (F : FnK X k f 1 ks np gD ff) (hr : Room k X.A) (tk : Takes X W) (hkw : PK X kws (tA (cgd X) W fk))
    (hall : (backToKw pos (keywordEach kws X.env)).all (·.1.isSome) = true := by rfl) (hks : (backToKw pos (keywordEach kws X.env)).filterMap (·.1) = ks := by rfl)
    (hpl : ((backTo pos (starEach [] X.env)).any (·.1) || (backToKw pos (keywordEach kws X.env)).any (·.1.isNone)) = false := by rfl)
    (ht : eval (.Call (.Attribute o m apos) [] kws pos) X.env = (do
      let ov ← eval o X.env
      standAt apos.atName
      let (f, first) ← holding [ov] (getMethod ov m pl)
      callWith pos f first (backTo pos (starEach [] X.env)) (backToKw pos (keywordEach kws X.env))) := by rfl) :
    SE X W (.Call (.Attribute o m apos) [] kws pos) (eMethK c m ks.length np gD ff fo fk) := by
  obtain ⟨fd, ps, F, g, gV, hb, hgd⟩ := F
  refine ⟨fun pins s σ H Q I h => ?_⟩
  obtain ⟨ι, M, env, A, E, h⟩ := h
  refine PySem.W.methodCall_KW (pl := pl) (thn (he.run pins s σ H _ I (tE.seq A E h)) fun u s1 ⟨x, H1, I1, rx, ι1, M1, d, st, A1, E1, rd, _, h1⟩ => ?_) ht
  cases d with
  | ref i =>
    have rd0 := rd
    simp only [Rep] at rd
    obtain ⟨a, ea, rfl⟩ := rd
    obtain rfl : u = Value.ref a := rx
    simp only at h1
    cases e : M1[i]? with
    | none => rw [e] at h1; exact h1.elim
    | some ob =>
      rw [e] at h1
      cases ob with
      | ins c' fs =>
        simp only at h1
        by_cases hcc : c' = c ∧ fs.lookup m = none
        · rw [if_pos hcc] at h1
          obtain ⟨rfl, hno⟩ := hcc
          obtain ⟨dx, vs, g1, g2⟩ := A1.obj i a _ ea e
          refine getmeth_ok I1 g1 cl mt (g2.none hno) ?_
          refine PySem.W.callWith_KW0 (first := [.ref a]) (h₀ := X.base) I.ok.mod.kin mt.kp hall ?_ hpl
          refine thn (hkw.run pos pins s1 σ H1 _ I1 (tA.seq A1 E1 h1)) fun ws s2 ⟨zs, H2, I2, rz, ι2, M2, es, st2, A2, E2, re, _, h2⟩ => ⟨I2.kIn, ?_⟩
          rw [hks]
          by_cases hl : es.length = ks.length ∧ (gD [.ref i] es).length = np
          · rw [if_pos hl] at h2
            have r1 : Vals [V.ref a] [Value.ref a] := .cons rfl .nil
            have r2 := hb.rel r1 rz
            have hD : Reps X.K ι2 H2 (gD [.ref i] es) (gV [.ref a] zs) := hgd _ _ _ _ _ _ (Reps.one (rd0.ext (st2.ext A1.nt))) re
            refine wpAny_call (codeAny_mono (F.run X.A X.stack s2 H2 ⟨[.ref a], ks.zip ws⟩ (g [.ref a] ws) (gV [.ref a] zs) Q (WE W σ) hr I2.env0 (hb.to s2 [.ref a] ws I2.kIn rfl (by rw [← rz.length, ← re.length]; exact hl.1)) r2 ⟨ι2, M2, _, A2, hD, hl.2, postF_of h2⟩) fun r s' hq => ?_)
            cases r with
            | error e => exact passAt tk σ pins _ _ e s' I2 hq
            | ok fl =>
              cases fl with
              | ret u => exact I2.after hq
              | next => exact False.elim hq
              | brk => exact False.elim hq
              | cont => exact False.elim hq
          · rw [if_neg hl] at h2; exact h2.elim
        · rw [if_neg hcc] at h1; exact h1.elim
      | _ => exact h1.elim
  | _ => exact h1.elim
/-! ### the module's constants -/
theorem se_gint {x : Str} {i : Int} {pos : Pos} (hg : Gl X x) (hm : ∃ t, X.mg x = some (.int i t)) (hd : (x == ("__debug__" : Str)) = false := by decide) : SE X W (.Name x pos) (eC (.int i)) := by
  obtain ⟨t, hm⟩ := hm
  exact (pe_glob (v := .int i) hg hm ⟨t, rfl⟩ hd).imp fun σ H Q ⟨ι, M, env, A, E, h⟩ => h ι H _ Step.refl A (by simp only [Rep])
theorem se_gstr {x z : Str} {pos : Pos} (hg : Gl X x) (hm : ∃ t, X.mg x = some (.str z t)) (hd : (x == ("__debug__" : Str)) = false := by decide) : SE X W (.Name x pos) (eC (.str z)) := by
  obtain ⟨t, hm⟩ := hm
  exact (pe_glob (v := .str z) hg hm ⟨t, rfl⟩ hd).imp fun σ H Q ⟨ι, M, env, A, E, h⟩ => h ι H _ Step.refl A (by simp only [Rep])
/-- a tuple of texts -/
theorem reps_strs {K : PySem.W.Frag} {ι : List Addr} {H : Hp} : ∀ (zs : List Str), Reps K ι H (zs.map D.str) (zs.map V.str)
  | [] => by simp only [List.map_nil, Reps]
  | z :: zs => by simp only [List.map_cons, Reps]; exact ⟨_, _, rfl, by simp only [Rep], reps_strs zs⟩
theorem se_gtup {x : Str} {zs : List Str} {pos : Pos} (hg : Gl X x) (hm : X.mg x = some (.ref (He.ga X.K x))) (ht : He.tupB X.K x (zs.map He.Dv.str) = true) (hd : (x == ("__debug__" : Str)) = false := by decide) : SE X W (.Name x pos) (eC (.tup (zs.map D.str))) :=
  (pe_glob (v := .ref (He.ga X.K x)) hg hm rfl hd).imp fun σ H Q ⟨ι, M, env, A, E, h⟩ => h ι H _ Step.refl A (by
    have e : (zs.map He.Dv.str).map (He.Dv.v X.K) = zs.map V.str := by rw [List.map_map]; rfl
    have q := He.tupB_ok ht H
    rw [e] at q
    simp only [Rep]
    exact ⟨_, _, rfl, q, reps_strs zs⟩)
end
end Sh

namespace Sh
open PySem L2

/-! ### what a law's text gives -/
structure Wx where
  fa : List He.Fa
  fn : List He.DefD
  cs : List Nat
  tups : List (Str × List Str)
  flds : List (Str × List Nat)
  ext : PySem.W.Frag → Bool := fun _ => true
/-- no list stands in the written part -/
def noLst (K : PySem.W.Frag) : Bool := K.all fun p => match p.2.cls with
  | .type n => n != "list"
  | _ => true
theorem lookup_mem {K : PySem.W.Frag} {b : Addr} {o : Obj} (h : K.lookup b = some o) : ∃ p ∈ K, p.2 = o := by
  induction K with
  | nil => cases h
  | cons q K ih =>
    obtain ⟨c, u⟩ := q
    simp only [List.lookup] at h
    split at h
    · cases h; exact ⟨_, List.mem_cons_self, rfl⟩
    · obtain ⟨p, m, e⟩ := ih h; exact ⟨p, List.mem_cons_of_mem _ m, e⟩
theorem noLst_ok {K : PySem.W.Frag} (h : noLst K = true) : ∀ b o, K.lookup b = some o → o.cls ≠ .type "list" := fun b o e q => by
  obtain ⟨p, m, rfl⟩ := lookup_mem e
  have z := List.all_eq_true.mp h p m
  simp only [q] at z
  cases z
def Wx.chk1 (d : Wx) (K : PySem.W.Frag) : Bool := isiB K d.cs && ((d.tups.all fun p => He.tupB K p.1 (p.2.map He.Dv.str)) && (d.flds.all fun p => p.2.all fun c => (He.Fa.cls (cnm c)).ok K && (He.Fa.noat (cnm c) p.1).ok K))
def Wx.chk (d : Wx) (K : PySem.W.Frag) : Bool := (noLst K && d.ext K) && d.chk1 K
structure FX (d : Wx) (K : PySem.W.Frag) (mg : Str → Option Value) : Prop where
  says : He.SaysD d.fa d.fn K
  chk : d.chk K = true
  gl : ∀ x, He.Fa.glo x ∈ d.fa → mg x = some (.ref (He.ga K x))
  fr : ∀ x, He.Fa.free x ∈ d.fa → mg x = none
  it : ∀ x i, He.Fa.int x i ∈ d.fa → ∃ t, mg x = some (.int i t)
section
variable {d : Wx} {K : PySem.W.Frag} {mg : Str → Option Value}
theorem SaysD.mem (c : He.SaysD d.fa d.fn K) {f : He.Fa} (h : f ∈ d.fa) : f.ok K = true := by
  obtain ⟨i, e⟩ := List.getElem?_of_mem h
  exact c.fact i e
theorem FX.of {h : Heap} (X : K.In h) (G : h.Ns mainGlobals mg) (c : d.chk K = true) (s : He.SaysD d.fa d.fn K) : FX d K mg :=
  ⟨s, c, fun x m => He.glo_ok X G (SaysD.mem s m), fun x m => He.free_ok X G (SaysD.mem s m), fun x i m => He.int_ok X G (SaysD.mem s m)⟩
theorem FX.glo (F : FX d K mg) (i : Nat) {x : Str} (h : d.fa[i]? = some (.glo x) := by rfl) : mg x = some (.ref (He.ga K x)) := F.gl x (List.mem_of_getElem? h)
theorem FX.free (F : FX d K mg) (i : Nat) {x : Str} (h : d.fa[i]? = some (.free x) := by rfl) : mg x = none := F.fr x (List.mem_of_getElem? h)
theorem FX.int (F : FX d K mg) (i : Nat) {x : Str} {n : Int} (h : d.fa[i]? = some (.int x n) := by rfl) : ∃ t, mg x = some (.int n t) := F.it x n (List.mem_of_getElem? h)
theorem FX.meth (F : FX d K mg) (i : Nat) {x m : Str} (h : d.fa[i]? = some (.meth x m) := by rfl) : Meth K (He.ga K x) m (He.ma K (He.ga K x) m) := He.meth_ok (F.says.fact i h)
theorem FX.mkr (F : FX d K mg) (i : Nat) {x : Str} (h : d.fa[i]? = some (.mkr x) := by rfl) : Mk K (He.ga K x) (He.ma K (He.ga K x) "__init__") := He.mkr_ok (F.says.fact i h)
theorem FX.cls (F : FX d K mg) (i : Nat) {x : Str} (h : d.fa[i]? = some (.cls x) := by rfl) : Cls K (He.ga K x) := He.cls_ok (F.says.fact i h)
theorem FX.nol (F : FX d K mg) : ∀ b o, K.lookup b = some o → o.cls ≠ .type "list" := noLst_ok (He.ba (He.ba F.chk).1).1
theorem FX.more (F : FX d K mg) : d.ext K = true := (He.ba (He.ba F.chk).1).2
theorem FX.isi (F : FX d K mg) : IsiOk K d.cs := isiB_ok (He.ba (He.ba F.chk).2).1
theorem FX.tup (F : FX d K mg) (i : Nat) {x : Str} {zs : List Str} (h : d.tups[i]? = some (x, zs) := by rfl) : He.tupB K x (zs.map He.Dv.str) = true := List.all_eq_true.mp (He.ba (He.ba (He.ba F.chk).2).2).1 _ (List.mem_of_getElem? h)
theorem FX.fld (F : FX d K mg) (i : Nat) {f : Str} {cs : List Nat} (h : d.flds[i]? = some (f, cs) := by rfl) : ∀ c, cs.contains c = true → Cls K (ca K c) ∧ NoAttr K (ca K c) f := fun c hc => by
  have q := List.all_eq_true.mp (List.all_eq_true.mp (He.ba (He.ba (He.ba F.chk).2).2).2 _ (List.mem_of_getElem? h)) c (by simpa using hc)
  obtain ⟨q1, q2⟩ := He.ba q
  exact ⟨He.cls_ok q1, He.noat_ok q2⟩
end
/-! ### a def -/
def FnC (P : Program) (w : World) (K : PySem.W.Frag) (mg : Str → Option Value) (base : Heap) (k : Nat) (f : Addr) (n : Nat) (ff : FF) : Prop :=
  (∃ fd ps, FnOk P w K mg base (L2.CX P w) k f fd ps (spF ⟨K, P, w⟩ n ff) ∧ Binds K fd ps []) ∧ PySem.W.keepIn K (.ref f) = true
def FnKC (P : Program) (w : World) (K : PySem.W.Frag) (mg : Str → Option Value) (base : Heap) (k : Nat) (f : Addr) (n : Nat) (ks : List Str) (np : Nat) (gD : List D → List D → List D) (ff : FF) : Prop :=
  ∃ fd ps, FnOk P w K mg base (L2.CX P w) k f fd ps (spF ⟨K, P, w⟩ np ff) ∧ BD K fd ps n ks gD
section
variable {P : Program} {w : World} {K : PySem.W.Frag} {mg : Str → Option Value} {base : Heap}
theorem FnC.mono {j k n : Nat} {f : Addr} {ff : FF} (F : FnC P w K mg base j f n ff) (h : j ≤ k) : FnC P w K mg base k f n ff := by
  obtain ⟨⟨fd, ps, ⟨l, r⟩, b⟩, kp⟩ := F
  exact ⟨⟨fd, ps, ⟨l, fun A outer s H args us vs Q E hr => r A outer s H args us vs Q E (hr.mono h)⟩, b⟩, kp⟩
theorem FnKC.mono {j k n : Nat} {f : Addr} {ks : List Str} {np : Nat} {gD : List D → List D → List D} {ff : FF} (F : FnKC P w K mg base j f n ks np gD ff) (h : j ≤ k) : FnKC P w K mg base k f n ks np gD ff := by
  obtain ⟨fd, ps, ⟨l, r⟩, b⟩ := F
  exact ⟨fd, ps, ⟨l, fun A outer s H args us vs Q E hr => r A outer s H args us vs Q E (hr.mono h)⟩, b⟩
end
theorem room_u {k : Nat} {A : Around} (r : Room k A) : A.units + 65 < cLine := by have := r.un; omega
theorem room_v {k : Nat} {A : Around} (r : Room k A) : A.units + 64 < cLine := by have := r.un; omega
section
variable {P : Program} {w : World} {K : PySem.W.Frag} {mg : Str → Option Value} {base : Heap} {N : List Str} {qual : Str} {scope : Scope} {f : Addr} {cdv : Value} {A : Around} {outer : List PySem.Env} {s : Shared} {H : Hp} {E : XK}
theorem tkF : Takes (cxOf (L2.CX P w) P w K mg base N qual scope f cdv A outer s H E) (fun cls d _ H => E cls d H) := takes_of rfl rfl rfl rfl
theorem ownF : PassesOwn (model P w) (cxOf (L2.CX P w) P w K mg base N qual scope f cdv A outer s H E).A (cxOf (L2.CX P w) P w K mg base N qual scope f cdv A outer s H E).env (cxOf (L2.CX P w) P w K mg base N qual scope f cdv A outer s H E).xe := passes_of rfl
end
/-! ### short words -/
section
variable {X : Cx} {W : WX}
theorem sv (i : Nat) {x : Str} {pos : Pos} (hN : X.N[i]? = some x := by rfl) (hv : Vis X.env.scope x := by first | exact Or.inl rfl | exact Or.inr (Or.inl rfl) | exact Or.inr (Or.inr rfl)) (hd : (x == ("__debug__" : Str)) = false := by decide) (hcd : (x == ("__classdict__" : Str)) = false := by decide) : SE X W (.Name x pos) (eVar i) := se_var hN hv hd hcd
theorem sC {e : Expr} {es : List Expr} {fa : AF} {x : Str} {p pos : Pos} {j k n : Nat} {f : Addr} {ff : FF} (F : FnC X.prog X.w X.K X.mg X.base j f n ff) (hr : Room k X.A) (hm : X.mg x = some (.ref f)) (tk : Takes X W) (ha : SA X W (e :: es) fa) (hjk : j ≤ k := by decide) (hg : Gl X x := by rfl)
    (hdb : (x == ("__debug__" : Str)) = false := by decide) (he : starEach (e :: es) X.env = (false, eval e X.env) :: starEach es X.env := by rfl) (hpl : (backTo pos (starEach es X.env)).any (·.1) = false := by rfl) :
    SE X W (.Call (.Name x p) (e :: es) [] pos) (eCall n ff fa) := se_call F.1 (hr.mono hjk) hg hm F.2 tk ha hdb he hpl
theorem sC0 {x : Str} {p pos : Pos} {j k n : Nat} {f : Addr} {ff : FF} (F : FnC X.prog X.w X.K X.mg X.base j f n ff) (hr : Room k X.A) (hm : X.mg x = some (.ref f)) (tk : Takes X W) (hjk : j ≤ k := by decide) (hg : Gl X x := by rfl)
    (hdb : (x == ("__debug__" : Str)) = false := by decide) : SE X W (.Call (.Name x p) [] [] pos) (eCall n ff aNil) := se_call0 F.1 (hr.mono hjk) hg hm F.2 tk hdb
theorem gnm (i : Nat) {x : Str} {pos : Pos} (hN : X.N.Nodup) (hi : X.N[i]? = some x := by rfl) (hx : Loc X.env.scope x := by first | exact Or.inl rfl | exact Or.inr rfl) (hf : X.fn x = true ∨ X.env.scope.names.lookup x = some .local := by first | exact .inl rfl | exact .inr rfl) : SG X (.Name x pos) (gNm i) := sg_nm hN hi hx hf
theorem sset (i : Nat) {x : Str} {e : Expr} {f : EF} {pos pos' : Pos} (hN : X.N.Nodup) (he : SE X W e f) (hi : X.N[i]? = some x := by rfl) (hx : Loc X.env.scope x := by first | exact Or.inl rfl | exact Or.inr rfl) (hs : swapsWith e (some (.Name x pos')) pos.line X.env = pure false := by rfl) (hf : X.fn x = true ∨ X.env.scope.names.lookup x = some .local := by first | exact .inl rfl | exact .inr rfl) :
    SS X W (.Assign [.Name x pos'] e pos) (sSet i f) := ss_set hN hi hx he hs hf
theorem isT {e : Expr} {fe : EF} {p pos : Pos} {cs : List Nat} (n : String) {x : Str} {p2 : Pos} (O : IsiOk X.K cs) (hm : X.mg "isinstance" = none) (hmn : X.mg x = none) (ha : SE X W e fe) (hv : bootBuiltins x = some (.type n) := by decide +kernel) (hg : Gl X "isinstance" := by rfl) (hg2 : Gl X x := by rfl) (hn : x ≠ "__name__" := by decide) (hd : (x == ("__debug__" : Str)) = false := by decide)
    (he : starEach [e, .Name x p2] X.env = (false, eval e X.env) :: starEach [.Name x p2] X.env := by rfl) (he2 : starEach [.Name x p2] X.env = (false, eval (.Name x p2) X.env) :: starEach [] X.env := by rfl) (hpl : (backTo pos (starEach [.Name x p2] X.env)).any (·.1) = false := by rfl) :
    SE X W (.Call (.Name "isinstance" p) [e, .Name x p2] [] pos) (eIsi cs [.ty n] fe) := se_isi (t := .ty n) O hg hm ha (pe_bltn hg2 hmn hv rfl hn hd) he he2 hpl
theorem isC {e : Expr} {fe : EF} {p pos : Pos} {cs : List Nat} (c : Nat) {x : Str} {p2 : Pos} (O : IsiOk X.K cs) (hm : X.mg "isinstance" = none) (hmn : X.mg x = some (.ref (He.ga X.K x))) (ha : SE X W e fe) (hc : cnm c = x := by rfl) (hg : Gl X "isinstance" := by rfl) (hg2 : Gl X x := by rfl) (hd : (x == ("__debug__" : Str)) = false := by decide)
    (he : starEach [e, .Name x p2] X.env = (false, eval e X.env) :: starEach [.Name x p2] X.env := by rfl) (he2 : starEach [.Name x p2] X.env = (false, eval (.Name x p2) X.env) :: starEach [] X.env := by rfl) (hpl : (backTo pos (starEach [.Name x p2] X.env)).any (·.1) = false := by rfl) :
    SE X W (.Call (.Name "isinstance" p) [e, .Name x p2] [] pos) (eIsi cs [.cls c] fe) := se_isi (t := .cls c) O hg hm ha (pe_glob hg2 hmn (by subst hc; rfl) hd) he he2 hpl
end
/-! ### the head's hook -/
def obsX (n : Nat) (d : Wx) (g : Addr → Option Obj) : He.AlD := (d.chk (He.frG g (He.asD g n)) && (He.obsD d.fa d.fn (He.frG g (He.asD g n))).1, (He.obsD d.fa d.fn (He.frG g (He.asD g n))).2)
def hookX (n : Nat) (d : Wx) : PySem.W.Hook where
  α := He.AlD
  obs := fun s => obsX n d s.heap.get?
  val := fun _ => He.valD d.fn
  says := fun _ h => ∃ K : PySem.W.Frag, K.In h ∧ d.chk K = true ∧ He.SaysD d.fa d.fn K
  of := fun _ s e => ⟨He.frG s.heap.get? (He.asD s.heap.get? n), He.frG_in, by
    have e : obsX n d s.heap.get? = He.valD d.fn := e
    unfold obsX He.valD at e
    obtain ⟨e1, e2⟩ := Prod.mk.inj e
    obtain ⟨c1, c2⟩ := He.ba e1
    exact ⟨c1, by unfold He.SaysD He.valD; exact Prod.ext c2 e2⟩⟩
  keeps := fun _ _ _ ⟨K, hK, c⟩ k => ⟨K, PySem.W.Frag.In.keeps hK k, c⟩
theorem obsX_eq {n : Nat} {d : Wx} {g : Addr → Option Obj} {s : Shared} (h : ∀ a, g a = s.heap.get? a) : obsX n d g = (hookX n d).obs s := by
  have e : g = s.heap.get? := funext h
  rw [e] <;> rfl
end Sh

namespace Sh
open PySem L2
def clsBody (s : Stmt) : List Stmt := match s with
  | .ClassDef _ _ _ b _ _ _ _ _ _ _ => b
  | _ => []
def gId : List D → List D → List D := fun ds es => ds ++ es
def gKw (a : Nat) (dfl : List D) : List D → List D → List D := fun ds es => ds ++ (dfl.take a ++ (es ++ dfl.drop a))
theorem bd_of {K : PySem.W.Frag} {fd : FuncData} {ps : List Str} {n : Nat} (h : Binds K fd ps []) (hn : ps.length = n) : BD K fd ps n [] gId where
  ex := ⟨fun us ws => us ++ ws, fun vs zs => vs ++ zs, ⟨fun s us ws X h1 h2 => by
      have e : ws = [] := List.length_eq_zero_iff.mp h2
      subst e
      have := h s us X (by simp [h1, hn])
      simpa using this, fun r1 r2 => r1.append r2⟩, fun ι H ds es vs zs r1 r2 => r1.append r2⟩
theorem vals_take : ∀ {vs : List V} {us : List Value} (n : Nat), Vals vs us → Vals (vs.take n) (us.take n)
  | _, _, 0, _ => .nil
  | _, _, n + 1, .nil => .nil
  | _, _, n + 1, .cons a b => .cons a (vals_take n b)
theorem vals_drop : ∀ {vs : List V} {us : List Value} (n : Nat), Vals vs us → Vals (vs.drop n) (us.drop n)
  | _, _, 0, h => h
  | _, _, n + 1, .nil => .nil
  | _, _, n + 1, .cons a b => vals_drop n b
theorem vals_kw {a : Nat} {vs mz zs : List V} {us mv ws : List Value} (r1 : Vals vs us) (r2 : Vals mz mv) (r3 : Vals zs ws) : Vals (vs ++ (mz.take a ++ (zs ++ mz.drop a))) (us ++ (mv.take a ++ (ws ++ mv.drop a))) :=
  r1.append ((vals_take a r2).append (r3.append (vals_drop a r2)))
theorem bd_kw {K : PySem.W.Frag} {fd : FuncData} {ps : List Str} {n a : Nat} {ks : List Str} {mz : List V} {dfl : List D} (h : ∃ mv : List Value, KBn K fd ps n ks (fun us ws => us ++ (mv.take a ++ (ws ++ mv.drop a))) (fun vs zs => vs ++ (mz.take a ++ (zs ++ mz.drop a)))) (hd : ∀ ι H, Reps K ι H dfl mz) : BD K fd ps n ks (gKw a dfl) where
  ex := let ⟨mv, h⟩ := h; ⟨_, _, h, fun ι H ds es vs zs r1 r2 => r1.append (((hd ι H).takeN a).append (r2.append ((hd ι H).drop a)))⟩
def oNeg : O1 := fun d M => match d with
  | .int i => some (.int (-i), M)
  | _ => none
theorem so_neg {X : Cx} : SUn X (unaryOp .USub) oNeg := un_neg.imp fun x H Q ⟨ι, M, d, A, r, q⟩ => by
  cases d with
  | int i => simp only [Rep] at r; subst r; exact ⟨i, rfl, q ι H _ Step.refl A (by simp only [Rep])⟩
  | _ => exact q.elim
end Sh

namespace Sh
open PySem L2
/-! ### a call that is handed no object of ours, and hands none back: it runs apart -/
def eCallE (n : Nat) (ff : FF) (fa : AF) : EF := fun env M => (fa env M).bind fun ds M1 => if ds.length = n ∧ D.blws 0 ds = true then (match ff ds [] with
  | .ok d _ => if D.blw 0 d = true then .ok d M1 else .bad
  | _ => .bad) else .bad
section
variable {K : PySem.W.Frag} {ι : List Addr} {H : Hp} {P : Program} {w : World} {M : Store}
theorem abs_nil : Abs K [] H P w [] := ⟨rfl, List.nodup_nil, fun n a o h => by simp at h⟩
theorem reps0 {l : List D} {vs : List V} (b : D.blws 0 l = true) (h : Reps K ι H l vs) : Reps K [] H l vs := by
  have := Reps.take (n := 0) b h
  simpa using this
theorem rep0 {d : D} {v : V} (b : D.blw 0 d = true) (h : Rep K ι H d v) : Rep K [] H d v := by
  have := Rep.take (n := 0) b h
  simpa using this
theorem ext0 {ι' : List Addr} (ι2 : List Addr) : Ext K [] H ι2 H := ⟨fun n a e => by simp at e, fun _ _ h => h, fun _ _ _ h => h⟩
/-- a step from nothing keeps all that was there -/
theorem step_all {ι' : List Addr} {H' : Hp} (s : Step [] H ι' H') (A : Abs K ι H P w M) : Step ι H ι H' ∧ Abs K ι H' P w M := by
  have fr : ∀ a o, H a = some o → H' a = some o := fun a o e => s.frame a o e (by simp)
  have st : Step ι H ι H' := ⟨⟨[], by simp⟩, fun a o e _ => fr a o e, fun a h n => absurd h n, s.frz⟩
  have x : Ext K ι H ι H' := st.ext A.nt
  refine ⟨st, A.len, A.nd, fun n a o h1 h2 => ?_⟩
  have ho := A.obj n a o h1 h2
  refine ho.ext x (fun u e => fr a u e) fun xs r => ?_
  obtain ⟨u, eu⟩ := ho.some
  have eu' := fr a u eu
  rcases r with r | ⟨o', r⟩
  · rw [eu'] at r; cases r; exact .inl eu
  · rw [eu'] at r; cases r; exact .inr ⟨o', eu⟩
end
section
variable {X : Cx} {W : WX} {k n : Nat} {f : Addr} {ff : FF} {fa : AF} {x : Str} {e : Expr} {es : List Expr} {p pos : Pos}
theorem callE_imp {G : Gd} {ι : List Addr} {H : Hp} {σ : St} {M : Store} {ds : List D} {vs : List V} {Q : VK} {E : XK} (A : Abs G.K ι H G.P G.w M) (r : Reps G.K ι H ds vs)
    (h : PostE G W ι H σ (if ds.length = n ∧ D.blws 0 ds = true then (match ff ds [] with | .ok d _ => if D.blw 0 d = true then .ok d M else .bad | _ => .bad) else .bad) Q) : spF G n ff vs H Q E := by
  by_cases hl : ds.length = n ∧ D.blws 0 ds = true
  · rw [if_pos hl] at h
    refine ⟨[], [], ds, abs_nil, reps0 hl.2 r, hl.1, ?_⟩
    cases ef : ff ds [] with
    | ok d M' =>
      simp only [ef] at h
      split at h
      · rename_i hd
        intro ι' H' v st A' rv
        obtain ⟨s2, A2⟩ := step_all st A
        exact h ι H' v s2 A2 ((rep0 hd rv).ext (ext0 (ι' := []) ι))
      · exact h.elim
    | exc c fs M' => simp only [ef] at h; exact h.elim
    | bad => simp only [ef] at h; exact h.elim
  · rw [if_neg hl] at h; exact h.elim
theorem se_callE (F : Fn X k f n ff) (hr : Room k X.A) (hg : Gl X x) (hm : X.mg x = some (.ref f)) (hk : PySem.W.keepIn X.K (.ref f) = true) (tk : Takes X W) (ha : SA X W (e :: es) fa)
    (hdb : (x == ("__debug__" : Str)) = false := by decide) (he : starEach (e :: es) X.env = (false, eval e X.env) :: starEach es X.env := by rfl) (hpl : (backTo pos (starEach es X.env)).any (·.1) = false := by rfl) :
    SE X W (.Call (.Name x p) (e :: es) [] pos) (eCallE n ff fa) := by
  obtain ⟨fd, ps, F, hb⟩ := F
  refine (pe_callS (E := WE W) F hr hg hm hk hb (fun σ => passAt tk σ) ha hdb he hpl).imp fun σ H Q h => ?_
  obtain ⟨ι, M, env, A, E, h⟩ := h
  refine tA.mono (tA.seq A E h) fun xs H1 ⟨ι1, M1, d1, s1, A1, E1, r1, _, h1⟩ => ?_
  exact callE_imp A1 r1 h1
theorem se_callE0 (F : Fn X k f n ff) (hr : Room k X.A) (hg : Gl X x) (hm : X.mg x = some (.ref f)) (hk : PySem.W.keepIn X.K (.ref f) = true) (tk : Takes X W)
    (hdb : (x == ("__debug__" : Str)) = false := by decide) : SE X W (.Call (.Name x p) [] [] pos) (eCallE n ff aNil) := by
  obtain ⟨fd, ps, F, hb⟩ := F
  refine ⟨fun pins s σ H Q I h => ?_⟩
  obtain ⟨ι, M, env, A, E, h⟩ := h
  refine wpAny_Call_Name_kw (ld_glob I hg hm ?_ hdb)
  refine PySem.W.callWith_K0 I.kIn hk (run_fnS F hr hb (passAt tk σ) I .nil ?_)
  exact callE_imp (ds := []) A (by simp only [Reps]) h
theorem sCE {j : Nat} (F : FnC X.prog X.w X.K X.mg X.base j f n ff) (hr : Room k X.A) (hm : X.mg x = some (.ref f)) (tk : Takes X W) (ha : SA X W (e :: es) fa) (hjk : j ≤ k := by decide) (hg : Gl X x := by rfl)
    (hdb : (x == ("__debug__" : Str)) = false := by decide) (he : starEach (e :: es) X.env = (false, eval e X.env) :: starEach es X.env := by rfl) (hpl : (backTo pos (starEach es X.env)).any (·.1) = false := by rfl) :
    SE X W (.Call (.Name x p) (e :: es) [] pos) (eCallE n ff fa) := se_callE F.1 (hr.mono hjk) hg hm F.2 tk ha hdb he hpl
theorem sCE0 {j : Nat} (F : FnC X.prog X.w X.K X.mg X.base j f n ff) (hr : Room k X.A) (hm : X.mg x = some (.ref f)) (tk : Takes X W) (hjk : j ≤ k := by decide) (hg : Gl X x := by rfl)
    (hdb : (x == ("__debug__" : Str)) = false := by decide) : SE X W (.Call (.Name x p) [] [] pos) (eCallE n ff aNil) := se_callE0 F.1 (hr.mono hjk) hg hm F.2 tk hdb
end
/-! ### a law's end -/
def isTrueR : Res D → Bool
  | .ok (.bl true) _ => true
  | _ => false
theorem law_sp {G : Gd} {ff : FF} {H : Hp} {a : Addr} {ns : List Int} (nl : ∀ b o, G.K.lookup b = some o → o.cls ≠ .type "list") (hO : Only H) (hS : SqL G.K H a (ns.map V.int)) (h : isTrueR (ff [.ref 0] [.fz (ns.map D.int)]) = true) : spF G 1 ff [.ref a] H (fun v _ => v = .bl true) fun _ _ _ => False := by
  have hf : ∃ o, H a = some (.frz o (.lst (ns.map V.int))) := by
    rcases hS with (hS | ⟨o, hS⟩) | ⟨o, its, n, h1, h2, _⟩
    · rcases hO a with z | ⟨o, xs, z⟩ <;> (rw [hS] at z; cases z)
    · exact ⟨o, hS⟩
    · exact absurd h2 (nl a o h1)
  obtain ⟨o, hf⟩ := hf
  have repI : ∀ l : List Int, Reps G.K [a] H (l.map D.int) (l.map V.int) := by
    intro l
    induction l with
    | nil => simp only [List.map_nil, Reps]
    | cons i l ih => simp only [List.map_cons, Reps]; exact ⟨_, _, rfl, by simp only [Rep], ih⟩
  refine ⟨[a], [.fz (ns.map D.int)], [.ref 0], ⟨rfl, by simp, fun n b ob h1 h2 => ?_⟩, ?_, rfl, ?_⟩
  · cases n with
    | zero =>
      simp at h1 h2
      subst h1 h2
      exact ⟨_, o, hf, repI ns⟩
    | succ n => simp at h1
  · simp only [Reps, Rep]
    exact ⟨_, _, rfl, ⟨a, rfl, rfl⟩, rfl⟩
  · cases e : ff [.ref 0] [.fz (ns.map D.int)] with
    | ok d M' =>
      rw [e] at h
      cases d with
      | bl b =>
        cases b with
        | true => intro ι' H' v _ _ rv; simpa only [Rep] using rv
        | false => cases h
      | _ => cases h
    | exc c fs M' => rw [e] at h; cases h
    | bad => rw [e] at h; cases h
end Sh

namespace Sh
open PySem L2
/-- as HandS.HeadEnd's walk_ofE, what a def lets out told by the world -/
theorem walk_ofW {l : PySem.W.OpenLaw} {n k : Nat} {q : Program} {loose : List Str} {XP : (Str → Option Value) → Heap → Prop} {YP : World → Heap → Prop} {d : DefRec} {x : Str}
    (hn : l.most = some n) (hn2 : n ≤ sizeLine) (hdf : d.params.defaults = []) (hr : Room k callerA)
    (F : ∀ (w : World) (mg : Str → Option Value) (fa : Addr) (h : Heap), YP w h → h.Ns mainGlobals mg → mg d.name = some (.ref fa) →
      ∃ (K : PySem.W.Frag) (fd : FuncData) (sp : Sp), K.In h ∧ (∀ (s : Shared) (u : Value), BindsTo s fd ⟨[u], []⟩ [(x, u)]) ∧
        (∀ (H : Hp) (a : Addr) (ns : List Int), ns.length ≤ n → Only H → SqL K H a (ns.map V.int) → sp [.ref a] H (fun v _ => v = .bl true) fun _ _ _ => False) ∧
        ∀ base : Heap, K.In base → base.Ns mainGlobals mg → FnOk l.prog w K mg base (L2.CX l.prog w) k fa fd [x] sp) :
    PySem.W.WalkO q loose XP YP l.row.toRowW d [] (fun f vs => PySem.call f vs) := by
  refine Att.attach_call hn hdf fun w s₀ s₁ mg mb fa o pm cd doc a vs ns G Y ho hd hcd hmg hobj hints hlen hg => ?_
  obtain ⟨K, fd, sp, KX, hb, hsp, hF⟩ := F w mg fa _ Y G.T.g hmg
  exact law_call KX G.T.g G.T.b G.T.builtins G.T.nolimit hg hobj hints (Nat.le_trans hlen hn2) hr hF hb (fun H hO hS => hsp H a ns hlen hO hS) fun H e s' c => by
    obtain ⟨_, _, _, _, _, _, _, _, _, _, _, _, z⟩ := c
    exact z
end Sh

namespace Sh
open PySem L2
/-! ### clear of a list or a dict, count -/
def oClrD : OM := fun x ds M => match x, ds with
  | .ref n, [] => match M[n]? with
    | some (.dct _) => some (.non, M.set n (.dct []))
    | _ => none
  | _, _ => none
section
variable {X : Cx} {W : WX}
theorem mt_clrD : MtR X "dict.clear" (rOM (cgd X) oClrD) := by
  intro pins s σ H x xs v us Q I rx rxs h
  obtain ⟨ι, M, d, ds, A, r, rs, q⟩ := h
  match d, ds, r, rs, q with
  | .ref n, [], r, rs, q =>
    simp only [Rep] at r
    obtain ⟨a, ea, rfl⟩ := r
    simp only [Reps] at rs
    subst rs
    cases rxs
    cases (show v = Value.ref a from rx)
    simp only [oClrD] at q
    cases e : M[n]? with
    | none => rw [e] at q; exact q.elim
    | some ob =>
      rw [e] at q
      cases ob with
      | dct kvs =>
        obtain ⟨o, h1, h2⟩ := A.obj n a _ ea e
        obtain ⟨g1, g2, g3, es, ep, xs, g4, g5, g6, g7⟩ := h2
        have hz := ent_size g5 g7
        have ha := List.mem_of_getElem? ea
        refine call_meetsIn PySem.F.slot_dict_clear ⟨o, dct_at I h1, g3.1⟩ PySem.F.entry_dict_clear (PySem.F.args_dict_clear_1 _) (meets_dict_clear_raw a) ⟨es, ep, ⟨o, dct_at I h1, g3, g4⟩, by rw [hz]; exact g2, fun h' raw sb => ?_⟩
        obtain ⟨o', ho', hc', hd'⟩ := raw
        have I' : Inv X pins σ (upd H a (dctO a o')) { s with heap := h' } := I.write (x := a) (e := a) (t' := s.toks) (by rw [h1]; exact mut_dct) (.inl rfl) (fun b ob hb e => (sb.2 b hb).trans e) ⟨o', ho'⟩ (dctO_new ho')
        exact ⟨.non, _, I', rfl, q ι _ .non (step_upd ha (nf_dct h1)) (A.upd (nf_dct h1) ea ⟨o', upd_same, g1, Nat.zero_le _, hc', #[], ep + 1, [], hd', rfl, List.nodup_nil, .nil⟩) (by simp only [Rep])⟩
      | _ => exact q.elim
  | .ref n, _ :: _, r, rs, q => exact q.elim
  | .non, _, r, rs, q => exact q.elim
  | .bl _, _, r, rs, q => exact q.elim
  | .int _, _, r, rs, q => exact q.elim
  | .str _, _, r, rs, q => exact q.elim
  | .tup _, _, r, rs, q => exact q.elim
  | .ty _, _, r, rs, q => exact q.elim
def eClr (fo : EF) : EF := fun env M => (fo env M).bind fun x M1 => if tyD M1 "list" x = true then ofO (oLst gClr x [] M1) else if tyD M1 "dict" x = true then ofO (oClrD x [] M1) else .bad
theorem _root_.L2.PE.or {e : Expr} {t t' : TE} (h : PE X e t) (h' : PE X e t') : PE X e (fun σ H Q => t σ H Q ∨ t' σ H Q) := ⟨fun pins s σ H Q I q => q.elim (fun q => h.run pins s σ H Q I q) fun q => h'.run pins s σ H Q I q⟩
theorem se_clr {o : Expr} {fo : EF} {apos cpos : Pos} (ho : SE X W o fo) (hbase : attributeBase o "clear" X.env (eval o X.env) = eval o X.env := by rfl) (hline : (apos.endLine == cpos.line) = true := by rfl) : SE X W (.Call (.Attribute o "clear" apos) [] [] cpos) (eClr fo) :=
  (PE.or (se_mt0 PySem.F.plainAttrs_list PySem.F.slot_list_clear PySem.F.type_list_clear mt_clr ho hbase hline) (se_mt0 PySem.F.plainAttrs_dict PySem.F.slot_dict_clear PySem.F.type_dict_clear mt_clrD ho hbase hline)).imp fun σ H Q h => by
    obtain ⟨ι, M, env, A, E, h⟩ := h
    cases e : fo env M with
    | ok x M1 =>
      have h : PostE (cgd X) W ι H σ (if tyD M1 "list" x = true then ofO (oLst gClr x [] M1) else if tyD M1 "dict" x = true then ofO (oClrD x [] M1) else .bad) Q := by
        have := h; unfold eClr at this; rw [e] at this; exact this
      by_cases c : tyD M1 "list" x = true
      · rw [if_pos c] at h
        refine .inl ⟨ι, M, env, A, E, ?_⟩
        unfold eMt
        rw [e]
        show PostE (cgd X) W ι H σ (if tyD M1 "list" x = true then (aNil env M1).bind fun ds M2 => ofO (oLst gClr x ds M2) else .bad) Q
        rw [if_pos c]; exact h
      · rw [if_neg c] at h
        refine .inr ⟨ι, M, env, A, E, ?_⟩
        unfold eMt
        rw [e]
        show PostE (cgd X) W ι H σ (if tyD M1 "dict" x = true then (aNil env M1).bind fun ds M2 => ofO (oClrD x ds M2) else .bad) Q
        exact h
    | exc c fs M1 =>
      refine .inl ⟨ι, M, env, A, E, ?_⟩
      unfold eClr at h
      unfold eMt
      rw [e] at h ⊢
      exact h
    | bad => unfold eClr at h; rw [e] at h; exact h.elim
end
end Sh

namespace Sh
open PySem L2
def oCount : OM := fun o ds M => match o, ds with
  | .ref n, [x] => match lstM M n with
    | some l => if (flatD x && l.all flatD) = true then some (.int ((l.countP fun z => eqF z x : Nat) : Int), M) else none
    | none => none
  | _, _ => none
theorem count_rel {K : PySem.W.Frag} {ι : List Addr} {H : Hp} {x : D} {xv : V} (rx : Rep K ι H x xv) (fx : flatD x = true) : ∀ {l : List D} {vs : List V} {us : List Value}, Reps K ι H l vs → Vals vs us → l.all flatD = true → us.countP (eqU xv) = l.countP fun z => eqF z x
  | [], vs, us, r, v, _ => by simp only [Reps] at r; subst r; cases v; rfl
  | d :: l, vs, us, r, v, f => by
    simp only [Reps] at r
    obtain ⟨y, q, rfl, h1, h2⟩ := r
    simp only [List.all_cons, Bool.and_eq_true] at f
    cases v with
    | cons a b =>
      rw [List.countP_cons, List.countP_cons, eqU_of a (flat_rep h1 f.1), eqF_rep h1 rx f.1 fx, count_rel rx fx h2 b f.2]
section
variable {X : Cx} {W : WX}
theorem mt_cnt : MtR X "list.count" (rOM (cgd X) oCount) := by
  intro pins s σ H x xs v us Q I rx rxs h
  obtain ⟨ι, M, d, ds, A, r, rs, q⟩ := h
  match d, ds, r, rs, q with
  | .ref n, [y], r, rs, q =>
    simp only [Rep] at r
    obtain ⟨a, ea, rfl⟩ := r
    obtain ⟨yv, rfl, ry⟩ := reps_one rs
    cases (show v = Value.ref a from rx)
    obtain ⟨u, rfl, ru⟩ := rxs.one
    simp only [oCount] at q
    cases el : lstM M n with
    | none => rw [el] at q; exact q.elim
    | some l =>
      simp only [el] at q
      split at q
      · rename_i hf
        simp only [Bool.and_eq_true] at hf
        obtain ⟨vs, h1, h2⟩ := lst_get A ea el
        obtain ⟨its, rv, ⟨⟨cls, dd, data, sl⟩, m, ho, hc, hdn, hd⟩, hlen⟩ := I.list h1
        simp only at hc hd
        subst hc hd
        have fl := (flats_rep ry hf.1 h2 hf.2).1
        refine call_meets PySem.F.slot_list_count ⟨_, ho, rfl⟩ PySem.F.entry_list_count (PySem.F.args_list_count_2 _ _)
          (SeqAt.list_countAt a its.toArray m dd sl u (eqU yv)) ⟨ho, fun z hz => mem_eqAt ru (flat_rep ry hf.1) rv fl z (by simpa using hz), ?_⟩
        have ec : its.toArray.toList.countP (eqU yv) = l.countP fun z => eqF z y := count_rel ry hf.1 h2 rv hf.2
        refine ⟨.int (l.countP fun z => eqF z y : Nat), H, I.tok _, ⟨s.toks, ?_⟩, q ι H _ Step.refl A (by simp only [Rep])⟩
        rw [ec]
      · exact q.elim
  | .ref n, [], r, rs, q => exact q.elim
  | .ref n, _ :: _ :: _, r, rs, q => exact q.elim
  | .non, _, r, rs, q => exact q.elim
  | .bl _, _, r, rs, q => exact q.elim
  | .int _, _, r, rs, q => exact q.elim
  | .str _, _, r, rs, q => exact q.elim
  | .tup _, _, r, rs, q => exact q.elim
  | .ty _, _, r, rs, q => exact q.elim
end
end Sh

namespace Sh
open PySem L2
/-! ### dict([(k, v), ..]) -/
def pairsD : List D → Option (List (D × D))
  | [] => some []
  | .tup [k, v] :: l => if (nkey k).isSome = true then (pairsD l).map ((k, v) :: ·) else none
  | _ => none
section
variable {X : Cx} {W : WX}
theorem pairs_laid {pins : List (Addr × Obj)} {σ : L2.St} {H : Hp} {s : Shared} {ι : List Addr} (I : Inv X pins σ H s) : ∀ {l : List D} {vs : List V} {us : List Value} {kvs : List (D × D)}, Reps X.K ι H l vs → Vals vs us → pairsD l = some kvs →
    ∃ Z : List (Addr × NestedKey × Addr × Value), us = Z.map (fun z => Value.ref z.1) ∧ Paired (EntR X.K ι H) kvs (Z.map (·.2)) ∧ ∀ z ∈ Z, PairAt s.heap z.1 (.ref z.2.2.1) z.2.2.2 ∧ (nestedKind X.prog X.w).is s.heap z.2.1 z.2.2.1
  | [], vs, us, kvs, r, v, e => by
    simp only [Reps] at r
    subst r
    cases v
    cases e
    exact ⟨[], rfl, .nil, fun z h => by cases h⟩
  | d :: l, vs, us, kvs, r, v, e => by
    match d, e with
    | .tup [k, y], e =>
      simp only [pairsD] at e
      split at e
      · rename_i hk
        simp only [Option.map_eq_some_iff] at e
        obtain ⟨kvs', e1, rfl⟩ := e
        simp only [Reps] at r
        obtain ⟨x, q, rfl, h1, h2⟩ := r
        cases v with
        | cons a b =>
          obtain ⟨Z, z1, z2, z3⟩ := pairs_laid I h2 b e1
          obtain ⟨nkk, ek⟩ := Option.isSome_iff_exists.mp hk
          simp only [Rep] at h1
          obtain ⟨t, ws, rfl, hq, hr⟩ := h1
          obtain ⟨kv, yv, rfl, rk, ry⟩ := reps_two hr
          obtain ⟨its, rv, pt, _⟩ := I.tuple hq
          obtain ⟨u1, u2, rfl, ru1, ru2⟩ := vals2 rv
          obtain ⟨bb, rfl⟩ : ∃ b, kv = .ref b := by
            cases k with
            | tup l => simp only [Rep] at rk; obtain ⟨b, _, rfl, _⟩ := rk; exact ⟨b, rfl⟩
            | _ => simp [nkey] at ek
          cases (show u1 = Value.ref bb from ru1)
          refine ⟨(t, nkk, bb, u2) :: Z, ?_, .cons ⟨ek, rk, yv, ru2, ry⟩ z2, fun z hz => ?_⟩
          · rw [List.map_cons, ← z1, show _ = Value.ref t from a]
          · rcases List.mem_cons.mp hz with rfl | hz
            · exact ⟨.inl pt, key_is I rk ek⟩
            · exact z3 z hz
      · cases e
def gDictP : D → Store → Option (D × Store) := fun d M => match d with
  | .ref n => match lstM M n with
    | some l => match pairsD l with
      | some kvs => some (.ref M.length, M ++ [.dct (putAll [] kvs)])
      | none => none
    | none => none
  | _ => none
theorem cl_dictP (hc : X.calm = true) (hu : X.A.units + 64 < cLine) : SCl X (.type "dict") (op1 gDictP) := by
  intro pins s σ H xs us Q I r h
  obtain ⟨ι, M, ds, A, rr, q⟩ := h
  match ds, rr, q with
  | [.ref n], rr, q =>
    obtain ⟨v, rfl, rv⟩ := reps_one rr
    simp only [Rep] at rv
    obtain ⟨a, ea, rfl⟩ := rv
    rw [Vals.ref1 r]
    simp only [op1, gDictP] at q
    cases el : lstM M n with
    | none => rw [el] at q; exact q.elim
    | some l =>
      simp only [el] at q
      cases ep : pairsD l with
      | none => rw [ep] at q; exact q.elim
      | some kvs =>
        rw [ep] at q
        obtain ⟨vs, h1, h2⟩ := lst_get A ea el
        obtain ⟨its, rv, pl, hz⟩ := I.list h1
        obtain ⟨Z, z1, z2, z3⟩ := pairs_laid I h2 rv ep
        have hlZ : Z.length = its.length := by rw [z1, List.length_map]
        have hli := rv.length
        let ps : List (Value × Value) := Z.map fun z => (Value.ref z.2.2.1, z.2.2.2)
        let Ts : Nat → Addr := fun j => (Z[j]?.map (·.1)).getD 0
        have hps : ps.length = Z.length := List.length_map _
        have hZ : ∀ (j : Nat) (k v : Value), ps[j]? = some (k, v) → ∃ z : Addr × NestedKey × Addr × Value, Z[j]? = some z ∧ k = Value.ref z.2.2.1 ∧ v = z.2.2.2 := fun j k v e => by
          simp only [ps, List.getElem?_map, Option.map_eq_some_iff] at e
          obtain ⟨z, e1, e2⟩ := e
          cases e2
          exact ⟨z, e1, rfl, rfl⟩
        have ok : PlainSeq "list" s.heap a its.toArray ∧ PairItems s.heap its.toArray Ts ps := by
          obtain ⟨o, m, ho, hcl, hdn, hdt⟩ := pl
          refine ⟨⟨o, m, ho, hcl, hdn, hdt⟩, by rw [List.size_toArray, hps, hlZ], fun j k v e => ?_⟩
          obtain ⟨z, e1, rfl, rfl⟩ := hZ j k v e
          have eT : Ts j = z.1 := by simp only [Ts, e1, Option.map_some, Option.getD_some]
          rw [eT]
          refine ⟨?_, (z3 z (List.mem_of_getElem? e1)).1⟩
          rw [z1]
          simp [e1]
        have hn := I.hok.fresh (Nat.le_refl s.heap.objs.size)
        have keys : ∀ h' : Heap, (∀ b o, b ≠ s.heap.objs.size → s.heap.get? b = some o → h'.get? b = some o) → ∀ x ∈ Z.map (·.2), (nestedKind X.prog X.w).is h' x.1 x.2.1 := fun h' hk x hx => by
          obtain ⟨z, mz, rfl⟩ := List.mem_map.mp hx
          have q := (z3 z mz).2
          exact ⟨NestedIs.at (fun b o vs n hb _ => hk b o (Nat.ne_of_lt (Heap.lt_size hb)) hb) _ _ q.1, q.2⟩
        refine call_dict_pairsH (knd := nestedKind X.prog X.w) (ps := Z.map (·.2)) (PairArg.list a its.toArray Ts ps) (I.ok.hd hc) (show X.A.units + 1 + 1 + 8 < cLine by omega) ok ⟨by rw [List.length_map, hps], fun i key v rel => ?_⟩ (fun h' hk x hx => keys h' (fun b o hb e => hk b o hb (by simp) e) x hx) (by rw [hps, hlZ, ← hli]; exact hz) fun h' tk hd kp => ?_
        · obtain ⟨z, e1, rfl, rfl⟩ := hZ i key v rel
          exact ⟨z.2.1, z.2.2.1, by simp [e1], rfl⟩
        · obtain ⟨o', es, epo, ho', hex, hdt, hes, _, hnd⟩ := hd
          have x3 : Ext X.K ι H (ι ++ [s.heap.objs.size]) (upd H s.heap.objs.size (dctO s.heap.objs.size o')) := ext_new hn _
          have hl2 := putAll_length kvs []
          have hl3 := Paired.length z2
          rw [List.length_map] at hl3
          refine ⟨.ref s.heap.objs.size, upd H s.heap.objs.size (dctO s.heap.objs.size o'), I.laid (t' := tk) (fun b u e => kp b u (by simp) e) (Nat.le_refl _) (dctO_new (X := X) ho'), rfl, q (ι ++ [s.heap.objs.size]) _ _ (step_new hn) (A.new hn ⟨o', upd_same, big_ne I.big, ?_, hex, es, epo, _, hdt, hes, hnd, Paired.mapP (putAll_rel z2 .nil) fun _ _ z => z.ext x3⟩) ?_⟩
          · simp at hl2; omega
          · simp only [Rep]
            exact ⟨_, by rw [← A.len]; simp, rfl⟩
  | [.non], rr, q => exact q.elim
  | [.bl _], rr, q => exact q.elim
  | [.int _], rr, q => exact q.elim
  | [.str _], rr, q => exact q.elim
  | [.tup _], rr, q => exact q.elim
  | [.ty _], rr, q => exact q.elim
  | [], rr, q => exact q.elim
  | _ :: _ :: _, rr, q => exact q.elim
def gDictA : D → Store → Option (D × Store) := fun d M => match d with
  | .ref n => match dctM M n with
    | some _ => gDict d M
    | none => gDictP d M
  | _ => none
theorem cl_dictA (hc : X.calm = true) (hu : X.A.units + 64 < cLine) : SCl X (.type "dict") (op1 gDictA) := cl_one (CallR.or (cl_dictC hu) (cl_dictP hc hu)) fun ι M H d x Q A r q => by
  cases d with
  | ref n =>
    unfold gDictA at q
    cases e : dctM M n with
    | none => simp only [e] at q; exact .inr ⟨ι, M, [.ref n], A, Reps.one r, q⟩
    | some kvs => simp only [e] at q; exact .inl ⟨ι, M, [.ref n], A, Reps.one r, q⟩
  | _ => exact q.elim
end
end Sh

namespace Sh
open PySem L2
/-! ### x == y of instances whose class has its own __eq__ -/
/-- disp: the class's __eq__; cs: classes that are not below each other -/
def oEqO (cs : List Nat) (disp : Nat → Option FF) : O2 := fun x y M => match x with
  | .ref i => match M[i]? with
    | some (.ins c _) => match disp c with
      | some ff => match y with
        | .ref j => match M[j]? with
          | some (.ins e _) => if (cs.contains c && cs.contains e) = true then (match ff [x, y] M with
            | .ok d M' => some (d, M')
            | _ => none) else none
          | _ => none
        | _ => none
      | none => none
    | _ => oEq x y M
  | _ => oEq x y M
def NotF (K : PySem.W.Frag) (cs : List Nat) : Prop := ∀ c ∈ cs, ∀ e ∈ cs, PySem.W.notFirst K (ca K c) (.ref (ca K e)) = true
def notfB (K : PySem.W.Frag) (cs : List Nat) : Bool := cs.all fun c => cs.all fun e => PySem.W.notFirst K (ca K c) (.ref (ca K e))
theorem notfB_ok {K : PySem.W.Frag} {cs : List Nat} (h : notfB K cs = true) : NotF K cs := fun c m e n => List.all_eq_true.mp (List.all_eq_true.mp h c m) e n
section
variable {X : Cx} {W : WX}
theorem so_eqO {cs : List Nat} {disp : Nat → Option FF} {k : Nat} (hn : NotF X.K cs) (hd : ∀ c ff, disp c = some ff → ∃ f, Meth X.K (ca X.K c) "__eq__" f ∧ Fn X k f 2 ff) (hr : Room k X.A) : SOp X (compareOp .Eq) (oEqO cs disp) := by
  intro pins s σ H x y v u Q I rx ry q
  obtain ⟨ι, M, d, e, A, r1, r2, q⟩ := q
  have plain : PostO (cgd X) ι H (oEq d e M) Q → wpAny (model X.prog X.w) X.A (compareOp .Eq v u) (EP X pins σ Q) X.xe s := fun q =>
    so_eq (by have := hr.un; omega) pins s σ H x y v u Q I rx ry ⟨ι, M, d, e, A, r1, r2, q⟩
  cases d with
  | ref i =>
    simp only [oEqO] at q
    cases ei : M[i]? with
    | none => rw [ei] at q; exact plain q
    | some ob =>
      rw [ei] at q
      cases ob with
      | ins c fs =>
        simp only at q
        cases ec : disp c with
        | none => rw [ec] at q; exact q.elim
        | some ff =>
          simp only [ec] at q
          cases e with
          | ref j =>
            simp only at q
            cases ej : M[j]? with
            | none => rw [ej] at q; exact q.elim
            | some ob2 =>
              rw [ej] at q
              cases ob2 with
              | ins c2 fs2 =>
                simp only at q
                split at q
                · rename_i hcs
                  simp only [Bool.and_eq_true] at hcs
                  have r10 := r1
                  have r20 := r2
                  simp only [Rep] at r1 r2
                  obtain ⟨a, ea, rfl⟩ := r1
                  obtain ⟨b, eb, rfl⟩ := r2
                  cases (show v = Value.ref a from rx)
                  cases (show u = Value.ref b from ry)
                  obtain ⟨f, mt, F⟩ := hd c ff ec
                  obtain ⟨dx, vs, h1, _⟩ := A.obj i a _ ea ei
                  obtain ⟨dy, ws, h2, _⟩ := A.obj j b _ eb ej
                  obtain ⟨_, O1, _⟩ := ins_get I.hok h1
                  obtain ⟨_, J1, _⟩ := O1.look
                  obtain ⟨_, O2', _⟩ := ins_get I.hok h2
                  obtain ⟨_, J2, _⟩ := O2'.look
                  obtain ⟨m, hF⟩ := I.fr
                  show wpAny _ _ (richCompare .Eq (.ref a) (.ref b)) _ _ _
                  refine PySem.W.cmp_K (op := .Eq) (tb := .ref (ca X.K c2)) hr.units0 hF I.ok.mod.kin J1 J2.type (hn c (by simpa using hcs.1) c2 (by simpa using hcs.2)) mt.at_ mt.fn ?_
                  refine wpAny_mono (wpAny_call (run_fnR (Q := Q) (us := [.ref a, .ref b]) (vs := [.ref a, .ref b]) (fn_raw F) hr pass00 I (.cons rfl (.cons rfl .nil)) ⟨ι, M, [.ref i, .ref j], A, ?_, rfl, ?_⟩)) (fun w s' z => ?_) fun _ _ x => x
                  · simp only [Reps]
                    exact ⟨_, _, rfl, r10, _, _, rfl, r20, rfl⟩
                  · cases ef : ff [.ref i, .ref j] M with
                    | ok dd M' => rw [ef] at q; exact q
                    | exc _ _ _ => rw [ef] at q; exact q.elim
                    | bad => rw [ef] at q; exact q.elim
                  · obtain ⟨z', H', I', rz, qz⟩ := z
                    exact SlX.cmpback rz ⟨z', H', I', rz, qz⟩
                · exact q.elim
              | _ => exact q.elim
          | _ => exact q.elim
      | _ => exact plain q
  | _ => exact plain q
end
end Sh

namespace Sh
open PySem L2
section
variable {prog : Program} {w : World} {A : Around} {E : Value → Shared → Prop} {s : Shared} {K : PySem.W.Frag} {x C f : Addr} {ox : Obj} {od : Option Obj} {b : Value}
/-- what x != y asks of the class -/
structure NeOk (K : PySem.W.Frag) (C : Addr) : Prop where
  ne : PySem.W.findIn K (.ref C) "__ne__" = some (some (.builtin "object.__ne__"))
  sub : PySem.W.subIn K (.ref C) (.type "object") = some true
theorem ne_call {Q : Value → Shared → Prop} (X : K.In s.heap) (I : PySem.W.InstAt s.heap x ox C od) (c : NeOk K C) (hu : A.units + 1 < cLine) (hs : PySem.W.findIn K (.ref C) "__eq__" = some (some (.ref f))) (hf : PySem.W.isFn K (.ref f) = true)
    (h : wpAny (model prog w) A.in1 (call (.ref f) [.ref x, b]) (fun r s' => ∃ k, r = Value.bool k ∧ Q (.bool (!k)) s') E s) : wpAny (model prog w) A (call (.builtin "object.__ne__") [.ref x, b]) Q E s := by
  have inst : PySem.W.Looks (model prog w) s.heap (isInstance (.ref x) (.type "object")) true := I.type.andThen (PySem.W.looks_subIn X c.sub)
  refine wpAny_call (codeAny_call_builtin F.cmp_object.ne.plain F.cmpEntry_ne (@PySem.W.check_slot (model prog w) _ _ _ "object.__ne__" "object" "__ne__" (.ref x) [b] [] _ F.cmpKind_ne F.cmpSplit_ne inst (F.cmpArgs_ne _ _) ?_))
  unfold Builtin.«object.__ne__»
  refine wpAny_bind (wpAny_pure ?_)
  refine wpAny_bind (wpAny_cRoomFor hu ?_)
  refine wpAny_bind (PySem.W.ifBound_K X I hs hf (wpAny_mono h (fun r s' z => ?_) fun _ _ e => e))
  obtain ⟨k, rfl, q⟩ := z
  refine wpAny_bind (wpAny_of_eq (a := k) rfl ?_)
  exact wpAny_pure q
theorem ne_own {Q : Value → Shared → Prop} {tb : Value} (X : K.In s.heap) (I : PySem.W.InstAt s.heap x ox C od) (c : NeOk K C) (hu : A.units + 1 < cLine) (hb : PySem.W.Looks (model prog w) s.heap (typeOf b) tb) (hn : PySem.W.notFirst K C tb = true) (hs : PySem.W.findIn K (.ref C) "__eq__" = some (some (.ref f))) (hf : PySem.W.isFn K (.ref f) = true)
    (h : wpAny (model prog w) A.in1 (call (.ref f) [.ref x, b]) (fun r s' => ∃ k, r = Value.bool k ∧ Q (.bool (!k)) s') E s) : wpAny (model prog w) A (richCompare .NotEq (.ref x) b) Q E s := by
  have bound : wpAny (model prog w) A (callSpecialIfBound? (.ref x) "__ne__" [b]) (fun r s' => ∃ k, r = some (Value.bool k) ∧ Q (.bool k) s') E s := by
    have hc : wpAny (model prog w) A (call (.builtin "object.__ne__") ([.ref x] ++ [b]) >>= fun v => pure (some v)) (fun r s' => ∃ k, r = some (Value.bool k) ∧ Q (.bool k) s') E s :=
      wpAny_bind (ne_call (Q := fun v s' => wpAny (model prog w) A (pure (some v)) (fun r s' => ∃ k, r = some (Value.bool k) ∧ Q (.bool k) s') E s') X I c hu hs hf (wpAny_mono h (fun r s' ⟨k, e, q⟩ => ⟨k, e, wpAny_pure ⟨!k, rfl, q⟩⟩) fun _ _ e => e))
    simp only [callSpecialIfBound?, bindSpecialIfBound?]
    refine wpAny_holding (wpAny_bind (wpAny_bind (wpAny_bind (I.type.here ((PySem.W.looks_findIn X c.ne).here ?_)))))
    simp only [F.cmp_object.ne.bind]
    refine wpAny_bind (wpAny_askSetting (wpAny_ite ?_))
    split
    · exact wpAny_bind (wpAny_pure (wpAny_pure hc))
    · exact wpAny_tryCatch (wpAny_bind (wpAny_pure (wpAny_pure hc)))
  have one : wpAny (model prog w) A (tryCompare (.ref x) "__ne__" b) (fun r s' => ∃ k, r = some (Value.bool k) ∧ Q (.bool k) s') E s := by
    unfold tryCompare
    refine wpAny_bind (wpAny_mono bound (fun r s' ⟨k, e, q⟩ => ?_) fun _ _ e => e)
    subst e
    exact wpAny_pure ⟨k, rfl, q⟩
  unfold richCompare
  simp only [oneThing_ref]
  refine wpAny_holding (wpAny_bind (wpAny_cRoomFor (Nat.lt_of_succ_lt hu) ?_))
  refine wpAny_bind (I.type.here (wpAny_bind (hb.here ?_)))
  split
  · rename_i q
    have e : PySem.W.subIn K tb (.ref C) = some false := by
      rcases Bool.or_eq_true_iff.mp hn with e | e
      · rw [beq_iff_eq.mp e] at q; simp at q
      · exact beq_iff_eq.mp e
    refine wpAny_bind ((PySem.W.looks_subIn X e).here ?_)
    simp only [Bool.false_eq_true, if_false]
    refine wpAny_bind (wpAny_mono one (fun r s' z => ?_) fun _ _ e => e)
    obtain ⟨k, rfl, hq⟩ := z
    exact wpAny_pure hq
  · refine wpAny_bind (wpAny_pure ?_)
    simp only [Bool.false_eq_true, if_false]
    refine wpAny_bind (wpAny_mono one (fun r s' z => ?_) fun _ _ e => e)
    obtain ⟨k, rfl, hq⟩ := z
    exact wpAny_pure hq
end
end Sh

namespace Sh
open PySem L2
def oNeO (cs : List Nat) (disp : Nat → Option FF) : O2 := fun x y M => match x with
  | .ref i => match M[i]? with
    | some (.ins c _) => match disp c with
      | some ff => match y with
        | .ref j => match M[j]? with
          | some (.ins e _) => if (cs.contains c && cs.contains e) = true then (match ff [x, y] M with
            | .ok (.bl b) M' => some (.bl (!b), M')
            | _ => none) else none
          | _ => none
        | _ => none
      | none => none
    | _ => oNe x y M
  | _ => oNe x y M
def NeAll (K : PySem.W.Frag) (cs : List Nat) : Prop := ∀ c ∈ cs, NeOk K (ca K c)
def neB (K : PySem.W.Frag) (cs : List Nat) : Bool := cs.all fun c => He.eqO (PySem.W.findIn K (.ref (ca K c)) "__ne__") (some (some (.builtin "object.__ne__"))) && decide (PySem.W.subIn K (.ref (ca K c)) (.type "object") = some true)
theorem neB_ok {K : PySem.W.Frag} {cs : List Nat} (h : neB K cs = true) : NeAll K cs := fun c m => by
  obtain ⟨h1, h2⟩ := He.ba (List.all_eq_true.mp h c m)
  exact ⟨He.eqO_ok h1, of_decide_eq_true h2⟩
section
variable {X : Cx} {W : WX}
theorem so_neO {cs : List Nat} {disp : Nat → Option FF} {k : Nat} (hn : NotF X.K cs) (hne : NeAll X.K cs) (hd : ∀ c ff, disp c = some ff → ∃ f, Meth X.K (ca X.K c) "__eq__" f ∧ Fn X k f 2 ff) (hr : Room (k + 1) X.A) : SOp X (compareOp .NotEq) (oNeO cs disp) := by
  intro pins s σ H x y v u Q I rx ry q
  obtain ⟨ι, M, d, e, A, r1, r2, q⟩ := q
  have plain : PostO (cgd X) ι H (oNe d e M) Q → wpAny (model X.prog X.w) X.A (compareOp .NotEq v u) (EP X pins σ Q) X.xe s := fun q =>
    so_ne (by have := hr.un; omega) pins s σ H x y v u Q I rx ry ⟨ι, M, d, e, A, r1, r2, q⟩
  cases d with
  | ref i =>
    simp only [oNeO] at q
    cases ei : M[i]? with
    | none => rw [ei] at q; exact plain q
    | some ob =>
      rw [ei] at q
      cases ob with
      | ins c fs =>
        simp only at q
        cases ec : disp c with
        | none => rw [ec] at q; exact q.elim
        | some ff =>
          simp only [ec] at q
          cases e with
          | ref j =>
            simp only at q
            cases ej : M[j]? with
            | none => rw [ej] at q; exact q.elim
            | some ob2 =>
              rw [ej] at q
              cases ob2 with
              | ins c2 fs2 =>
                simp only at q
                split at q
                · rename_i hcs
                  simp only [Bool.and_eq_true] at hcs
                  have r10 := r1
                  have r20 := r2
                  simp only [Rep] at r1 r2
                  obtain ⟨a, ea, rfl⟩ := r1
                  obtain ⟨b, eb, rfl⟩ := r2
                  cases (show v = Value.ref a from rx)
                  cases (show u = Value.ref b from ry)
                  obtain ⟨f, mt, F⟩ := hd c ff ec
                  obtain ⟨dx, vs, h1, _⟩ := A.obj i a _ ea ei
                  obtain ⟨dy, ws, h2, _⟩ := A.obj j b _ eb ej
                  obtain ⟨_, O1, _⟩ := ins_get I.hok h1
                  obtain ⟨_, J1, _⟩ := O1.look
                  obtain ⟨_, O2', _⟩ := ins_get I.hok h2
                  obtain ⟨_, J2, _⟩ := O2'.look
                  show wpAny _ _ (richCompare .NotEq (.ref a) (.ref b)) _ _ _
                  refine ne_own (tb := .ref (ca X.K c2)) I.kIn J1 (hne c (by simpa using hcs.1)) (by have := hr.un; omega) J2.type (hn c (by simpa using hcs.1) c2 (by simpa using hcs.2)) mt.at_ mt.fn ?_
                  refine wpAny_mono (wpAny_call (SlX.run_at (Q := fun z H' => ∃ k, z = .bl k ∧ Q (.bl (!k)) H') (us := [.ref a, .ref b]) (ws := [.ref a, .ref b]) (fn_raw F) hr.in1 I.env0.in1 pass00 I (.cons rfl (.cons rfl .nil)) ⟨ι, M, [.ref i, .ref j], A, ?_, rfl, ?_⟩)) (fun w s' z => ?_) fun _ _ x => x
                  · simp only [Reps]
                    exact ⟨_, _, rfl, r10, _, _, rfl, r20, rfl⟩
                  · cases ef : ff [.ref i, .ref j] M with
                    | ok dd M' =>
                      rw [ef] at q
                      cases dd with
                      | bl kb =>
                        intro ι' H' v' st A' rv
                        simp only [Rep] at rv
                        exact ⟨kb, rv, q ι' H' _ st A' (by simp only [Rep])⟩
                      | _ => exact q.elim
                    | exc _ _ _ => rw [ef] at q; exact q.elim
                    | bad => rw [ef] at q; exact q.elim
                  · obtain ⟨z', H', I', rz, kb, rfl, qz⟩ := z
                    cases (show w = Value.bool kb from rz)
                    exact ⟨kb, rfl, .bl (!kb), H', I', rfl, qz⟩
                · exact q.elim
              | _ => exact q.elim
          | _ => exact q.elim
      | _ => exact plain q
  | _ => exact plain q
end
end Sh

namespace Sh
open PySem L2
/-! ### == of data with dicts in them -/
section
variable {prog : Program} {w : World} {K : Type} [DecidableEq K] {knd : HeapKind prog w K} {A : Around} {E : Value → Shared → Prop} {s : Shared}
open PySem.W in
theorem same_pairsH {nm : String} {a b : Addr} {xa xb : List (K × Addr × Value)} {r : Bool} {Q : Bool → Shared → Prop} (hu : knd.room A) (ha : (a == sysModules) = false) (hb : (b == sysModules) = false)
    (da : s.heap.DictOfH knd a xa) (db : s.heap.DictOfH knd b xb) (hits : xa.length = xb.length → KeqHitsIn prog w A s (pairsH xb) (pairsH xa) r) (h : Q (xa.length == xb.length && r) s) :
    wpAny (model prog w) A (Builtin.Dict.samePairs nm a b) Q E s := by
  obtain ⟨oa, es, ep, hoa, _, hda, hea, hia, hna⟩ := da
  obtain ⟨ob, es', ep', hob, _, hdb, heb, hib, hnb⟩ := db
  have hla : xa.length = es.size := (size_of_entries hea).symm
  have hlb : xb.length = es'.size := (size_of_entries heb).symm
  rw [hla, hlb] at h
  unfold Builtin.Dict.samePairs Builtin.Dict.showsAll
  rw [if_neg (show ¬ (a == sysModules) = true by rw [ha]; exact Bool.false_ne_true), if_neg (show ¬ (b == sysModules) = true by rw [hb]; exact Bool.false_ne_true)]
  refine wpAny_bind (wpAny_pure (wpAny_bind (wpAny_pure ?_)))
  refine wpAny_bind (wpAny_dictEntries hoa hda ?_)
  dsimp only
  refine wpAny_bind (wpAny_dictEntries hob hdb ?_)
  by_cases hsz : es.size = es'.size
  case neg =>
    rw [if_pos (by simpa using hsz)]
    have hbf : (es.size == es'.size) = false := by simpa using hsz
    rw [hbf, Bool.false_and] at h
    exact wpAny_bind (wpAny_rule (wpAny_pure h))
  case pos =>
    have h' : Q r s := by simpa [hsz] using h
    have hits' := hits (by rw [hla, hlb]; exact hsz)
    rw [if_neg (by rw [hsz]; simp)]
    refine wpAny_bind (wpAny_dictEpoch hoa hda ?_)
    refine wpAny_bind ?_
    rw [Std.Legacy.Range.forIn_eq_forIn_range']
    simp only [Std.Legacy.Range.size, Nat.sub_zero, Nat.add_sub_cancel, Nat.div_one]
    refine wpAny_forIn_list _
      (fun rest q s' => s' = s ∧ q = (none, ()) ∧ ∃ i, rest = List.range' i (es.size - i) ∧ i ≤ es.size ∧ KeqHitsIn prog w A s (pairsH xb) ((pairsH xa).drop i) r)
      _ ?_ ?_ _ _ ⟨rfl, rfl, 0, by simp, Nat.zero_le _, hits'⟩
    · rintro x rest q s' ⟨rfl, rfl, i, hr, hi, hpre⟩
      have hlt : i < es.size := by
        rcases Nat.lt_or_ge i es.size with h | h
        · exact h
        · rw [Nat.sub_eq_zero_of_le h] at hr; simp at hr
      obtain ⟨rfl, hrest⟩ : x = i ∧ rest = List.range' (i + 1) (es.size - (i + 1)) := by
        have e : es.size - i = (es.size - (i + 1)) + 1 := by omega
        rw [e, List.range'_succ] at hr
        injection hr with h1 h2
        exact ⟨h1, h2⟩
      refine wpAny_bind (wpAny_dictEntries hoa hda ?_)
      have hlt' : x < xa.length := by rw [hla]; exact hlt
      obtain ⟨k, ad, v, hkv⟩ : ∃ k ad v, xa[x] = (k, ad, v) := ⟨_, _, _, rfl⟩
      have hget : xa[x]? = some (k, ad, v) := by rw [List.getElem?_eq_getElem hlt', hkv]
      have hent : es[x]? = some (entryOfKey knd (k, ad, v)) := by rw [entry_at hea, hget]; rfl
      have hdrop : (pairsH xa).drop x = (k, v) :: (pairsH xa).drop (x + 1) := by
        have hl : x < (pairsH xa).length := by rw [pairsH_length]; exact hlt'
        rw [List.drop_eq_getElem_cons hl]
        congr 1
        simp [pairsH, hkv]
      have hkey := hia (k, ad, v) (List.mem_of_getElem? hget)
      rw [hent]
      rw [hdrop] at hpre
      show wpAny _ _ (holding [.ref ad, v] _ >>= _) _ _ _
      refine wpAny_bind (wpAny_holding (wpAny_bind ?_))
      show wpAny _ _ (dictFind b (.ref ad) (knd.hash k)) _ _ _
      refine wpAny_dictFind_heap hu hkey hob hdb heb hib hnb (fun hnone => ?_) fun j p hj => ?_
      · have hn : valueAt (pairsH xb) k = none := by rw [valueAt_pairsH, atKey_none_of_get hnone]; rfl
        rcases hpre.inv with ⟨_, er⟩ | ⟨y, _, _, hy, _⟩
        · rw [er] at h'
          refine wpAny_pure ?_
          show wpAny _ _ (if (!false) = true then _ else _) _ _ _
          rw [if_pos (by decide)]
          exact wpAny_pure (wpAny_pure h')
        · rw [hn] at hy; exact nomatch hy
      · have hv' : valueAt (pairsH xb) k = some p.2 := by rw [valueAt_pairsH, atKey_of_get hnb hj]; rfl
        have hent2 : es'[j]? = some (entryOfKey knd (k, p)) := by rw [entry_at heb, hj]; rfl
        refine wpAny_bind (wpAny_dictEntries hob hdb ?_)
        rw [hent2]
        rcases hpre.inv with ⟨hn, _⟩ | ⟨y, e, b', hy, he, hrr, er⟩
        · rw [hv'] at hn; exact nomatch hn
        · have ey : p.2 = y := Option.some.inj (hv'.symm.trans hy)
          rw [← ey] at he
          refine wpAny_holding (he _ _ ?_)
          cases e with
          | false =>
            rw [er, Bool.false_and] at h'
            show wpAny _ _ (if (!false) = true then _ else _) _ _ _
            rw [if_pos (by decide)]
            exact wpAny_pure (wpAny_pure h')
          | true =>
            rw [Bool.true_and] at er
            rw [← er] at hrr
            show wpAny _ _ (if (!true) = true then _ else _) _ _ _
            rw [if_neg (by decide)]
            refine wpAny_bind (wpAny_dictEpoch hoa hda ?_)
            rw [if_neg (by simp)]
            exact wpAny_pure ⟨rfl, rfl, x + 1, hrest, hlt, hrr⟩
    · rintro q s' ⟨rfl, rfl, i, hr, hi, hpre⟩
      have hin : i = es.size := by
        rcases Nat.lt_or_ge i es.size with h | h
        · have e : es.size - i = (es.size - (i + 1)) + 1 := by omega
          rw [e, List.range'_succ] at hr; exact nomatch hr
        · exact Nat.le_antisymm hi h
      refine wpAny_pure ?_
      have hp : (pairsH xa).drop i = [] := by rw [hin, ← hla, ← pairsH_length xa, List.drop_length]
      rw [hp] at hpre
      cases hpre
      exact h'
open PySem.W in
theorem eq_dictsH {a b : Addr} {xa xb : List (K × Addr × Value)} {r : Bool} {Q : Value → Shared → Prop} (hr : knd.room A.in1) (ha : (a == sysModules) = false) (hb : (b == sysModules) = false)
    (da : s.heap.DictOfH knd a xa) (db : s.heap.DictOfH knd b xb) (hu : A.units < cLine) (hits : xa.length = xb.length → KeqHitsIn prog w A.in1 s (pairsH xb) (pairsH xa) r) (h : Q (.bool (xa.length == xb.length && r)) s) :
    wpAny (model prog w) A (compareOp .Eq (.ref a) (.ref b)) Q E s := by
  refine wpAny_richCompare_same_room (op := .Eq) da.typeIs db.typeIs PySem.F.slot_dict_eq (wpAny_call_entry PySem.F.slot_dict_eq da.typeIs PySem.F.entry_dict_eq ?_ (PySem.F.args_dict_eq_2 _ _)) hu
  show wpAny _ _ (Builtin.Dict.dictSlotArgs "__eq__" ⟨[.ref a, .ref b], []⟩ >>= _) _ _ s
  refine wpAny_bind ?_
  unfold Builtin.Dict.dictSlotArgs
  refine wpAny_bind (wpAny_notOrdered_dict da.typeIs ?_)
  show wpAny _ _ (pure (Value.ref a, Value.ref b)) _ _ s
  refine wpAny_pure ?_
  refine wpAny_bind (wpAny_isInstance (T := "dict") db.typeIs PySem.F.sub_dict_dict ?_)
  simp only [Bool.not_true, Bool.false_eq_true, if_false]
  refine wpAny_bind (wpAny_pure (wpAny_bind (wpAny_pure ?_)))
  refine wpAny_bind (same_pairsH hr ha hb da db hits ?_)
  refine wpAny_pure ⟨_, rfl, ?_, ?_⟩
  · exact fun x => nomatch x
  · simpa using h
end
end Sh

namespace Sh
open PySem L2
/-! ### == of data with dicts in them: the meaning -/
def andO : Option Bool → Option Bool → Option Bool
  | some a, some b => some (a && b)
  | _, _ => none
def eqFs (f : D → D → Option Bool) : List D → List D → Option Bool
  | a :: l, b :: r => andO (f a b) (eqFs f l r)
  | _, _ => some true
def eqFd (f : D → D → Option Bool) (kb : List (D × D)) : List (D × D) → Option Bool
  | [] => some true
  | (k, v) :: r => match lookD kb k with
    | none => some false
    | some y => andO (f v y) (eqFd f kb r)
/-- deep ==, by objects of other numbers -/
def eqFr (f : D → D → Option Bool) (M : Store) (i j : Nat) : Option Bool := match lstM M i, lstM M j with
  | some l, some r => if l.length = r.length then eqFs f l r else some false
  | _, _ => match dctM M i, dctM M j with
    | some ka, some kb => if ka.length = kb.length then eqFd f kb ka else some false
    | _, _ => none
def eqG (M : Store) : Nat → D → D → Option Bool
  | 0, _, _ => none
  | n + 1, x, y => match eqD M x y with
    | some b => some b
    | none => match x, y with
      | .tup l, .tup r => (eqFs (eqG M n) l r).map fun b => b && l.length == r.length
      | .ref i, .ref j => if i = j then some true else eqFr (eqG M n) M i j
      | _, _ => none
/-- == where no own class stands -/
def oEqG : O2 := fun x y M => match eqD M x y with
  | some b => some (.bl b, M)
  | none => match x, y with
    | .tup l, .tup r => (eqFs (eqG M 8) l r).map fun b => (.bl (b && l.length == r.length), M)
    | .ref i, .ref j => if i = j then none else (eqFr (eqG M 8) M i j).map fun b => (.bl b, M)
    | _, _ => none
theorem optAll_eqv {M : Store} {n : Nat} (ih : ∀ d p, pyd M n d = some p → PyData.eqv p p = true) : ∀ (l : List D) (ps : List PyData), optAll (l.map (pyd M n)) = some ps → PyData.eqvAll ps ps = true
  | [], ps, e => by simp [optAll] at e; subst e; rfl
  | d :: l, ps, e => by
    simp only [List.map_cons] at e
    cases q : pyd M n d with
    | none => rw [q] at e; simp [optAll] at e
    | some p =>
      rw [q] at e
      simp only [optAll, Option.map_eq_some_iff] at e
      obtain ⟨ps', e1, rfl⟩ := e
      simp only [PyData.eqvAll, ih d p q, optAll_eqv ih l ps' e1, Bool.and_self]
theorem pyd_eqv {M : Store} : ∀ (n : Nat) (d : D) (p : PyData), pyd M n d = some p → PyData.eqv p p = true
  | 0, _, _, e => by simp [pyd] at e
  | n + 1, d, p, e => by
    cases d with
    | non => simp [pyd] at e; subst e; simp [PyData.eqv]
    | bl b => simp [pyd] at e; subst e; simp [PyData.eqv]
    | int i => simp [pyd] at e; subst e; simp [PyData.eqv]
    | str x => simp [pyd] at e; subst e; simp [PyData.eqv]
    | ty n => simp [pyd] at e
    | tup l =>
      simp only [pyd, Option.map_eq_some_iff] at e
      obtain ⟨ps, e, rfl⟩ := e
      simp only [PyData.eqv]
      exact optAll_eqv (pyd_eqv n) l ps e
    | ref k =>
      simp only [pyd] at e
      cases e1 : M[k]? with
      | none => rw [e1] at e; cases e
      | some o =>
        rw [e1] at e
        cases o with
        | lst l =>
          simp only [Option.map_eq_some_iff] at e
          obtain ⟨ps, e, rfl⟩ := e
          simp only [PyData.eqv]
          exact optAll_eqv (pyd_eqv n) l ps e
        | fz l =>
          simp only [Option.map_eq_some_iff] at e
          obtain ⟨ps, e, rfl⟩ := e
          simp only [PyData.eqv]
          exact optAll_eqv (pyd_eqv n) l ps e
        | _ => cases e
theorem eqD_refl {M : Store} {d : D} {b : Bool} (h : eqD M d d = some b) : b = true := by
  unfold eqD at h
  cases e : pyd M 8 d with
  | none => rw [e] at h; cases h
  | some p =>
    rw [e] at h
    simp only at h
    split at h
    · cases h; exact pyd_eqv 8 d p e
    · cases h
theorem eqFs_refl {f : D → D → Option Bool} (hf : ∀ d b, f d d = some b → b = true) : ∀ (l : List D) (b : Bool), eqFs f l l = some b → b = true
  | [], b, h => by simp [eqFs] at h; exact h
  | d :: l, b, h => by
    simp only [eqFs] at h
    cases e1 : f d d with
    | none => rw [e1] at h; simp [andO] at h
    | some x =>
      cases e2 : eqFs f l l with
      | none => rw [e1, e2] at h; simp [andO] at h
      | some y =>
        rw [e1, e2] at h
        simp only [andO, Option.some.injEq] at h
        rw [← h, hf d x e1, eqFs_refl hf l y e2]; rfl
theorem eqG_refl {M : Store} : ∀ (n : Nat) (d : D) (b : Bool), eqG M n d d = some b → b = true
  | 0, _, _, h => by simp [eqG] at h
  | n + 1, d, b, h => by
    simp only [eqG] at h
    cases e : eqD M d d with
    | some b' => rw [e] at h; cases h; exact eqD_refl e
    | none =>
      rw [e] at h
      cases d with
      | tup l =>
        simp only [Option.map_eq_some_iff] at h
        obtain ⟨b', h, rfl⟩ := h
        rw [eqFs_refl (eqG_refl n) l b' h]; simp
      | ref i => simp at h; exact h
      | _ => cases h
section
variable {X : Cx} {pins : List (Addr × Obj)} {σ : St} {H : Hp} {s : Shared} {ι : List Addr} {M : Store}
theorem ntsq (I : Inv X pins σ H s) (A : Abs X.K ι H X.prog X.w M) {n : Nat} {a : Addr} {vs : List V} (ea : ι[n]? = some a) (h : SqT X.K H a vs) : False := by
  have m := List.mem_of_getElem? ea
  rcases h with h | ⟨o, its, k, h, _⟩
  · exact A.nt a m vs h
  · obtain ⟨u, e⟩ := A.tracked m
    rw [(I.bs a o (I.mod.kin a o h)).2] at e
    cases e
mutual
theorem rep_inj (I : Inv X pins σ H s) (A : Abs X.K ι H X.prog X.w M) : ∀ (d e : D) (v : V), Rep X.K ι H d v → Rep X.K ι H e v → d = e
  | .non, e, v, r, q => by cases e <;> simp only [Rep] at r q <;> simp_all
  | .bl _, e, v, r, q => by cases e <;> simp only [Rep] at r q <;> simp_all
  | .int _, e, v, r, q => by cases e <;> simp only [Rep] at r q <;> simp_all
  | .str _, e, v, r, q => by cases e <;> simp only [Rep] at r q <;> simp_all
  | .ty _, e, v, r, q => by cases e <;> simp only [Rep] at r q <;> simp_all
  | .ref n, e, v, r, q => by
    simp only [Rep] at r
    obtain ⟨a, ea, rfl⟩ := r
    cases e with
    | ref m =>
      simp only [Rep] at q
      obtain ⟨b, eb, h⟩ := q
      cases h
      rw [ix_inj A.nd ea eb]
    | tup l =>
      simp only [Rep] at q
      obtain ⟨b, vs, h, h1, h2⟩ := q
      cases h
      exact absurd h1 (fun z => ntsq I A ea z)
    | _ => simp only [Rep] at q; cases q
  | .tup l, e, v, r, q => by
    simp only [Rep] at r
    obtain ⟨a, vs, rfl, h1, h2⟩ := r
    cases e with
    | ref m =>
      simp only [Rep] at q
      obtain ⟨b, eb, h⟩ := q
      cases h
      exact absurd h1 (fun z => ntsq I A eb z)
    | tup l' =>
      simp only [Rep] at q
      obtain ⟨b, us, h, g1, g2⟩ := q
      cases h
      have := I.tuple_inj h1 g1
      subst this
      rw [reps_inj I A l l' vs h2 g2]
    | _ => simp only [Rep] at q; cases q
theorem reps_inj (I : Inv X pins σ H s) (A : Abs X.K ι H X.prog X.w M) : ∀ (l r : List D) (vs : List V), Reps X.K ι H l vs → Reps X.K ι H r vs → l = r
  | [], r, vs, h, g => by
    simp only [Reps] at h
    subst h
    cases r with
    | nil => rfl
    | cons d r => simp only [Reps] at g; obtain ⟨v, z, e, _⟩ := g; cases e
  | d :: l, r, vs, h, g => by
    simp only [Reps] at h
    obtain ⟨v, z, rfl, h1, h2⟩ := h
    cases r with
    | nil => simp only [Reps] at g; cases g
    | cons e r =>
      simp only [Reps] at g
      obtain ⟨v', z', e', g1, g2⟩ := g
      cases e'
      rw [rep_inj I A d e v h1 g1, reps_inj I A l r z h2 g2]
end
end
end Sh

namespace Sh
open PySem L2
section
variable {X : Cx} {pins : List (Addr × Obj)} {σ : St} {H : Hp} {s : Shared} {ι : List Addr} {M : Store}
theorem eqD_in (I : Inv X pins σ H s) (A : Abs X.K ι H X.prog X.w M) {x y : D} {v u : V} {v' u' : Value} {b : Bool} (r1 : Rep X.K ι H x v) (r2 : Rep X.K ι H y u) (h : eqD M x y = some b) (q1 : RelV v v') (q2 : RelV u u')
    {Ar : Around} (hu : Ar.units + 66 < cLine) : SeqAt.EqIn X.prog X.w Ar s v' u' b := by
  obtain ⟨p, q, h1, h2, h3, h4, rfl⟩ := eqD_of (G := cgd X) A r1 r2 h
  obtain ⟨as, e1⟩ := Dp.reads I p v v' h1 q1
  obtain ⟨bs, e2⟩ := Dp.reads I q u u' h2 q2
  exact (SeqAt.EqAt.of_in1 (PySem.W.keq_at e1 e2 h3 h4 (by show Ar.units + 1 + 64 < cLine; omega))).inModel _ _
/-- what is to be shown of a way to compare -/
def EqOk (X : Cx) (s : Shared) (ι : List Addr) (H : Hp) (n : Nat) (f : D → D → Option Bool) : Prop := ∀ (x y : D) (v u : V) (v' u' : Value) (b : Bool), Rep X.K ι H x v → Rep X.K ι H y u → f x y = some b → RelV v v' → RelV u u' →
  ∀ Ar : Around, Ar.units + n < cLine → SeqAt.EqIn X.prog X.w Ar s v' u' b
theorem eqFs_each {n : Nat} {f : D → D → Option Bool} (hf : EqOk X s ι H n f) : ∀ (l r : List D) (vs us : List V) (ws zs : List Value) (b : Bool), Reps X.K ι H l vs → Reps X.K ι H r us → Vals vs ws → Vals us zs → eqFs f l r = some b →
    ∃ e : Nat → Bool, b = (List.range (min ws.length zs.length)).all e ∧ ∀ j (h1 : j < ws.length) (h2 : j < zs.length) (Ar : Around), Ar.units + n < cLine → SeqAt.EqIn X.prog X.w Ar s ws[j] zs[j] (e j)
  | [], r, vs, us, ws, zs, b, h1, h2, q1, q2, e => by
    simp only [Reps] at h1
    subst h1
    cases q1
    simp [eqFs] at e
    subst e
    exact ⟨fun _ => true, by simp, fun j h => by simp at h⟩
  | a :: l, [], vs, us, ws, zs, b, h1, h2, q1, q2, e => by
    simp only [Reps] at h2
    subst h2
    cases q2
    simp [eqFs] at e
    subst e
    exact ⟨fun _ => true, by simp, fun j h h' => by simp at h'⟩
  | a :: l, c :: r, vs, us, ws, zs, b, h1, h2, q1, q2, e => by
    simp only [Reps] at h1 h2
    obtain ⟨v, vs, rfl, h1, h1'⟩ := h1
    obtain ⟨u, us, rfl, h2, h2'⟩ := h2
    cases q1 with
    | @cons _ v' _ ws p1 q1 =>
      cases q2 with
      | @cons _ u' _ zs p2 q2 =>
        simp only [eqFs] at e
        cases e1 : f a c with
        | none => rw [e1] at e; simp [andO] at e
        | some x =>
          cases e2 : eqFs f l r with
          | none => rw [e1, e2] at e; simp [andO] at e
          | some y =>
            rw [e1, e2] at e
            simp only [andO, Option.some.injEq] at e
            obtain ⟨g, hg, hh⟩ := eqFs_each hf l r vs us ws zs y h1' h2' q1 q2 e2
            refine ⟨fun j => match j with | 0 => x | j + 1 => g j, ?_, fun j hj hj' => ?_⟩
            · rw [← e, hg]
              simp only [List.length_cons, Nat.add_min_add_right, List.range_succ_eq_map, List.all_cons, List.all_map]
              rfl
            · cases j with
              | zero => exact fun Ar hu => hf a c v u v' u' x h1 h2 e1 p1 p2 Ar hu
              | succ j => exact hh j (by simpa using hj) (by simpa using hj')
theorem vals_len {vs : List V} {ws : List Value} (h : Vals vs ws) : vs.length = ws.length := h.length
theorem reps_len {K : PySem.W.Frag} {ι : List Addr} {H : Hp} : ∀ {l : List D} {vs : List V}, Reps K ι H l vs → l.length = vs.length
  | [], _, h => by simp only [Reps] at h; subst h; rfl
  | d :: l, _, h => by
    simp only [Reps] at h
    obtain ⟨v, r, rfl, _, h⟩ := h
    simp [reps_len h]
open PySem.W in
theorem eqFd_hits {n : Nat} {f : D → D → Option Bool} (hf : EqOk X s ι H n f) {kb : List (D × D)} {xb : List (NestedKey × Addr × Value)} (pb : Paired (EntR X.K ι H) kb xb) {Ar : Around} (hu : Ar.units + n < cLine) :
    ∀ (ka : List (D × D)) (xa : List (NestedKey × Addr × Value)) (b : Bool), Paired (EntR X.K ι H) ka xa → eqFd f kb ka = some b → KeqHitsIn X.prog X.w Ar s (pairsH xb) (pairsH xa) b
  | [], _, b, .nil, e => by
    simp [eqFd] at e
    subst e
    exact .nil
  | (k, d) :: ka, (x, a, v) :: xa, b, .cons r t, e => by
    obtain ⟨h1, h2, w, h3, h4⟩ := r
    obtain ⟨l1, l2⟩ := look_rel (k := k) (x := x) h1 pb
    simp only [eqFd] at e
    cases q : lookD kb k with
    | none =>
      rw [q] at e
      cases e
      exact .miss (by rw [valueAt_pairsH, l2 q]; rfl)
    | some y =>
      rw [q] at e
      simp only at e
      obtain ⟨p, u, g1, g2, g3⟩ := l1 y q
      cases e1 : f d y with
      | none => rw [e1] at e; simp [andO] at e
      | some z =>
        cases e2 : eqFd f kb ka with
        | none => rw [e1, e2] at e; simp [andO] at e
        | some z' =>
          rw [e1, e2] at e
          simp only [andO, Option.some.injEq] at e
          subst e
          exact .hit (by rw [valueAt_pairsH, g1]; rfl) (hf d y w u v p.2 z h4 g3 e1 h3 g2 Ar hu) (eqFd_hits hf pb hu ka xa z' t e2)
theorem list_at (I : Inv X pins σ H s) (A : Abs X.K ι H X.prog X.w M) {i : Nat} {a : Addr} {l : List D} (ea : ι[i]? = some a) (e : lstM M i = some l) : ∃ vs ws, Reps X.K ι H l vs ∧ Vals vs ws ∧ s.heap.IsList a ws.toArray := by
  obtain ⟨vs, h1, h2⟩ := lst_get A ea e
  obtain ⟨its, rv, pl, _⟩ := I.list h1
  exact ⟨vs, its, h2, rv, pl.isList⟩
/-- the comparison of two objects of other numbers, as richCompare and as == -/
theorem eqFr_rc (I : Inv X pins σ H s) (A : Abs X.K ι H X.prog X.w M) {n : Nat} {f : D → D → Option Bool} (hf : EqOk X s ι H n f) (hn : 9 ≤ n) {i j : Nat} {a c : Addr} {b : Bool} (ei : ι[i]? = some a) (ej : ι[j]? = some c)
    (h : eqFr f M i j = some b) {Ar : Around} (hu : Ar.units + (n + 1) < cLine) {E Q : Value → Shared → Prop} (q : Q (.bool b) s) : wpAny (model X.prog X.w) Ar (compareOp .Eq (.ref a) (.ref c)) Q E s := by
  have hu' : Ar.in1.units + n < cLine := by show Ar.units + 1 + n < cLine; omega
  unfold eqFr at h
  have dd : (match dctM M i, dctM M j with
    | some ka, some kb => if ka.length = kb.length then eqFd f kb ka else some false
    | _, _ => none) = some b → wpAny (model X.prog X.w) Ar (compareOp .Eq (.ref a) (.ref c)) Q E s := fun h => by
    cases e1 : dctM M i with
    | none => rw [e1] at h; cases h
    | some ka =>
      cases e2 : dctM M j with
      | none => rw [e1, e2] at h; cases h
      | some kb =>
        rw [e1, e2] at h
        simp only at h
        obtain ⟨oa, g1, g2⟩ := dct_get I A ei e1
        obtain ⟨ob, g3, g4⟩ := dct_get I A ej e2
        obtain ⟨xa, da, pa, la, _, sa⟩ := dct_of I g1 g2
        obtain ⟨xb, db, pb, lb, _, sb⟩ := dct_of I g3 g4
        by_cases hl : ka.length = kb.length
        · rw [if_pos hl] at h
          refine eq_dictsH (r := b) (show (Ar.units + 1) + 8 < cLine by omega) sa sb da db (by omega) (fun _ => eqFd_hits hf pb hu' ka xa b pa h) ?_
          rw [la, lb, hl]
          simpa using q
        · rw [if_neg hl] at h
          cases h
          refine eq_dictsH (r := false) (show (Ar.units + 1) + 8 < cLine by omega) sa sb da db (by omega) (fun z => absurd (by rw [← la, ← lb]; exact z) hl) ?_
          simpa using q
  cases e1 : lstM M i with
  | none => rw [e1] at h; exact dd h
  | some l =>
    cases e2 : lstM M j with
    | none => rw [e1, e2] at h; exact dd h
    | some r =>
      rw [e1, e2] at h
      simp only at h
      obtain ⟨vs, ws, r1, v1, p1⟩ := list_at I A ei e1
      obtain ⟨us, zs, r2, v2, p2⟩ := list_at I A ej e2
      have hl1 := reps_len r1
      have hl2 := reps_len r2
      have hl3 := v1.length
      have hl4 := v2.length
      by_cases hl : l.length = r.length
      · rw [if_pos hl] at h
        obtain ⟨g, hg, hh⟩ := eqFs_each hf l r vs us ws zs b r1 r2 v1 v2 h
        have hs : ws.toArray.size = zs.toArray.size := by simp; omega
        refine SeqAt.rcIn_lists p1 p2 hs (by omega) (fun j h1 h2 => by simpa using hh j (by simpa using h1) (by simpa using h2) Ar.in1 hu') ?_
        have : min ws.length zs.length = ws.toArray.size := by simp at hs ⊢; omega
        rw [← this, ← hg]
        exact q
      · rw [if_neg hl] at h
        cases h
        exact SeqAt.RcAt.lists_lengths p1 p2 (by simp; omega) (by omega) _ _ E Q q
theorem eqFt_rc (I : Inv X pins σ H s) {n : Nat} {f : D → D → Option Bool} (hf : EqOk X s ι H n f) {l r : List D} {vs us : List V} {a c : Addr} {b : Bool} (t1 : SqT X.K H a vs) (r1 : Reps X.K ι H l vs) (t2 : SqT X.K H c us) (r2 : Reps X.K ι H r us)
    (h : eqFs f l r = some b) {Ar : Around} (hu : Ar.units + (n + 1) < cLine) {E Q : Value → Shared → Prop} (q : Q (.bool (b && l.length == r.length)) s) : wpAny (model X.prog X.w) Ar (compareOp .Eq (.ref a) (.ref c)) Q E s := by
  obtain ⟨ws, v1, p1, _⟩ := I.tuple t1
  obtain ⟨zs, v2, p2, _⟩ := I.tuple t2
  obtain ⟨g, hg, hh⟩ := eqFs_each hf l r vs us ws zs b r1 r2 v1 v2 h
  have hl1 := reps_len r1
  have hl2 := reps_len r2
  have hl3 := v1.length
  have hl4 := v2.length
  refine SeqAt.rcIn_tuples p1 p2 (by omega) (fun j h1 h2 => by simpa using hh j (by simpa using h1) (by simpa using h2) Ar.in1 (by show Ar.units + 1 + n < cLine; omega)) ?_
  have e1 : ws.toArray.size = l.length := by simp; omega
  have e2 : zs.toArray.size = r.length := by simp; omega
  have e3 : min ws.toArray.size zs.toArray.size = min ws.length zs.length := by simp
  rw [e3, ← hg, e1, e2]
  exact q
theorem eqG_ok (I : Inv X pins σ H s) (A : Abs X.K ι H X.prog X.w M) : ∀ n : Nat, EqOk X s ι H (n + 66) (eqG M n)
  | 0 => fun x y v u v' u' b _ _ h => by simp [eqG] at h
  | n + 1 => fun x y v u v' u' b r1 r2 h q1 q2 Ar hu => by
    simp only [eqG] at h
    cases e : eqD M x y with
    | some b' => rw [e] at h; cases h; exact eqD_in I A r1 r2 e q1 q2 (by omega)
    | none =>
      rw [e] at h
      cases x with
      | tup l =>
        cases y with
        | tup r =>
          have r1' := r1
          have r2' := r2
          simp only [Option.map_eq_some_iff] at h
          obtain ⟨b', h, rfl⟩ := h
          simp only [Rep] at r1 r2
          obtain ⟨a, vs, rfl, t1, r1⟩ := r1
          obtain ⟨c, us, rfl, t2, r2⟩ := r2
          cases (show v' = Value.ref a from q1)
          cases (show u' = Value.ref c from q2)
          by_cases hac : a = c
          · subst hac
            have := rep_inj I A _ _ _ r1' r2'
            cases this
            have hb : (b' && l.length == l.length) = true := by
              rw [eqFs_refl (eqG_refl n) l b' h]; simp
            rw [hb]
            exact (SeqAt.EqAt.same _).inModel _ _
          · exact SeqAt.EqIn.of_refs hac fun E Q hq => eqFt_rc I (eqG_ok I A n) t1 r1 t2 r2 h (by omega) hq
        | _ => cases h
      | ref i =>
        cases y with
        | ref j =>
          simp only [Rep] at r1 r2
          obtain ⟨a, ei, rfl⟩ := r1
          obtain ⟨c, ej, rfl⟩ := r2
          cases (show v' = Value.ref a from q1)
          cases (show u' = Value.ref c from q2)
          by_cases hij : i = j
          · subst hij
            rw [ei] at ej
            cases ej
            simp at h
            subst h
            exact (SeqAt.EqAt.same _).inModel _ _
          · simp only [if_neg hij] at h
            exact SeqAt.EqIn.of_refs (fun z => hij (ix_inj A.nd ei (by rw [z]; exact ej))) fun E Q hq => eqFr_rc I A (eqG_ok I A n) (by omega) ei ej h (by omega) hq
        | _ => cases h
      | _ => cases h
end
section
variable {X : Cx}
theorem so_eqG (hu : X.A.units + 80 < cLine) : SOp X (compareOp .Eq) oEqG := by
  intro pins s σ H x y v u Q I rx ry q
  obtain ⟨ι, M, d, e, A, r1, r2, q⟩ := q
  simp only [oEqG] at q
  cases ed : eqD M d e with
  | some b =>
    refine so_eq (by omega) pins s σ H x y v u Q I rx ry ⟨ι, M, d, e, A, r1, r2, ?_⟩
    rw [ed] at q
    simp only [oEq, ed, Option.map]
    exact q
  | none =>
    rw [ed] at q
    cases d with
    | tup l =>
      cases e with
      | tup r =>
        simp only [Rep] at r1 r2
        obtain ⟨a, vs, rfl, t1, r1⟩ := r1
        obtain ⟨c, us, rfl, t2, r2⟩ := r2
        cases (show v = Value.ref a from rx)
        cases (show u = Value.ref c from ry)
        cases h : eqFs (eqG M 8) l r with
        | none => simp only [h] at q; exact q.elim
        | some b =>
          simp only [h, Option.map] at q
          exact eqFt_rc I (eqG_ok I A 8) t1 r1 t2 r2 h (by omega) ⟨.bl _, H, I, rfl, PostO.bl (G := cgd X) A q⟩
      | _ => exact q.elim
    | ref i =>
      cases e with
      | ref j =>
        simp only [Rep] at r1 r2
        obtain ⟨a, ei, rfl⟩ := r1
        obtain ⟨c, ej, rfl⟩ := r2
        cases (show v = Value.ref a from rx)
        cases (show u = Value.ref c from ry)
        by_cases hij : i = j
        · simp only [if_pos hij] at q; exact q.elim
        · simp only [if_neg hij] at q
          cases h : eqFr (eqG M 8) M i j with
          | none => simp only [h] at q; exact q.elim
          | some b =>
            simp only [h, Option.map] at q
            exact eqFr_rc I A (eqG_ok I A 8) (by omega) ei ej h (by omega) ⟨.bl _, H, I, rfl, PostO.bl (G := cgd X) A q⟩
      | _ => exact q.elim
    | _ => exact q.elim
end
end Sh

namespace Sh
open PySem L2
/-! ### a statement that does not look into a locked list: what it holds is hidden meanwhile -/
def sHide (i : Nat) (f : SF) : SF := fun env M => match M[i]? with
  | some (.fz l) => match f env (M.set i .dead) with
    | .ok fl M' => .ok fl (M'.set i (.fz l))
    | _ => .bad
  | _ => .bad
section
variable {K : PySem.W.Frag} {P : Program} {w : World} {ι ι' : List Addr} {H H' : Hp} {M M' : Store}
theorem Abs.hide (A : Abs K ι H P w M) (i : Nat) : Abs K ι H P w (M.set i .dead) where
  len := by rw [List.length_set]; exact A.len
  nd := A.nd
  obj := fun n a o h1 h2 => by
    by_cases e : i = n
    · subst e
      have hl : i < M.length := by rw [← A.len]; exact (List.getElem?_eq_some_iff.mp h1).1
      rw [List.getElem?_set_self hl] at h2
      cases h2
      exact ⟨A.tracked (List.mem_of_getElem? h1), A.nt a (List.mem_of_getElem? h1)⟩
    · rw [List.getElem?_set_ne e] at h2
      exact A.obj n a o h1 h2
theorem Abs.unhide (A : Abs K ι H P w M) {i : Nat} {l : List D} (e : M[i]? = some (.fz l)) (s : Step ι H ι' H') (A' : Abs K ι' H' P w M') : Abs K ι' H' P w (M'.set i (.fz l)) where
  len := by rw [List.length_set]; exact A'.len
  nd := A'.nd
  obj := fun n a o h1 h2 => by
    by_cases en : i = n
    · subst en
      have hl : i < M'.length := by rw [← A'.len]; exact (List.getElem?_eq_some_iff.mp h1).1
      rw [List.getElem?_set_self hl] at h2
      cases h2
      obtain ⟨b, eb, vs, o, h3, h4⟩ := A.have e
      have := s.ix eb
      rw [h1] at this
      cases this
      exact ⟨vs, o, s.frz _ _ _ h3, h4.ext (s.ext A.nt)⟩
    · rw [List.getElem?_set_ne en] at h2
      exact A'.obj n a o h1 h2
end
section
variable {X : Cx} {W : WX}
theorem hide_imp {G : Gd} {f : SF} {i : Nat} {C : Ends} {σ : St} {H : Hp} (h : tS G W (sHide i f) C σ H) : tS G W f C σ H := by
  obtain ⟨ι, M, env, A, E, h⟩ := h
  unfold sHide at h
  cases e : M[i]? with
  | none => rw [e] at h; exact h.elim
  | some o =>
    rw [e] at h
    cases o with
    | fz l =>
      simp only at h
      refine ⟨ι, M.set i .dead, env, A.hide i, E, ?_⟩
      cases ef : f env (M.set i .dead) with
      | ok fl M' =>
        rw [ef] at h
        cases fl with
        | nx env' => exact fun ι' H' σ' s a r => h ι' H' σ' s (A.unhide e s a) r
        | rt d => exact fun ι' H' v s a r => h ι' H' v s (A.unhide e s a) r
        | bk env' => exact fun ι' H' σ' s a r => h ι' H' σ' s (A.unhide e s a) r
        | ct env' => exact fun ι' H' σ' s a r => h ι' H' σ' s (A.unhide e s a) r
        | xc c fs env' => exact fun ι' H' σ' cls d s a r q => h ι' H' σ' cls d s (A.unhide e s a) r q
      | exc c fs M' => rw [ef] at h; exact h.elim
      | bad => rw [ef] at h; exact h.elim
    | _ => exact h.elim
theorem ss_hide {st : Stmt} {f : SF} (i : Nat) (h : SS X W st f) : SS X W st (sHide i f) := h.imp fun C σ H q => hide_imp q
theorem sss_hide {st : List Stmt} {f : SF} (i : Nat) (h : SSs X W st f) : SSs X W st (sHide i f) := h.imp fun C σ H q => hide_imp q
theorem room_w {k : Nat} {A : Around} (r : Room k A) : A.units + 80 < cLine := by have := r.un; omega
end
end Sh

namespace Sh
open PySem L2
/-! ### dicts that were locked by a walk over them are free again behind the statement -/
def unlM : Store → Store → Store
  | .dct _ :: M, .dlk kvs :: M' => .dct kvs :: unlM M M'
  | _ :: M, o :: M' => o :: unlM M M'
  | [], M' => M'
  | _, [] => []
def unlO : Option DO → Option DO → Option DO
  | some (.dct _), some (.dlk kvs) => some (.dct kvs)
  | _, o => o
theorem unlM_get : ∀ (M M' : Store) (n : Nat), (unlM M M')[n]? = unlO M[n]? M'[n]?
  | [], M', n => by cases M' <;> simp [unlM, unlO]
  | o :: M, [], n => by
    have : unlM (o :: M) [] = [] := by cases o <;> rfl
    rw [this]
    simp only [List.getElem?_nil]
    cases (o :: M)[n]? with
    | none => rfl
    | some x => cases x <;> rfl
  | o :: M, o' :: M', n => by
    have ih := unlM_get M M'
    by_cases h : ∃ k k', o = .dct k ∧ o' = .dlk k'
    · obtain ⟨k, k', rfl, rfl⟩ := h
      cases n with
      | zero => rfl
      | succ n => simp only [unlM, List.getElem?_cons_succ]; exact ih n
    · have e : unlM (o :: M) (o' :: M') = o' :: unlM M M' := by
        cases o <;> cases o' <;> first | rfl | exact absurd ⟨_, _, rfl, rfl⟩ h
      rw [e]
      cases n with
      | zero =>
        simp only [List.getElem?_cons_zero]
        cases o <;> cases o' <;> first | rfl | exact absurd ⟨_, _, rfl, rfl⟩ h
      | succ n => simp only [List.getElem?_cons_succ]; exact ih n
theorem unlM_len : ∀ (M M' : Store), (unlM M M').length = M'.length
  | [], M' => by cases M' <;> simp [unlM]
  | o :: M, [] => by cases o <;> rfl
  | o :: M, o' :: M' => by
    have ih := unlM_len M M'
    cases o <;> cases o' <;> simp [unlM, ih]
def flU (M : Store) (r : Res Fl) : Res Fl := match r with
  | .ok (.xc c fs env) M' => .ok (.xc c fs env) M'
  | .ok fl M' => .ok fl (unlM M M')
  | r => r
def sFree (f : SF) : SF := fun env M => flU M (f env M)
def eFree (f : EF) : EF := fun env M => match f env M with
  | .ok d M' => .ok d (unlM M M')
  | r => r
/-- the heap with what stands in S unlocked -/
noncomputable def unl (S : Addr → Prop) (H : Hp) : Hp := fun b => open Classical in if S b then (match H b with
  | some (.frz _ u) => some u
  | x => x) else H b
theorem unl_out {S : Addr → Prop} {H : Hp} {b : Addr} (h : ¬ S b) : unl S H b = H b := by unfold unl; rw [if_neg h]
theorem unl_nf {S : Addr → Prop} {H : Hp} {b : Addr} (h : ∀ o u, H b ≠ some (.frz o u)) : unl S H b = H b := by
  unfold unl
  split
  · cases e : H b with
    | none => rfl
    | some x => cases x <;> first | rfl | exact absurd e (h _ _)
  · rfl
theorem unl_frz {S : Addr → Prop} {H : Hp} {b : Addr} {o : Obj} {u : HO} (h : S b) (e : H b = some (.frz o u)) : unl S H b = some u := by unfold unl; rw [if_pos h, e]
theorem unl_none {S : Addr → Prop} {H : Hp} {b : Addr} : unl S H b = none ↔ H b = none := by
  unfold unl
  split
  · cases e : H b with
    | none => simp
    | some x => cases x <;> simp
  · exact Iff.rfl
theorem unl_tup {S : Addr → Prop} {H : Hp} {b : Addr} {xs : List V} (h : H b = some (.tup xs)) : unl S H b = some (.tup xs) := by rw [unl_nf (by intro o u e; rw [h] at e; cases e), h]
theorem objOk_unl {P : Program} {w : World} {S : Addr → Prop} {H : Hp} {h : Heap} {a : Addr} : ∀ {o : HO}, ObjOk P w H h a o → ObjOk P w (unl S H) h a o
  | .lst _, x => x
  | .tup _, x => x
  | .dK _, x => x
  | .dT _, x => by
    obtain ⟨h1, h2, xs, h3, h4⟩ := x
    exact ⟨h1, h2, xs, Paired.mapP h3 fun _ _ z => ⟨z.1, unl_tup z.2.1, z.2.2⟩, h4⟩
  | .set _ _, x => x
  | .ins _ _ _, x => by
    obtain ⟨h1, h2⟩ := x
    exact ⟨by rw [unl_nf (by intro o u e; rw [h1] at e; cases e), h1], h2⟩
  | .own _, x => x
  | .xd _, x => x
  | .rng _ _, x => x
  | .frz _ u, x => ⟨x.1, objOk_unl x.2⟩
  | .tbl _, x => x
  | .met _ _, x => x
  | .ext _, x => x
theorem HOk.unl {P : Program} {w : World} {S : Addr → Prop} {H : Hp} {h : Heap} (x : HOk P w H h) : HOk P w (Sh.unl S H) h := fun a o e => by
  by_cases hs : S a
  · cases q : H a with
    | none => rw [unl_none.mpr q] at e; cases e
    | some v =>
      by_cases hf : ∃ o' u, v = .frz o' u
      · obtain ⟨o', u, rfl⟩ := hf
        rw [unl_frz hs q] at e
        cases e
        exact objOk_unl (x a _ q).2
      · rw [unl_nf (by intro o' u z; rw [q] at z; cases z; exact hf ⟨_, _, rfl⟩), q] at e
        cases e
        exact objOk_unl (x a _ q)
  · rw [unl_out hs] at e
    exact objOk_unl (x a o e)
section
variable {X : Cx} {W : WX} {pins : List (Addr × Obj)} {σ : St} {H : Hp} {s : Shared} {S : Addr → Prop}
theorem Inv.unl (I : Inv X pins σ H s) (hS : ∀ b, S b → ∀ o u, X.H_0 b ≠ some (.frz o u)) : Inv X pins σ (Sh.unl S H) s where
  ok := I.ok
  os := I.os
  bare := I.bare
  base := {
    keep := I.base.keep
    slot := I.base.slot
    free := fun b o e n hx => unl_none.mpr (I.base.free b o e n hx)
    there := I.base.there
    tups := fun b xs e => unl_tup (I.base.tups b xs e)
    frzs := fun b o u e => by
      have : ¬ S b := fun z => hS b z o u e
      rw [unl_out this]
      exact I.base.frzs b o u e
    tbls := fun b ps e => by
      obtain ⟨m, q⟩ := I.base.tbls b ps e
      exact ⟨m, by rw [unl_nf (by intro o u z; rw [q] at z; cases z), q]⟩ }
  loc := I.loc
  cell := I.cell
  free := unl_none.mpr I.free
  freeC := fun x c e => unl_none.mpr (I.freeC x c e)
  pin := fun p m => ⟨(I.pin p m).1, unl_none.mpr (I.pin p m).2.1, (I.pin p m).2.2⟩
  hok := Sh.HOk.unl I.hok
  len := I.len
end
section
variable {K : PySem.W.Frag} {P : Program} {w : World} {ι ι' : List Addr} {H H' : Hp} {M M' : Store} {S : Addr → Prop}
mutual
theorem Rep.tr (hx : ∀ (n : Nat) (a : Addr), ι[n]? = some a → ι'[n]? = some a) (ht : ∀ a vs, SqT K H a vs → SqT K H' a vs) : ∀ {d : D} {v : V}, Rep K ι H d v → Rep K ι' H' d v
  | .non, _, h => by simpa only [Rep] using h
  | .bl _, _, h => by simpa only [Rep] using h
  | .int _, _, h => by simpa only [Rep] using h
  | .str _, _, h => by simpa only [Rep] using h
  | .ty _, _, h => by simpa only [Rep] using h
  | .ref n, _, h => by
    simp only [Rep] at h ⊢
    obtain ⟨a, e, rfl⟩ := h
    exact ⟨a, hx n a e, rfl⟩
  | .tup l, _, h => by
    simp only [Rep] at h ⊢
    obtain ⟨a, vs, rfl, h1, h2⟩ := h
    exact ⟨a, vs, rfl, ht a vs h1, Reps.tr hx ht h2⟩
theorem Reps.tr (hx : ∀ (n : Nat) (a : Addr), ι[n]? = some a → ι'[n]? = some a) (ht : ∀ a vs, SqT K H a vs → SqT K H' a vs) : ∀ {l : List D} {vs : List V}, Reps K ι H l vs → Reps K ι' H' l vs
  | [], _, h => by simpa only [Reps] using h
  | d :: l, _, h => by
    simp only [Reps] at h ⊢
    obtain ⟨v, r, rfl, h1, h2⟩ := h
    exact ⟨v, r, rfl, Rep.tr hx ht h1, Reps.tr hx ht h2⟩
end
/-- what is to be unlocked: dicts that were free in M -/
def Free (ι : List Addr) (M M' : Store) (a : Addr) : Prop := ∃ (n : Nat) (k kvs : List (D × D)), ι[n]? = some a ∧ M[n]? = some (DO.dct k) ∧ M'[n]? = some (DO.dlk kvs)
theorem sqT_unl (nt : NT ι' H') (hS : ∀ a, S a → a ∈ ι') (a : Addr) (vs : List V) (h : SqT K H' a vs) : SqT K (unl S H') a vs := by
  rcases h with h | h
  · have na : ¬ S a := fun z => nt a (hS a z) vs h
    refine .inl ?_
    rcases h with h | ⟨o, h⟩
    · exact .inl (by rw [unl_out na]; exact h)
    · exact .inr ⟨o, by rw [unl_out na]; exact h⟩
  · exact .inr h
theorem Step.free (A : Abs K ι H P w M) (s : Step ι H ι' H') : Step ι H ι' (unl (Free ι M M') H') where
  pre := s.pre
  frame := fun a o h n => by
    rw [unl_out (fun ⟨k, _, _, e, _⟩ => n (List.mem_of_getElem? e))]
    exact s.frame a o h n
  fresh := s.fresh
  frz := fun a o u h => by
    have : ¬ Free ι M M' a := fun ⟨k, _, _, e, e2, _⟩ => by
      obtain ⟨o', q, _⟩ := A.obj k a _ e e2
      rw [h] at q
      cases q
    rw [unl_out this]
    exact s.frz a o u h
theorem Abs.free (A : Abs K ι H P w M) (s : Step ι H ι' H') (A' : Abs K ι' H' P w M') : Abs K ι' (unl (Free ι M M') H') P w (unlM M M') := by
  have mem : ∀ a, Free ι M M' a → a ∈ ι' := fun a ⟨_, _, _, e, _⟩ => List.mem_of_getElem? (s.ix e)
  have tr : ∀ {d v}, Rep K ι' H' d v → Rep K ι' (unl (Free ι M M') H') d v := fun h => Rep.tr (fun _ _ e => e) (sqT_unl A'.nt mem) h
  have trs : ∀ {d v}, Reps K ι' H' d v → Reps K ι' (unl (Free ι M M') H') d v := fun h => Reps.tr (fun _ _ e => e) (sqT_unl A'.nt mem) h
  have trd : ∀ {a kvs o}, DctAt K ι' H' P w a kvs o → DctAt K ι' (unl (Free ι M M') H') P w a kvs o := fun h =>
    let ⟨h1, h2, h3, es, ep, xs, h4, h5, h6, h7⟩ := h
    ⟨h1, h2, h3, es, ep, xs, h4, h5, h6, Paired.mapP h7 fun _ _ z => ⟨z.1, tr z.2.1, let ⟨v, r, z⟩ := z.2.2; ⟨v, r, tr z⟩⟩⟩
  refine ⟨by rw [unlM_len]; exact A'.len, A'.nd, fun n a o h1 h2 => ?_⟩
  rw [unlM_get] at h2
  have key : (∃ k kvs, M[n]? = some (.dct k) ∧ M'[n]? = some (.dlk kvs) ∧ o = .dct kvs) ∨ (M'[n]? = some o ∧ ¬ (∃ k kvs, M[n]? = some (.dct k) ∧ o = .dlk kvs)) := by
    cases e1 : M[n]? with
    | none => rw [e1] at h2; exact .inr ⟨h2, fun ⟨_, _, z, _⟩ => by cases z⟩
    | some x =>
      rw [e1] at h2
      cases x with
      | dct k =>
        cases e2 : M'[n]? with
        | none => rw [e2] at h2; cases h2
        | some y =>
          rw [e2] at h2
          cases y with
          | dlk kvs => cases h2; exact .inl ⟨k, kvs, rfl, rfl, rfl⟩
          | _ => cases h2; exact .inr ⟨rfl, fun ⟨_, _, _, z⟩ => by cases z⟩
      | _ => exact .inr ⟨h2, fun ⟨_, _, z, _⟩ => by cases z⟩
  rcases key with ⟨k, kvs, e1, e2, rfl⟩ | ⟨e2, hn⟩
  · obtain ⟨ob, q1, q2⟩ := A'.obj n a _ h1 e2
    obtain ⟨b, eb, _⟩ := A.have e1
    have := s.ix eb
    rw [h1] at this
    cases this
    exact ⟨ob, unl_frz ⟨n, k, kvs, eb, e1, e2⟩ q1, trd q2⟩
  · have na : ¬ Free ι M M' a := by
      rintro ⟨m, k, kvs, em, e3, e4⟩
      have hm := ix_inj A'.nd (s.ix em) h1
      subst hm
      rw [e2] at e4
      cases e4
      exact hn ⟨k, kvs, e3, rfl⟩
    have ea : unl (Free ι M M') H' a = H' a := unl_out na
    have R := A'.obj n a o h1 e2
    cases o with
    | lst l => obtain ⟨vs, g1, g2⟩ := R; exact ⟨vs, by rw [ea]; exact g1, trs g2⟩
    | fz l => obtain ⟨vs, ob, g1, g2⟩ := R; exact ⟨vs, ob, by rw [ea]; exact g1, trs g2⟩
    | dct kvs => obtain ⟨ob, g1, g2⟩ := R; exact ⟨ob, by rw [ea]; exact g1, trd g2⟩
    | dlk kvs => obtain ⟨ob, g1, g2⟩ := R; exact ⟨ob, by rw [ea]; exact g1, trd g2⟩
    | ins c fs => obtain ⟨dx, vs, g1, g2⟩ := R; exact ⟨dx, vs, by rw [ea]; exact g1, Paired.mapP g2 fun _ _ z => ⟨z.1, tr z.2⟩⟩
    | set l => obtain ⟨SS, g1, g2⟩ := R; exact ⟨SS, by rw [ea]; exact g1, g2⟩
    | dead =>
      obtain ⟨g1, g2⟩ := R
      refine ⟨by rw [ea]; exact g1, fun xs r => g2 xs ?_⟩
      rcases r with r | ⟨o, r⟩
      · exact .inl (by rw [ea] at r; exact r)
      · exact .inr ⟨o, by rw [ea] at r; exact r⟩
    | exn c fs =>
      obtain ⟨oe, h1', h2', h3', h4'⟩ := R
      refine ⟨oe, by rw [ea]; exact h1', h2', h3', ?_⟩
      rcases h4' with h4' | ⟨x, ox, vs, g1, g2, g3⟩
      · exact .inl h4'
      · refine .inr ⟨x, ox, vs, g1, ?_, Paired.mapP g3 fun _ _ z => ⟨z.1, tr z.2⟩⟩
        rw [unl_out]
        · exact g2
        · rintro ⟨m, k, kvs, em, e3, e4⟩
          obtain ⟨o', q, _⟩ := A'.obj m x _ (s.ix em) e4
          rw [g2] at q
          cases q
    | sdc fs => obtain ⟨vs, g1, g2⟩ := R; exact ⟨vs, by rw [ea]; exact g1, Paired.mapP g2 fun _ _ z => ⟨z.1, tr z.2⟩⟩
theorem EnvR.free {env : Env} {σ : St} (s : Step ι H ι' H') (A' : Abs K ι' H' P w M') (h : EnvR K ι' H' env σ) : EnvR K ι' (unl (Free ι M M') H') env σ :=
  ⟨h.1, fun i d e => let ⟨v, e2, r⟩ := h.2 i d e; ⟨v, e2, Rep.tr (fun _ _ e => e) (sqT_unl A'.nt fun a ⟨_, _, _, e, _⟩ => List.mem_of_getElem? (s.ix e)) r⟩⟩
theorem Rep.free {d : D} {v : V} (s : Step ι H ι' H') (A' : Abs K ι' H' P w M') (h : Rep K ι' H' d v) : Rep K ι' (unl (Free ι M M') H') d v :=
  Rep.tr (fun _ _ e => e) (sqT_unl A'.nt fun a ⟨_, _, _, e, _⟩ => List.mem_of_getElem? (s.ix e)) h
end
section
variable {X : Cx} {W : WX}
theorem free_h0 {pins : List (Addr × Obj)} {σ : St} {H : Hp} {s : Shared} {ι : List Addr} {M M' : Store} (I : Inv X pins σ H s) (A : Abs X.K ι H X.prog X.w M) : ∀ b, Free ι M M' b → ∀ o u, X.H_0 b ≠ some (.frz o u) := fun b ⟨n, k, kvs, e, e2, _⟩ o u z => by
  obtain ⟨o', q, _⟩ := A.obj n b _ e e2
  rw [I.base.frzs b o u z] at q
  cases q
theorem ss_free {st : Stmt} {f : SF} (h : SS X W st f) : SS X W st (sFree f) := ⟨fun pins s σ H C I q => by
  obtain ⟨ι, M, env, A, E, q⟩ := q
  unfold sFree at q
  cases ef : f env M with
  | ok fl M' =>
    rw [ef] at q
    have h0 := free_h0 (M' := M') I A
    refine wpAny_mono (h.run pins s σ H ⟨fun σ' H' => C.nx σ' (unl (Free ι M M') H'), fun v H' => C.rt v (unl (Free ι M M') H'), fun σ' H' => C.bk σ' (unl (Free ι M M') H'), fun σ' H' => C.ct σ' (unl (Free ι M M') H')⟩ I ⟨ι, M, env, A, E, ?_⟩) (fun fl' s' z => ?_) fun _ _ x => x
    · rw [ef]
      cases fl with
      | nx env' => exact fun ι' H' σ' st a r => q ι' _ σ' (st.free A) (A.free st a) (r.free st a)
      | rt d => exact fun ι' H' v st a r => q ι' _ v (st.free A) (A.free st a) (Rep.free st a r)
      | bk env' => exact fun ι' H' σ' st a r => q ι' _ σ' (st.free A) (A.free st a) (r.free st a)
      | ct env' => exact fun ι' H' σ' st a r => q ι' _ σ' (st.free A) (A.free st a) (r.free st a)
      | xc c fs env' => exact q
    · cases fl' with
      | next => obtain ⟨σ', H', I', z⟩ := z; exact ⟨σ', _, Inv.unl I' h0, z⟩
      | brk => obtain ⟨σ', H', I', z⟩ := z; exact ⟨σ', _, Inv.unl I' h0, z⟩
      | cont => obtain ⟨σ', H', I', z⟩ := z; exact ⟨σ', _, Inv.unl I' h0, z⟩
      | ret u => obtain ⟨v, σ', H', I', rv, z⟩ := z; exact ⟨v, σ', _, Inv.unl I' h0, rv, z⟩
  | exc c fs M' => rw [ef] at q; exact q.elim
  | bad => rw [ef] at q; exact q.elim⟩
theorem se_free {e : Expr} {f : EF} (h : SE X W e f) : SE X W e (eFree f) := ⟨fun pins s σ H Q I q => by
  obtain ⟨ι, M, env, A, E, q⟩ := q
  unfold eFree at q
  cases ef : f env M with
  | ok d M' =>
    rw [ef] at q
    have h0 := free_h0 (M' := M') I A
    refine wpAny_mono (h.run pins s σ H (fun v H' => Q v (unl (Free ι M M') H')) I ⟨ι, M, env, A, E, ?_⟩) (fun u s' z => ?_) fun _ _ x => x
    · rw [ef]
      exact fun ι' H' v st a r => q ι' _ v (st.free A) (A.free st a) (Rep.free st a r)
    · obtain ⟨v, H', I', rv, z⟩ := z
      exact ⟨v, _, Inv.unl I' h0, rv, z⟩
  | exc c fs M' => exact h.run pins s σ H Q I ⟨ι, M, env, A, E, by rw [ef] at q ⊢; exact q⟩
  | bad => rw [ef] at q; exact q.elim⟩
end
end Sh

namespace Sh
open PySem L2
/-! ### behind a statement, new objects are forgotten, and all names but the first k -/
def blwE (n : Nat) : List (Option D) → Bool
  | [] => true
  | some d :: l => D.blw n d && blwE n l
  | none :: l => blwE n l
def sGc (k : Nat) (f : SF) : SF := fun env M => match f env M with
  | .ok (.nx env') M' => if M.isPrefixOf M' = true ∧ blwE M.length (env'.take k) = true then .ok (.nx (env'.take k ++ List.replicate (env'.length - k) none)) M else .bad
  | r => r
section
variable {K : PySem.W.Frag} {P : Program} {w : World} {ι ι' : List Addr} {H H' : Hp} {M M' : Store}
theorem blwE_get {n : Nat} : ∀ {l : List (Option D)} {i : Nat} {d : D}, blwE n l = true → l[i]? = some (some d) → D.blw n d = true
  | [], i, d, _, e => by simp at e
  | o :: l, 0, d, h, e => by
    simp at e
    subst e
    simp only [blwE, Bool.and_eq_true] at h
    exact h.1
  | o :: l, i + 1, d, h, e => by
    have h' : blwE n l = true := by
      cases o with
      | none => exact h
      | some x => simp only [blwE, Bool.and_eq_true] at h; exact h.2
    exact blwE_get (i := i) h' (by simpa using e)
theorem EnvR.gc {env : Env} {σ : St} {n k : Nat} (E : EnvR K ι H env σ) (b : blwE n (env.take k) = true) : EnvR K (ι.take n) H (env.take k ++ List.replicate (env.length - k) none) σ := by
  refine ⟨?_, fun i d e => ?_⟩
  · rw [← E.1]; simp; omega
  · by_cases hi : i < (env.take k).length
    · rw [List.getElem?_append_left hi] at e
      have hb := blwE_get b e
      rw [List.getElem?_take] at e
      split at e
      · obtain ⟨v, e2, r⟩ := E.2 i d e
        exact ⟨v, e2, Rep.take hb r⟩
      · cases e
    · rw [List.getElem?_append_right (by omega)] at e
      have := List.mem_of_getElem? e
      rw [List.mem_replicate] at this
      exact absurd this.2 (by simp)
theorem step_take {n : Nat} (hn : ι.length ≤ n) (s : Step ι H ι' H') : Step ι H (ι'.take n) H' where
  pre := by
    obtain ⟨m, rfl⟩ := s.pre
    exact ⟨m.take (n - ι.length), by rw [List.take_append, List.take_of_length_le hn]⟩
  frame := s.frame
  fresh := fun a h n' => s.fresh a (List.mem_of_mem_take h) n'
  frz := s.frz
end
theorem prefix_take {M M' : Store} (h : M.isPrefixOf M' = true) : M'.take M.length = M := by
  rw [List.isPrefixOf_iff_prefix] at h
  obtain ⟨t, rfl⟩ := h
  simp
section
variable {X : Cx} {W : WX}
theorem gc_imp {G : Gd} {f : SF} {k : Nat} {C : Ends} {σ : St} {H : Hp} (h : tS G W (sGc k f) C σ H) : tS G W f C σ H := by
  obtain ⟨ι, M, env, A, E, h⟩ := h
  refine ⟨ι, M, env, A, E, ?_⟩
  unfold sGc at h
  cases ef : f env M with
  | ok fl M' =>
    rw [ef] at h
    cases fl with
    | nx env' =>
      simp only at h
      split at h
      · rename_i hc
        intro ι' H' σ' s a r
        have e := prefix_take hc.1
        have hl : M.length = ι.length := A.len.symm
        have ab : Abs G.K (ι'.take M.length) H' G.P G.w M := by
          have := a.take (n := M.length) (by rw [e]; exact fun o m => A.allBelow o m)
          rwa [e] at this
        exact h _ H' σ' (step_take (by omega) s) ab (r.gc hc.2)
      · exact h.elim
    | _ => exact h
  | exc c fs M' => rw [ef] at h; exact h
  | bad => rw [ef] at h; exact h
theorem ss_gc {st : Stmt} {f : SF} (k : Nat) (h : SS X W st f) : SS X W st (sGc k f) := h.imp fun C σ H q => gc_imp q
theorem sss_gc {st : List Stmt} {f : SF} (k : Nat) (h : SSs X W st f) : SSs X W st (sGc k f) := h.imp fun C σ H q => gc_imp q
end
end Sh

namespace Sh
open PySem L2 PySem.Spec PyProof.Rows
/-! ### try with several clauses; a caught exception with a name stands among the tracked objects -/
section
variable {X : Cx} {pins : List (Addr × Obj)} {σ : L2.St} {H : Hp} {s : Shared}
/-- an object that is not tracked becomes tracked -/
theorem Inv.track (I : Inv X pins σ H s) {a : Addr} {oe : Obj} {vs : Array Value} (ha : s.heap.get? a = some oe) (hd : oe.data = .fields vs) (na : H a = none) (nL : a ≠ X.env.locals) (n0 : a ∉ X.ex → X.s_0.heap.get? a = none) (np : ∀ p ∈ X.pn ++ pins, p.1 ≠ a) :
    Inv X pins σ (upd H a (dctO a oe)) s where
  ok := I.ok
  os := I.os
  bare := I.bare
  base := {
    keep := I.base.keep
    slot := I.base.slot
    free := fun b o e n hx => by
      have : b ≠ a := fun z => by rw [z] at e hx; rw [n0 hx] at e; cases e
      rw [upd_ne this]
      exact I.base.free b o e n hx
    there := I.base.there
    tups := fun b xs e => by rw [upd_ne (ne_of_none (I.base.tups b xs e) na)]; exact I.base.tups b xs e
    frzs := fun b o u e => by rw [upd_ne (ne_of_none (I.base.frzs b o u e) na)]; exact I.base.frzs b o u e
    tbls := fun b ps e => by
      obtain ⟨m, q⟩ := I.base.tbls b ps e
      exact ⟨m, by rw [upd_ne (ne_of_none q na)]; exact q⟩ }
  loc := I.loc
  cell := I.cell
  free := by rw [upd_ne (Ne.symm nL)]; exact I.free
  freeC := fun x c e => by
    have : c ≠ a := fun z => by
      obtain ⟨v, o, h1, h2⟩ := I.cell x c e
      subst z
      rw [ha] at h1
      cases h1
      rw [hd] at h2
      cases h2
    rw [upd_ne this]
    exact I.freeC x c e
  pin := fun p m => ⟨(I.pin p m).1, by rw [upd_ne (np p m)]; exact (I.pin p m).2.1, (I.pin p m).2.2⟩
  hok := fun b o e => by
    by_cases hb : b = a
    · subst hb
      rw [upd_same] at e
      cases e
      exact ⟨ha, ⟨oe, ha⟩, fun h1 h2 q k => k _ q⟩
    · rw [upd_ne hb] at e
      refine (I.hok b o e).stay (fun _ _ _ q => q) (fun c q => ?_) fun c xs q => ?_
      · rw [upd_ne (ne_of_none q na)]; exact q
      · rw [upd_ne (ne_of_none q na)]; exact q
  len := I.len
theorem Inv.unsuite0 {a : Addr} {pn' : List (Addr × Obj)} (I : Inv (X.suite a (X.pn ++ pins)) pn' σ H s) (ok : X.Ok) : Inv X pins σ H s :=
  ⟨ok, I.os, I.bare, I.base, I.loc, I.cell, I.free, I.freeC, fun p hp => I.pin p (List.mem_append_left _ hp), I.hok, I.len⟩
theorem Inv.suite0 (I : Inv X pins σ H s) (a : Addr) : Inv (X.suite a (X.pn ++ pins)) [] σ H s :=
  ⟨I.ok.suite _ _, I.os, I.bare, I.base, I.loc, I.cell, I.free, I.freeC, fun p hp => I.pin p (by rw [List.append_nil] at hp; exact hp), I.hok, I.len⟩
end
/-- a clause: the class, the slot of its name, its suite -/
abbrev Cl := Value × Option Nat × TS
def endAs (D : Ends) (i : Nat) : Ends := { nx := fun σ' H' => D.nx (σ'.set i none) H', rt := D.rt, bk := fun σ' H' => D.bk (σ'.set i none) H', ct := fun σ' H' => D.ct (σ'.set i none) H' }
/-- what the clauses wish of an exception of the body, one after the other -/
def wTr (K : PySem.W.Frag) (Wout : WX) (D : Ends) : List Cl → WX
  | [] => Wout
  | (c, i, ts) :: r => fun cls d σ H => ∃ b, PySem.W.exmOne K cls c = some b ∧
      (b = true → match i with
        | none => ts D σ H
        | some i => ∀ a oe, H a = none → Zc cls d oe → (∃ vs, oe.data = .fields vs) → ts (endAs D i) (σ.set i (some (.ref a))) (upd H a (dctO a oe))) ∧
      (b = false → wTr K Wout D r cls d σ H)
inductive HdsTr (X : Cx) : List ExceptHandler → List Cl → Prop
  | nil : HdsTr X [] []
  | cons {x : Str} {c : Value} {ts : TS} {b₀ : Stmt} {suite : List Stmt} {np pos' : Pos} {hds : List ExceptHandler} {l : List Cl} (hc : Names X x c)
      (hsu : ∀ (a : Addr) (pn : List (Addr × Obj)), PSs (X.suite a pn) (b₀ :: suite) ts) (r : HdsTr X hds l) : HdsTr X (.ExceptHandler (some (.Name x np)) none (b₀ :: suite) pos' :: hds) ((c, none, ts) :: l)
  | consAs {x n : Str} {i : Nat} {c : Value} {ts : TS} {b₀ : Stmt} {suite : List Stmt} {np pos' : Pos} {hds : List ExceptHandler} {l : List Cl} (hN : X.N.Nodup) (hi : X.N[i]? = some n) (hln : X.env.kindOf n = some .local) (hc : Names X x c)
      (hsu : ∀ (a : Addr) (pn : List (Addr × Obj)), PSs (X.suite a pn) (b₀ :: suite) ts) (r : HdsTr X hds l) : HdsTr X (.ExceptHandler (some (.Name x np)) (some n) (b₀ :: suite) pos' :: hds) ((c, some i, ts) :: l)
section
variable {X : Cx} {body : List Stmt} {h₀ : ExceptHandler} {hds : List ExceptHandler} {l : List Cl} {pos : Pos} {tb : WX → TS} {Wout : WX}
theorem ps_try_tr (hs : X.stack = X.env :: X.outer) (hf : X.env.frame = some X.env.locals) (tk : Takes X Wout)
    (hb : ∀ (W : WX) (pn : List (Addr × Obj)) (xe : Value → Shared → Prop), Takes (X.tr pn xe) W → PassesOwn (model X.prog X.w) X.A X.env xe → PSs (X.tr pn xe) body (tb W))
    (hh : HdsTr X (h₀ :: hds) l) : PS X (.Try body (h₀ :: hds) [] [] pos) (fun D σ H => tb (wTr X.K Wout D l) D σ H) := by
  refine ⟨fun pins s σ H D I h => ?_⟩
  have ok := I.ok
  have hfr : X.A.frames = some (X.env :: X.outer) := by rw [ok.frames, hs]
  refine wpAny_Try_except ?_
  refine wpAny_mono ((hb (wTr X.K Wout D l) (X.pn ++ pins) (fun e s₁ => wpAny (model X.prog X.w) X.A (noteFrame e X.env) (fun _ s₂ => wpAny (model X.prog X.w) X.A (setFlight e none) (fun _ s₃ =>
    wpAny (model X.prog X.w) X.A (handleBy e X.env (h₀ :: hds)) (SP X pins D) X.xe s₃) X.xe s₂) X.xe s₁) (fun u s' xx => ?_) PassesOwn.looking).run [] s σ H D (I.toTry _) h) (fun f s1 hsp => ?_) (fun e s1 he => he)
  · -- the catch
    obtain ⟨a, B, sI, pins', σ', H', cls, d, rfl, J', nb, up, sky, na, os, ag, w⟩ := xx
    have J : Inv X pins σ' H' sI := J'.ofTry ok
    have sky' : Sky B (X.env :: X.outer) a (Zc cls d) X.env.locals s'.heap := by rw [← hs]; exact sky
    have ba : B.get? a = none := by
      rcases sky with z | z | z
      · exact z.2.1
      · exact z.2.1
      · exact z.2.1
    show wpAny (model X.prog X.w) X.A (noteFrame (.ref a) X.env) _ _ _
    refine Sky.land Zc.steady hfr hf sky' fun h3 fl3 up3 => ?_
    have J3 : Inv X pins σ' H' { s' with heap := h3 } := J.landed nb fl3.1 (up.trans up3) os ag
    obtain ⟨oe3, vs3, he3, hz3, hd3⟩ := fl3.there
    have notFr : ∀ {h : Heap} {o : Obj} {vs : Array Value}, h.FunFrames B (X.env :: X.outer) → h.get? a = some o → o.data = .fields vs → a ∉ frs (X.env :: X.outer) := fun {h o vs} ff e dd hm => by
      obtain ⟨_, o', e', hnf⟩ := ff.mem hm
      rw [e] at e'; cases e'
      exact hnf _ dd
    have nfr := notFr fl3.2.2.1 he3 hd3
    have nL : a ≠ X.env.locals := fun z => nfr (List.mem_filterMap.mpr ⟨X.env, List.mem_cons_self, by rw [hf, z]⟩)
    have nF : a ∉ X.fs := fun hm => by
      obtain ⟨e, he, q⟩ := List.mem_filterMap.mp hm
      exact nfr (List.mem_filterMap.mpr ⟨e, List.mem_cons_of_mem _ he, q⟩)
    have sIa : sI.heap.get? a = none := by
      cases e : sI.heap.get? a with
      | none => rfl
      | some o =>
        have := nb a o e (by rw [show (X.tr (X.pn ++ pins) _).stack = X.env :: X.outer from hs]; exact nfr)
        rw [ba] at this
        cases this
    have n0 : a ∉ X.ex → X.s_0.heap.get? a = none := fun hx => by
      cases e : X.s_0.heap.get? a with
      | none => rfl
      | some o =>
        obtain ⟨o', q⟩ := J.base.there a o e hx
        rw [sIa] at q
        cases q
    have np : ∀ p ∈ X.pn ++ pins, p.1 ≠ a := fun p m z => by
      have := (J.pin p m).1
      rw [z, sIa] at this
      cases this
    have S3 := J3.suite he3 hd3 na nL nF
    have go : ∀ {hds' : List ExceptHandler} {l' : List Cl}, HdsTr X hds' l' → wTr X.K Wout D l' cls d σ' H' →
        wpAny (model X.prog X.w) X.A (handleBy (.ref a) X.env hds') (SP X pins D) X.xe { s' with heap := h3 } := by
      intro hds' l' hk
      induction hk with
      | nil =>
        intro w
        refine wpAny_handleBy_nil ?_
        obtain ⟨k1, k2, k3, oe, vs, T, oT, ts', he, hz, hd, h1, hr⟩ := id fl3
        unfold PySem.passOn
        refine wpAny_bind (wpAny_field he hd h1 ?_)
        rw [if_neg (show ¬ ((Value.ref T == Value.none) = true) from by simp)]
        have fin : wpAny (model X.prog X.w) X.A (setFlight (.ref a) X.env.frame) (fun _ s4 => wpAny (model X.prog X.w) X.A (throw (.ref a) : Sem Flow) (SP X pins D) X.xe s4) X.xe { s' with heap := h3 } := by
          rw [hf]
          refine HandSPX.setFlight_upZ fl3 fun h4 hh4 up4 => wpAny_throw (tk _ _ ?_)
          exact ⟨a, B, sI, pins, σ', H', cls, d, rfl, J, nb, (up.trans up3).trans up4, .inr (.inr (by rw [hs]; exact hh4)), na, os, ag, w⟩
        first
          | exact wpAny_bind (wpAny_pure (wpAny_bind fin))
          | exact wpAny_bind fin
      | @cons x c ts b₀ suite np' pos' hds2 l2 hc hsu r ih =>
        intro w
        obtain ⟨b, hb1, hyes, hno⟩ := w
        refine wpAny_handleBy_cons (codeAny_handlers_test ?_) (by intro q; cases q)
        have LT : PySem.W.Looks (model X.prog X.w) h3 (typeOf (.ref a)) cls := fun A Q E s k q => wpAny_typeOf_ref (k _ _ he3) (by rw [hz3.1]; exact q)
        have LM := PySem.W.exm_one (M := model X.prog X.w) (J3.kIn) LT hb1
        have test : ∀ {Q : Value → Shared → Prop} {E : Value → Shared → Prop}, Q c { s' with heap := h3 } → wpAny (model X.prog X.w) (X.A.mark (some (.ref a))) (eval (.Name x np') X.env) Q E { s' with heap := h3 } := fun {Q E} q => by
          obtain ⟨hg, hdbg, hm | ⟨hm, hv, hnn⟩⟩ := hc
          · exact ld_glob (X := X.suite a ((a, oe3) :: (X.pn ++ pins))) S3 hg hm q hdbg
          · exact ld_blt (X := X.suite a ((a, oe3) :: (X.pn ++ pins))) S3 hg hm hv q hnn hdbg
        refine test (LM.here ?_)
        cases b with
        | true =>
          refine codeAny_handlers_suite ?_
          refine HandSPX.lands_againZ fl3 fun h4 fl4 up4 => ?_
          have J4 : Inv X pins σ' H' { s' with heap := h4 } := J.landed nb fl4.1 ((up.trans up3).trans up4) os ag
          obtain ⟨oe4, vs4, he4, hz4, hd4⟩ := fl4.there
          have S4 := J4.suite he4 hd4 na nL nF
          refine wpAny_mono ((hsu a ((a, oe4) :: (X.pn ++ pins))).run [] _ _ H' _ S4 (hyes rfl)) (fun f s6 hsp => ?_) (fun _ _ z => False.elim z)
          cases f with
          | next => obtain ⟨σ6, H6, S6, q6⟩ := hsp; exact ⟨_, _, S6.unsuite ok, q6⟩
          | brk => obtain ⟨σ6, H6, S6, q6⟩ := hsp; exact ⟨_, _, S6.unsuite ok, q6⟩
          | cont => obtain ⟨σ6, H6, S6, q6⟩ := hsp; exact ⟨_, _, S6.unsuite ok, q6⟩
          | ret u => obtain ⟨v6, σ6, H6, S6, r6, q6⟩ := hsp; exact ⟨_, _, _, S6.unsuite ok, r6, q6⟩
        | false =>
          show wpAny _ X.A (handleBy (.ref a) X.env hds2) _ _ _
          exact ih (hno rfl)
      | @consAs x n i c ts b₀ suite np' pos' hds2 l2 hN hi hln hc hsu r ih =>
        intro w
        obtain ⟨b, hb1, hyes, hno⟩ := w
        have hloc : Loc X.env.scope n := .inl hln
        refine wpAny_handleBy_cons (codeAny_handlers_test ?_) (by intro q; cases q)
        have LT : PySem.W.Looks (model X.prog X.w) h3 (typeOf (.ref a)) cls := fun A Q E s k q => wpAny_typeOf_ref (k _ _ he3) (by rw [hz3.1]; exact q)
        have LM := PySem.W.exm_one (M := model X.prog X.w) (J3.kIn) LT hb1
        have test : ∀ {Q : Value → Shared → Prop} {E : Value → Shared → Prop}, Q c { s' with heap := h3 } → wpAny (model X.prog X.w) (X.A.mark (some (.ref a))) (eval (.Name x np') X.env) Q E { s' with heap := h3 } := fun {Q E} q => by
          obtain ⟨hg, hdbg, hm | ⟨hm, hv, hnn⟩⟩ := hc
          · exact ld_glob (X := X.suite a ((a, oe3) :: (X.pn ++ pins))) S3 hg hm q hdbg
          · exact ld_blt (X := X.suite a ((a, oe3) :: (X.pn ++ pins))) S3 hg hm hv q hnn hdbg
        refine test (LM.here ?_)
        cases b with
        | true =>
          refine codeAny_handlers_suite_as ?_
          refine HandSPX.lands_againZ fl3 fun h4 fl4 up4 => ?_
          have J4 : Inv X pins σ' H' { s' with heap := h4 } := J.landed nb fl4.1 ((up.trans up3).trans up4) os ag
          obtain ⟨oe4, vs4, he4, hz4, hd4⟩ := fl4.there
          have J5 := Inv.track J4 he4 hd4 na nL n0 np
          have S4 := Inv.suite0 J5 a
          refine store_ok (X := X.suite a (X.pn ++ pins)) (v := .ref a) S4 hN hi hloc rfl (fun s5 S5 => ?_) (.inr hln)
          refine wpAny_mono ((hsu a (X.pn ++ pins)).run [] s5 _ _ _ S5 (hyes rfl a oe4 na hz4 ⟨_, hd4⟩)) (fun f s6 hsp => ?_) (fun _ _ z => False.elim z)
          have end_ : ∀ {σ6 : L2.St} {H6 : Hp} {Q : Shared → Prop}, Inv (X.suite a (X.pn ++ pins)) [] σ6 H6 s6 → (∀ s7, Inv X pins (σ6.set i none) H6 s7 → Q s7) →
              wpAny (model X.prog X.w) X.A (do bindName X.env n .none; unbindBehindTheSuite X.env n pos') (fun _ s7 => Q s7) X.xe s6 := fun {σ6 H6 Q} S6 hq => gone_ok (Inv.unsuite0 S6 ok) hN hi hln hq
          cases f with
          | next => obtain ⟨σ6, H6, S6, q6⟩ := hsp; exact end_ S6 fun s7 J7 => ⟨_, _, J7, q6⟩
          | brk => obtain ⟨σ6, H6, S6, q6⟩ := hsp; exact end_ S6 fun s7 J7 => ⟨_, _, J7, q6⟩
          | cont => obtain ⟨σ6, H6, S6, q6⟩ := hsp; exact end_ S6 fun s7 J7 => ⟨_, _, J7, q6⟩
          | ret u => obtain ⟨v6, σ6, H6, S6, r6, q6⟩ := hsp; exact end_ S6 fun s7 J7 => ⟨_, _, _, J7, r6, q6⟩
        | false =>
          show wpAny _ X.A (handleBy (.ref a) X.env hds2) _ _ _
          exact ih (hno rfl)
    exact go hh w
  · cases f with
    | next => obtain ⟨σ', H', J', q⟩ := hsp; exact wpAny_execs_nil ⟨σ', H', J'.ofTry ok, q⟩
    | brk => obtain ⟨σ', H', J', q⟩ := hsp; exact ⟨σ', H', J'.ofTry ok, q⟩
    | cont => obtain ⟨σ', H', J', q⟩ := hsp; exact ⟨σ', H', J'.ofTry ok, q⟩
    | ret u => obtain ⟨v, σ', H', J', r, q⟩ := hsp; exact ⟨v, σ', H', J'.ofTry ok, r, q⟩
end
end Sh

namespace Sh
open PySem L2
/-! ### raise, try -/
def sRaise (c : Nat) : SF := fun env M => .ok (.xc c [] env) M
abbrev CL := Nat × Option Nat × SF
/-- nothing may be raised in a suite -/
def noX : Res Fl → Res Fl
  | .ok (.xc _ _ _) _ => .bad
  | r => r
def unset (i : Nat) : Res Fl → Res Fl
  | .ok (.nx env) M => .ok (.nx (env.set i none)) M
  | .ok (.bk env) M => .ok (.bk (env.set i none)) M
  | .ok (.ct env) M => .ok (.ct (env.set i none)) M
  | .ok (.rt d) M => .ok (.rt d) M
  | _ => .bad
def catchGo (mt : Nat → Nat → Option Bool) (c : Nat) (fs : List (Str × D)) (env : Env) (M : Store) : List CL → Res Fl
  | [] => .ok (.xc c fs env) M
  | (k, i, f) :: r => match mt c k with
    | none => .bad
    | some false => catchGo mt c fs env M r
    | some true => match i with
      | none => noX (f env M)
      | some i => unset i (f (env.set i (some (.ref M.length))) (M ++ [.exn c fs]))
def sTry (mt : Nat → Nat → Option Bool) (body : SF) (hs : List CL) : SF := fun env M => match body env M with
  | .ok (.xc c fs env1) M1 => catchGo mt c fs env1 M1 hs
  | r => r
abbrev WN : WX := fun _ _ _ _ => False
def MtOk (K : PySem.W.Frag) (mt : Nat → Nat → Option Bool) : Prop := ∀ c k b, mt c k = some b → PySem.W.exmOne K (.ref (ca K c)) (.ref (ca K k)) = some b
/-- own exceptions: cs their numbers; 14 is above all -/
def mtX (cs : List Nat) (c k : Nat) : Option Bool := if (cs.contains c && cs.contains k) = true then some (c == k || k == 14) else none
def exmB (K : PySem.W.Frag) (cs : List Nat) : Bool := cs.all fun c => cs.all fun k => decide (PySem.W.exmOne K (.ref (ca K c)) (.ref (ca K k)) = some (c == k || k == 14))
theorem exmB_ok {K : PySem.W.Frag} {cs : List Nat} (h : exmB K cs = true) : MtOk K (mtX cs) := fun c k b e => by
  unfold mtX at e
  split at e
  · rename_i hc
    cases e
    simp only [Bool.and_eq_true, List.contains_iff_mem] at hc
    exact of_decide_eq_true (List.all_eq_true.mp (List.all_eq_true.mp h c hc.1) k hc.2)
  · cases e
inductive HdCls (X : Cx) : List ExceptHandler → List CL → List Cl → Prop
  | nil : HdCls X [] [] []
  | cons {x : Str} {k : Nat} {f : SF} {b₀ : Stmt} {suite : List Stmt} {np pos' : Pos} {hds : List ExceptHandler} {l : List CL} {l' : List Cl} (hc : Names X x (.ref (ca X.K k)))
      (hsu : ∀ (a : Addr) (pn : List (Addr × Obj)), SSs (X.suite a pn) WN (b₀ :: suite) f) (r : HdCls X hds l l') : HdCls X (.ExceptHandler (some (.Name x np)) none (b₀ :: suite) pos' :: hds) ((k, none, f) :: l) ((.ref (ca X.K k), none, tS (cgd X) WN f) :: l')
  | consAs {x n : Str} {i : Nat} {k : Nat} {f : SF} {b₀ : Stmt} {suite : List Stmt} {np pos' : Pos} {hds : List ExceptHandler} {l : List CL} {l' : List Cl} (hN : X.N.Nodup) (hi : X.N[i]? = some n) (hln : X.env.kindOf n = some .local) (hc : Names X x (.ref (ca X.K k)))
      (hsu : ∀ (a : Addr) (pn : List (Addr × Obj)), SSs (X.suite a pn) WN (b₀ :: suite) f) (r : HdCls X hds l l') : HdCls X (.ExceptHandler (some (.Name x np)) (some n) (b₀ :: suite) pos' :: hds) ((k, some i, f) :: l) ((.ref (ca X.K k), some i, tS (cgd X) WN f) :: l')
theorem HdCls.tr {X : Cx} {hds : List ExceptHandler} {l : List CL} {l' : List Cl} (h : HdCls X hds l l') : HdsTr X hds l' := by
  induction h with
  | nil => exact .nil
  | cons hc hsu r ih => exact .cons hc hsu ih
  | consAs hN hi hln hc hsu r ih => exact .consAs hN hi hln hc hsu ih
section
variable {G : Gd} {W : WX} {ι ι' : List Addr} {H H' : Hp} {M : Store} {env : Env} {σ : St} {C : Ends}
theorem EnvR.unset {K : PySem.W.Frag} {i : Nat} (E : EnvR K ι H env σ) : EnvR K ι H (env.set i none) (σ.set i none) := by
  refine ⟨by simp [E.1], fun j d e => ?_⟩
  by_cases hj : i = j
  · subst hj
    by_cases hl : i < env.length
    · rw [List.getElem?_set_self hl] at e; cases e
    · rw [List.getElem?_eq_none (by simp; omega)] at e; cases e
  · rw [List.getElem?_set_ne hj] at e ⊢
    exact E.2 j d e
theorem PostS.noX {r : Res Fl} (h : PostS G W ι H (noX r) C) : PostS G WN ι H r C := by
  cases r with
  | ok fl M' => cases fl with
    | xc c fs e => exact h.elim
    | _ => exact h
  | exc c fs M' => exact h
  | bad => exact h
theorem PostS.unset {r : Res Fl} {i : Nat} (h : PostS G W ι H (unset i r) C) : PostS G WN ι H r (endAs C i) := by
  cases r with
  | ok fl M' => cases fl with
    | nx e => exact fun ι' H' σ' s a r => h ι' H' (σ'.set i none) s a r.unset
    | bk e => exact fun ι' H' σ' s a r => h ι' H' (σ'.set i none) s a r.unset
    | ct e => exact fun ι' H' σ' s a r => h ι' H' (σ'.set i none) s a r.unset
    | rt d => exact h
    | xc c fs e => exact h.elim
  | exc c fs M' => exact h
  | bad => exact h
theorem abs_exn {c : Nat} {fs : List (Str × D)} {cls : Value} {d : Option Addr} {a : Addr} {oe : Obj} (A : Abs G.K ι H G.P G.w M) (x : XRep G.K ι H c fs cls d) (na : H a = none) (hz : Zc cls d oe) (hf : ∃ vs, oe.data = .fields vs) :
    Abs G.K (ι ++ [a]) (upd H a (dctO a oe)) G.P G.w (M ++ [.exn c fs]) := by
  refine A.new na ⟨oe, upd_same, by rw [hz.1]; exact x.1, hf, ?_⟩
  rcases x.2 with ⟨h1, h2⟩ | ⟨y, oy, vs, h1, h2, h3⟩
  · exact .inl ⟨h1, by rw [hz.2]; exact h2⟩
  · exact .inr ⟨y, oy, vs, by rw [hz.2]; exact h1, by rw [upd_ne (ne_of_none h2 na)]; exact h2, h3.ext (ext_new na _)⟩
theorem catch_ok {X : Cx} {mt : Nat → Nat → Option Bool} (hm : MtOk X.K mt) {c : Nat} {fs : List (Str × D)} {cls : Value} {d : Option Addr} : ∀ {hds : List ExceptHandler} {l : List CL} {l' : List Cl}, HdCls X hds l l' →
    PostS (cgd X) W ι H (catchGo mt c fs env M l) C → Step ι H ι' H' → Abs X.K ι' H' X.prog X.w M → EnvR X.K ι' H' env σ → XRep X.K ι' H' c fs cls d → wTr X.K W C l' cls d σ H' := by
  intro hds l l' hk
  induction hk with
  | nil => exact fun h s A E x => h ι' H' σ cls d s A E x
  | @cons x k f b₀ suite np pos' hds l l' hc hsu r ih =>
    intro h s A E x
    simp only [catchGo] at h
    cases e : mt c k with
    | none => rw [e] at h; exact h.elim
    | some b =>
      rw [e] at h
      refine ⟨b, by rw [x.1]; exact hm c k b e, fun hb => ?_, fun hb => ?_⟩
      · subst hb
        exact ⟨ι', M, env, A, E, (PostS.step s h).noX⟩
      · subst hb
        exact ih h s A E x
  | @consAs x n i k f b₀ suite np pos' hds l l' hN hi hln hc hsu r ih =>
    intro h s A E x
    simp only [catchGo] at h
    cases e : mt c k with
    | none => rw [e] at h; exact h.elim
    | some b =>
      rw [e] at h
      refine ⟨b, by rw [x.1]; exact hm c k b e, fun hb => ?_, fun hb => ?_⟩
      · subst hb
        intro a oe na hz hf
        have A1 := abs_exn (G := cgd X) A x na hz hf
        refine ⟨ι' ++ [a], _, _, A1, EnvR.set (E.ext (ext_new na _)) (d := .ref M.length) ?_, (PostS.step (s.trans (step_new na)) h).unset⟩
        simp only [Rep]
        exact ⟨a, by rw [← A.len]; simp, rfl⟩
      · subst hb
        exact ih h s A E x
end
section
variable {X : Cx} {W : WX}
theorem ss_try {body : List Stmt} {h₀ : ExceptHandler} {hds : List ExceptHandler} {fb : SF} {l : List CL} {l' : List Cl} {mt : Nat → Nat → Option Bool} {pos : Pos} (hs : X.stack = X.env :: X.outer) (hf : X.env.frame = some X.env.locals) (tk : Takes X W) (hm : MtOk X.K mt)
    (hb : ∀ (W' : WX) (pn : List (Addr × Obj)) (xe : Value → Shared → Prop), Takes (X.tr pn xe) W' → PassesOwn (model X.prog X.w) X.A X.env xe → SSs (X.tr pn xe) W' body fb)
    (hh : HdCls X (h₀ :: hds) l l') : SS X W (.Try body (h₀ :: hds) [] [] pos) (sTry mt fb l) :=
  (ps_try_tr (tb := fun W' => tS (cgd X) W' fb) hs hf tk hb hh.tr).imp fun C σ H h => by
    obtain ⟨ι, M, env, A, E, h⟩ := h
    refine ⟨ι, M, env, A, E, ?_⟩
    unfold sTry at h
    cases ef : fb env M with
    | ok fl M' =>
      rw [ef] at h
      cases fl with
      | xc c fs e => exact fun ι' H' σ' cls d s a r x => catch_ok hm hh h s a r x
      | _ => exact h
    | exc c fs M' => rw [ef] at h; exact h
    | bad => rw [ef] at h; exact h
theorem ss_raise {x m : Str} {j : Nat} {p p2 p3 pos : Pos} (c : Nat) (F : (He.Fa.exc x).ok X.K = true) (gm : X.mg x = some (.ref (He.ga X.K x))) (tk : Takes X W) (hc : X.calm = true := by rfl) (hcn : cnm c = x := by rfl) (hg : Gl X x := by rfl) (hdb : (x == ("__debug__" : Str)) = false := by decide) :
    SS X W (.Raise (some (.Call (.Name x p) [.Constant (.str m) j p2] [] p3)) none pos) (sRaise c) := by
  obtain ⟨f1, f2, f3, f4⟩ := He.exc_ok F
  refine (ps_raise hc tk (pmk_own (C := He.ga X.K x) PySem.F.excBase_ValueError f1 gm f2 (raises_own f3 f4) hg hdb)).imp fun C σ H h => ?_
  obtain ⟨ι, M, env, A, E, h⟩ := h
  exact h ι H σ _ none Step.refl A E ⟨by subst hcn; rfl, .inl ⟨rfl, rfl⟩⟩
/-! err.f -/
def eXf (f : Str) (a : EF) : EF := fun σ M => (a σ M).bind fun x M1 => match x with
  | .ref n => match M1[n]? with
    | some (.exn _ fs) => match fs.lookup f with
      | some d => .ok d M1
      | none => .bad
    | _ => .bad
  | _ => .bad
/-- what an own exception's class must have -/
def xfA (K : PySem.W.Frag) (cs : List Nat) (f : Str) : Bool := cs.all fun c => xfB K (ca K c) && decide (PySem.W.findIn K (.ref (ca K c)) f = some none)
end
end Sh

namespace Sh
open PySem L2
/-! ### comprehensions with any number of clauses (the walk follows HandS.Comp) -/
/-- a list's or a dict's comprehension: its clauses, what it does inmost -/
inductive IsC : Expr → List Comprehension → (Value → PySem.Env → Sem Unit) → Prop
  | lst {elt : Expr} {gens : List Comprehension} {scope : Scope} {pos : Pos} : IsC (.ListComp elt gens scope pos) gens (fun acc env => do let _ ← call (.builtin "list.append") [acc, ← eval elt env])
  | dct {kx vx : Expr} {gens : List Comprehension} {scope : Scope} {pos : Pos} : IsC (.DictComp kx vx gens scope pos) gens (fun acc env => do
      let kv ← eval kx env
      let vv ← holding [kv] (eval vx env)
      match acc with
      | .ref d => do
        standAt { kx.pos with endLine := vx.pos.endLine, endCol := vx.pos.endCol }
        holding [kv, vv] (dictSet d kv vv)
      | _ => unsupported "internal:dictcomp")
section
variable {prog : Program} {w : World} {A : Around} {R : Result → Shared → Prop} {s : Shared} {e : Expr} {gens : List Comprehension} {emit : Value → PySem.Env → Sem Unit} {it acc : Value} {env : PySem.Env} {k : Nat} {t i t1 i1 : Expr} {ifs ifs1 : List Expr}
theorem turn_last (h : IsC e gens emit) (hk : gens[k]? = some ⟨t, i, ifs, 0⟩) (hn : gens[k + 1]? = none) : compTurn e k it acc env = (do
      standAt i.pos
      match ← pyNext it with
      | none => pure (.done .next)
      | some v =>
        letOwnedTupleGo t it v
        assign t env v
        let mut ok := true
        for c in ifs do
          if ok then ok ← isTrue c env (eval c env)
        if ok then
          emit acc env
        again (.compLoop e k it acc env)) := by
  cases h <;> (unfold compTurn; dsimp only; rw [hk, hn]; rfl)
theorem turn_mid (h : IsC e gens emit) (hk : gens[k]? = some ⟨t, i, ifs, 0⟩) (hn : gens[k + 1]? = some ⟨t1, i1, ifs1, 0⟩) : compTurn e k it acc env = (do
      standAt i.pos
      match ← pyNext it with
      | none => pure (.done .next)
      | some v =>
        letOwnedTupleGo t it v
        assign t env v
        let mut ok := true
        for c in ifs do
          if ok then ok ← isTrue c env (eval c env)
        if ok then
          let x ← eval i1 env
          standAt i1.pos
          let x ← foldedSetIterable i1 env x
          let _ ← runOwn (.compStart e (k + 1) (← holding [x] (pyIter x)) acc env) env
        again (.compLoop e k it acc env)) := by
  cases h <;> (unfold compTurn; dsimp only; rw [hk, hn]; rfl)
/-- what stands ahead of the k-th clause; behind the last: the emitting -/
def Ahead (prog : Program) (w : World) (A : Around) (env : PySem.Env) (e : Expr) (gens : List Comprehension) (emit : Value → PySem.Env → Sem Unit) (acc : Value) (k : Nat) (P : Shared → Prop) (s : Shared) : Prop := match gens[k]? with
  | none => wpAny (model prog w) A (emit acc env) (fun _ s' => P s') (fun _ _ => False) s
  | some g => g.is_async = 0 ∧ (∀ x, foldedSetIterable g.iter env x = pure x) ∧ wpAny (model prog w) A (eval g.iter env) (fun x s₄ => wpAny (model prog w) A (pyIter x) (fun it s₅ =>
      codeAny (model prog w) A (.compStart e k it acc env) (fun r s' => match r with
        | .ok _ => P s'
        | .error _ => False) s₅) (fun _ _ => False) s₄) (fun _ _ => False) s
theorem loopG (h : IsC e gens emit) (hk : gens[k]? = some ⟨t, i, ifs, 0⟩) (hy : ∀ g, gens[k + 1]? = some g → g.is_async = 0) (I : Nat → Shared → Prop)
    (turn : ∀ n s, I n s → wpAny (model prog w) A (pyNext it) (fun r s₁ => match r with
      | none => R (.ok .next) s₁
      | some v => wpAny (model prog w) A (letOwnedTupleGo t it v) (fun _ s₁' => wpAny (model prog w) A (assign t env v) (fun _ s₂ =>
          wpAny (model prog w) A (forIn ifs true fun c r => if r = true then do let ok ← isTrue c env (eval c env); pure (ForInStep.yield ok) else pure (ForInStep.yield r)) (fun ok s₃ =>
            if ok = true then Ahead prog w A env e gens emit acc (k + 1) (fun s' => ∃ m, m < n ∧ I m s') s₃
            else ∃ m, m < n ∧ I m s₃) (fun _ _ => False) s₂) (fun _ _ => False) s₁') (fun _ _ => False) s₁) (fun _ _ => False) s)
    (n : Nat) (h0 : I n s) : codeAny (model prog w) A (.compLoop e k it acc env) R s := by
  refine codeAny_loop rfl I (fun n s hI => ?_) n h0
  have hu : A.under (.compLoop e k it acc env) = A := by cases h <;> rfl
  have hd : (model prog w).den (.compLoop e k it acc env) = ((compTurn e k it acc env).onRaise (fun x => do noteFrame x env; theTreesLotGoes x)) := by cases h <;> rfl
  rw [hu, hd]
  refine wpAny_noted ?_
  cases hn : gens[k + 1]? with
  | none =>
    rw [turn_last h hk hn]
    refine wpAny_bind (wpAny_standAt (wpAny_bind (wpAny_mono (turn n s hI) (fun r s₁ h₁ => ?_) fun _ _ h' => h'.elim)))
    cases r with
    | none => exact wpAny_pure h₁
    | some v =>
      refine wpAny_bind (wpAny_mono h₁ (fun _ s₁' h₁' => ?_) fun _ _ h' => h'.elim)
      refine wpAny_bind (wpAny_mono h₁' (fun _ s₂ h₂ => wpAny_bind (wpAny_mono h₂ (fun ok s₃ h₃ => ?_) fun _ _ h' => h'.elim)) fun _ _ h' => h'.elim)
      cases ok with
      | false => exact wpAny_pure ⟨rfl, h₃⟩
      | true =>
        simp only [if_true, Ahead, hn] at h₃
        exact wpAny_bind (wpAny_mono h₃ (fun _ s₅ h₅ => wpAny_pure ⟨rfl, h₅⟩) fun _ _ h' => h'.elim)
  | some g1 =>
    obtain ⟨t1, i1, ifs1, as⟩ := g1
    have ha : as = 0 := hy _ hn
    · subst ha
      rw [turn_mid h hk hn]
      refine wpAny_bind (wpAny_standAt (wpAny_bind (wpAny_mono (turn n s hI) (fun r s₁ h₁ => ?_) fun _ _ h' => h'.elim)))
      cases r with
      | none => exact wpAny_pure h₁
      | some v =>
        refine wpAny_bind (wpAny_mono h₁ (fun _ s₁' h₁' => ?_) fun _ _ h' => h'.elim)
        refine wpAny_bind (wpAny_mono h₁' (fun _ s₂ h₂ => wpAny_bind (wpAny_mono h₂ (fun ok s₃ h₃ => ?_) fun _ _ h' => h'.elim)) fun _ _ h' => h'.elim)
        cases ok with
        | false => exact wpAny_pure ⟨rfl, h₃⟩
        | true =>
          simp only [if_true, Ahead, hn] at h₃
          obtain ⟨_, hs, h₃⟩ := h₃
          refine wpAny_bind (wpAny_mono h₃ (fun x s₄ h₄ => ?_) fun _ _ h' => h'.elim)
          refine wpAny_bind (wpAny_standAt (wpAny_bind (wpAny_of_eq (hs x) (wpAny_bind (wpAny_holding (wpAny_mono h₄ (fun it1 s₅ h₅ => ?_) fun _ _ h' => h'.elim))))))
          refine wpAny_bind (wpAny_runOwn ?_)
          rw [Around.mark_none]
          refine codeAny_mono h₅ fun r s' hr => ?_
          cases r with
          | ok f =>
            first
              | exact wpAny_pure ⟨rfl, hr⟩
              | exact wpAny_bind (wpAny_pure (wpAny_pure ⟨rfl, hr⟩))
          | error e => exact hr.elim
end
end Sh

namespace Sh
open PySem L2
section
variable {prog : Program} {w : World} {A : Around} {R : Result → Shared → Prop} {s : Shared} {e : Expr} {gens : List Comprehension} {emit : Value → PySem.Env → Sem Unit} {it acc : Value} {env : PySem.Env} {k : Nat} {t i t1 i1 : Expr} {ifs ifs1 : List Expr}
theorem startG (hE : IsC e gens emit) (hk : gens[k]? = some ⟨t, i, ifs, 0⟩) (h0 : codeAny (model prog w) A (.compLoop e k it acc env) R s)
    (h : wpAny (model prog w) A (pyIter it) (fun it' s' => codeAny (model prog w) A (.compLoop e k it' acc env) R s') (notedBy (model prog w) A env fun x s' => R (.error x) s') s) :
    codeAny (model prog w) A (.compStart e k it acc env) R s := by
  have hc : (clausesOf e)[k]? = some ⟨t, i, ifs, 0⟩ := by cases hE <;> exact hk
  refine codeAny_of_tree ?_
  have hu : A.under (.compStart e k it acc env) = A := by cases hE <;> rfl
  have hd : (model prog w).den (.compStart e k it acc env) = ((compStart e k it acc env).onRaise (fun x => do noteFrame x env; standAt theWindowsPlace)) := by cases hE <;> rfl
  rw [hu, hd]
  refine wpAny_notedAt ?_
  unfold compStart
  rw [hc]
  show wpAny _ _ (ask >>= _) _ _ s
  refine wpAny_bind (wpAny_askSetting (wpAny_ite ?_))
  split
  · first
      | exact wpAny_bind (wpAny_pure (wpAny_pure (And.intro rfl h0)))
      | exact wpAny_pure (And.intro rfl h0)
  · first
      | exact wpAny_bind (wpAny_rule (wpAny_bind (wpAny_standAt (wpAny_bind (wpAny_mono h (fun it' s' h' => wpAny_pure (And.intro rfl h')) fun _ _ x => x)))))
      | (refine wpAny_bind (wpAny_rule ?_); show wpAny _ _ (standAt i.pos >>= _) _ _ s; exact wpAny_bind (wpAny_standAt (wpAny_bind (wpAny_mono h (fun it' s' h' => wpAny_pure (And.intro rfl h')) fun _ _ x => x))))
end
abbrev TN := St → Hp → (Hp → Prop) → Prop
/-- a clause and what stands in it -/
def tLv (wi : TI) (g : TG) (tt : TT) (vs : List Nat) (tin : TN) : TN := fun σ H Nx => wi σ H fun J H1 => ∃ W : Nat → Nat → Hp → Prop, (∃ m, W 0 m H1) ∧ ∀ j k H, W j k H →
  (J.stop j H ∧ Nx H) ∨ (J.go j H ∧ ∃ Nx1 : Hp → Prop, (∀ H', Nx1 H' → ∃ k', k' < k ∧ W (j + 1) k' H') ∧ ∀ x H', J.yld j H x H' → g x (wipe σ vs) H' fun σ2 H2 => wipe σ2 vs = wipe σ vs ∧ tt σ2 H2 fun b H3 =>
    if b = true then tin σ2 H3 Nx1 else Nx1 H3)
def RunsIn (Y : Cx) (e : Expr) (gens : List Comprehension) (emit : Value → PySem.Env → Sem Unit) (acc : Value) (k : Nat) (vs : List Nat) (t : TN) : Prop :=
  ∀ (pins : List (Addr × Obj)) (s : Shared) (σ : St) (H : Hp) (Nx : Hp → Prop), Inv Y pins σ H s → t σ H Nx → Ahead Y.prog Y.w Y.A Y.env e gens emit acc k (fun s' => ∃ H', Inv Y pins (wipe σ vs) H' s' ∧ Nx H') s
section
variable {Y : Cx} {e : Expr} {gens : List Comprehension} {emit : Value → PySem.Env → Sem Unit} {acc : Value}
theorem runs_lv {k : Nat} {tg iter : Expr} {ifs : List Expr} {vs vs1 : List Nat} {wi : TI} {g : TG} {tt : TT} {tin : TN} (hx : Y.xe = fun _ _ => False) (hc : Y.calm = true) (hE : IsC e gens emit) (hk : gens[k]? = some ⟨tg, iter, ifs, 0⟩) (hy : ∀ g, gens[k + 1]? = some g → g.is_async = 0)
    (hi : PI Y tg iter wi) (hg : PG Y tg g) (ht : PTs Y ifs tt) (hin : RunsIn Y e gens emit acc (k + 1) vs1 tin) (hv : ∀ i ∈ vs1, i ∈ vs) (hs : ∀ x, foldedSetIterable iter Y.env x = pure x) : RunsIn Y e gens emit acc k vs (tLv wi g tt vs tin) := by
  intro pins s σ H Nx I h
  have run1 := hi.run pins s σ H _ I h
  rw [hx] at run1
  unfold Ahead
  rw [hk]
  refine ⟨rfl, hs, ?_⟩
  refine wpAny_mono run1 (fun xv s1 hx1 => wpAny_mono hx1 (fun itv s2 h2 => ?_) fun _ _ z => z) fun _ _ z => z
  obtain ⟨it1, fp1, tn1, J1, H11, e1, I11, T1, st11, f11, W1, ⟨m1, w1⟩, turn1⟩ := h2
  subst e1
  have stat1 : ∀ {H' : Hp}, (∀ b ∈ fp1, H' b = none) → ∀ b ∈ fp1, FpOk Y pins H' b := fun hn b hb => ⟨hn b hb, (f11 b hb).2⟩
  have loop1 : codeAny (model Y.prog Y.w) Y.A (.compLoop e k (.ref it1) acc Y.env) (fun r s' => match r with
      | .ok _ => ∃ H', Inv Y pins (wipe σ vs) H' s' ∧ Nx H'
      | .error _ => False) s2 := by
    refine loopG hE hk hy (fun n s' => ∃ j H', Inv Y pins (wipe σ vs) H' s' ∧ tn1 j s'.heap ∧ (∀ b ∈ fp1, H' b = none) ∧ W1 j n H') ?_ m1 ⟨0, H11, I11.weak (wipe_length _ _) (fun j v e => (wipe_some e).1), st11, fun b hb => (f11 b hb).1, w1⟩
    rintro n s12 ⟨j, H12, I12, st12, n12, w12⟩
    rcases turn1 j n H12 w12 with ⟨stop1, nx1⟩ | ⟨go1, Nx1, hNx1, step1⟩
    · refine wpAny_mono (T1.done Y rfl rfl rfl hc j _ s12 (wipe σ vs) H12 (fun _ _ => False) I12 (stat1 n12) st12 stop1) (fun r s13 ⟨hr, I13⟩ => ?_) fun _ _ z => z
      subst hr
      exact ⟨H12, I13, nx1⟩
    · refine wpAny_mono (T1.item Y rfl rfl rfl hc j _ s12 (wipe σ vs) H12 (fun _ _ => False) I12 (stat1 n12) st12 go1) (fun r s13 ⟨u1, hr, h13⟩ => ?_) fun _ _ z => z
      subst hr
      refine wpAny_mono h13 (fun _ s14 ⟨x1, H14, I14, r14, y14, st14, n14⟩ => ?_) fun _ _ z => z
      have I14' := I14.pinned (stat1 n14) (T1.obj _ _ st14)
      have rg := hg.run _ s14 (wipe σ vs) H14 x1 u1 _ I14' r14 (step1 x1 H14 y14)
      rw [hx] at rg
      refine wpAny_mono rg (fun _ s15 ⟨σ15, H15, I15, hw15, q15⟩ => ?_) fun _ _ z => z
      have rt := ht.run _ s15 σ15 H15 _ I15 q15
      rw [hx] at rt
      refine wpAny_mono rt (fun b1 s16 ⟨H16, I16, q16⟩ => ?_) fun _ _ z => z
      have fin1 : ∀ {σ9 : St} {s' : Shared} {H' : Hp}, Inv Y (pins ++ pinsAt fp1 s14.heap) σ9 H' s' → (wipe σ vs).length = σ9.length → (∀ (j : Nat) v, (wipe σ vs)[j]? = some (some v) → σ9[j]? = some (some v)) → Nx1 H' →
          ∃ m, m < n ∧ ∃ j H', Inv Y pins (wipe σ vs) H' s' ∧ tn1 j s'.heap ∧ (∀ b ∈ fp1, H' b = none) ∧ W1 j m H' := fun {σ9 s' H'} I' hl hk' nx => by
        obtain ⟨m', hm, w'⟩ := hNx1 H' nx
        have pin' : ∀ b ∈ fp1, ∀ o, s14.heap.get? b = some o → s'.heap.get? b = some o ∧ H' b = none := fun b hb o e =>
          let z := I'.pin (b, o) (List.mem_append_right _ (List.mem_append_right _ (mem_pinsAt hb e)))
          ⟨z.1, z.2.1⟩
        refine ⟨m', hm, j + 1, H', I'.unpinned.weak hl hk', T1.keep _ _ _ st14 fun b hb o e => (pin' b hb o e).1, fun b hb => ?_, w'⟩
        obtain ⟨o, e, _⟩ := T1.obj _ _ st14 b hb
        exact (pin' b hb o e).2
      have hl15 : (wipe σ vs).length = σ15.length := by rw [← hw15, wipe_length]
      cases b1 with
      | false =>
        simp only [Bool.false_eq_true, if_false] at q16 ⊢
        exact fin1 I16 hl15 (fun j v e => by rw [← hw15] at e; exact (wipe_some e).1) q16
      | true =>
        simp only [if_true] at q16 ⊢
        have ra := hin _ s16 σ15 H16 Nx1 I16 q16
        have mono : ∀ {P P' : Shared → Prop}, (∀ s, P s → P' s) → Ahead Y.prog Y.w Y.A Y.env e gens emit acc (k + 1) P s16 → Ahead Y.prog Y.w Y.A Y.env e gens emit acc (k + 1) P' s16 := fun {P P'} hp z => by
          unfold Ahead at z ⊢
          cases hq : gens[k + 1]? with
          | none => rw [hq] at z; exact wpAny_mono z (fun _ s' z => hp _ z) fun _ _ z => z
          | some g1 =>
            rw [hq] at z
            refine ⟨z.1, z.2.1, wpAny_mono z.2.2 (fun x s4 z => wpAny_mono z (fun it s5 z => codeAny_mono z fun r s' z => ?_) fun _ _ z => z) fun _ _ z => z⟩
            cases r with
            | ok f => exact hp _ z
            | error e => exact z
        refine mono (fun s' z => ?_) ra
        obtain ⟨H', I', nx⟩ := z
        refine fin1 I' (hl15.trans (wipe_length σ15 vs1).symm) (fun j v e => ?_) nx
        rw [← hw15] at e
        obtain ⟨e1, e2⟩ := wipe_some e
        rw [wipe_out fun z => e2 (hv j z)]
        exact e1
  exact startG hE hk loop1 (wpAny_mono (T1.self Y.A 0 _ _ _ st11 loop1) (fun _ _ z => z) fun _ _ z => z)
end
end Sh

namespace Sh
open PySem L2
abbrev emL (elt : Expr) : Value → PySem.Env → Sem Unit := fun acc env => do let _ ← call (.builtin "list.append") [acc, ← eval elt env]
abbrev emD (kx vx : Expr) : Value → PySem.Env → Sem Unit := fun acc env => do
      let kv ← eval kx env
      let vv ← holding [kv] (eval vx env)
      match acc with
      | .ref d => do
        standAt { kx.pos with endLine := vx.pos.endLine, endCol := vx.pos.endCol }
        holding [kv, vv] (dictSet d kv vv)
      | _ => unsupported "internal:dictcomp"
theorem ahead_mono {prog : Program} {w : World} {A : Around} {env : PySem.Env} {e : Expr} {gens : List Comprehension} {emit : Value → PySem.Env → Sem Unit} {acc : Value} {k : Nat} {s : Shared} {P P' : Shared → Prop} (hp : ∀ s, P s → P' s) (z : Ahead prog w A env e gens emit acc k P s) : Ahead prog w A env e gens emit acc k P' s := by
  unfold Ahead at z ⊢
  cases hq : gens[k]? with
  | none => rw [hq] at z; exact wpAny_mono z (fun _ s' z => hp _ z) fun _ _ z => z
  | some g1 =>
    rw [hq] at z
    refine ⟨z.1, z.2.1, wpAny_mono z.2.2 (fun x s4 z => wpAny_mono z (fun it s5 z => codeAny_mono z fun r s' z => ?_) fun _ _ z => z) fun _ _ z => z⟩
    cases r with
    | ok f => exact hp _ z
    | error e => exact z
/-- the first clause, over a new list | a new dict -/
def tLcN (wi : TI) (g : TG) (tt : TT) (tin : Addr → TN) (vs : List Nat) : TE := fun σ H Q => wi σ H fun J H1 => ∀ D, H1 D = none → ∃ W : Nat → Nat → Hp → Prop, (∃ m, W 0 m (upd H1 D (.lst []))) ∧ ∀ i m H, W i m H →
  (J.stop i H ∧ Q (.ref D) H) ∨ (J.go i H ∧ ∃ Nx : Hp → Prop, (∀ H', Nx H' → ∃ m', m' < m ∧ W (i + 1) m' H') ∧ ∀ x H', J.yld i H x H' → g x (wipe σ vs) H' fun σ2 H2 => wipe σ2 vs = wipe σ vs ∧ tt σ2 H2 fun b H3 =>
    if b = true then tin D σ2 H3 Nx else Nx H3)
def tDcM (wi : TI) (g : TG) (tt : TT) (tin : Addr → TN) (vs : List Nat) : TE := fun σ H Q => wi σ H fun J H1 => ∀ D, H1 D = none → (D == sysModules) = false → ∃ W : Nat → Nat → Hp → Prop, (∃ m, W 0 m (upd H1 D (dctO D emptyD))) ∧ ∀ i m H, W i m H →
  (J.stop i H ∧ Q (.ref D) H) ∨ (J.go i H ∧ ∃ Nx : Hp → Prop, (∀ H', Nx H' → ∃ m', m' < m ∧ W (i + 1) m' H') ∧ ∀ x H', J.yld i H x H' → g x (wipe σ vs) H' fun σ2 H2 => wipe σ2 vs = wipe σ vs ∧ tt σ2 H2 fun b H3 =>
    if b = true then tin D σ2 H3 Nx else Nx H3)
section
variable {X : Cx}

theorem lcN_core {pins : List (Addr × Obj)} {s : Shared} {σ : St} {H : Hp} {Q : VK} {elt : Expr} {tg iter : Expr} {ifs : List Expr} {gs : List Comprehension} {scope : Scope} {own : List (Str × Nat)} {vs1 : List Nat} {pos pos' : Pos} {wi : TI} {g : TG} {tt : TT} {tin : Addr → TN} {use : Option (Value → Sem Unit)} {Qf : Value → Shared → Prop}
    (hc : X.calm = true) (hN : X.N.Nodup) (I : Inv X pins σ H s) (hi : PI X tg iter wi) (ok : BlkOk X.N X.env.scope scope own) (hv : ∀ i ∈ vs1, i ∈ own.map (·.2)) (hy : ∀ g, gs[0]? = some g → g.is_async = 0)
    (hg : ∀ (s : Shared) (H : Hp) (C : Addr) (cl : List (Str × Addr)) (fp : List Addr), PG (X.blk s H scope (compEnvC scope cl C X.env) fp) tg g) (ht : ∀ (s : Shared) (H : Hp) (C : Addr) (cl : List (Str × Addr)) (fp : List Addr), PTs (X.blk s H scope (compEnvC scope cl C X.env) fp) ifs tt)
    (hin : ∀ (s : Shared) (H : Hp) (C : Addr) (cl : List (Str × Addr)) (fp : List Addr) (D : Addr), RunsIn (X.blk s H scope (compEnvC scope cl C X.env) fp) (.ListComp elt (⟨tg, iter, ifs, 0⟩ :: gs) scope pos) (⟨tg, iter, ifs, 0⟩ :: gs) (emL elt) (.ref D) 1 vs1 (tin D))
    (hs : ∀ x, foldedSetIterable iter X.env x = pure x)
    (h : tLcN wi g tt tin (own.map (·.2)) σ H Q)
    (hRR : ∀ D C s' m H', Inv X pins σ H' s' → Q (.ref D) H' → s'.heap.Ns C m → FpOk X pins H' C → compPost (model X.prog X.w) X.A X.xe use Qf (.ref D) C (.ok .next) s') :
    wpAny (model X.prog X.w) X.A (comprehension (.ListComp elt (⟨tg, iter, ifs, 0⟩ :: gs) scope pos) scope X.env pos' (newList []) false (eval iter X.env) use) Qf X.xe s := by
  have hE : IsC (.ListComp elt (⟨tg, iter, ifs, 0⟩ :: gs) scope pos) (⟨tg, iter, ifs, 0⟩ :: gs) (emL elt) := .lst
  have hfree : ∀ y ∈ scope.names, y.2 = .free → ∃ c, X.env.cells.lookup y.1 = some c := fun y hy e => by
    rcases ok.free y hy e with k | k
    · exact I.ok.has _ (.inl k)
    · exact I.ok.has _ (.inr k)
  refine wpAny_comprehension_free (use := use) rfl hs (closure_ok hfree) ok.kind (fun y hy e => by rw [ok.uniq y hy, e])
    (thn (hi.run pins s σ H _ I h) fun xv s1 hx => thn hx fun itv s2 h2 => ?_)
  obtain ⟨it, fp, tn, J, H2, e, I2, T, st2, f2, q⟩ := h2
  subst e
  refine wpAny_newObj_type (newEnv_comp ?_) (by show 0 ≤ sizeLine; decide)
  generalize hD : s2.heap.objs.size = D
  have hDn : H2 D = none := I2.hok.fresh (Nat.le_of_eq hD)
  have hbig : (D == sysModules) = false := by rw [← hD]; exact big_ne I2.big
  obtain ⟨W, ⟨m0, w0⟩, turn⟩ := q D hDn
  generalize hs3 : ({ s2 with heap := s2.heap.push { cls := .type "list", data := .seq ([] : List Value).toArray } } : Shared) = s3
  have I3 : Inv X pins σ (upd H2 D (.lst [])) s3 := by
    rw [← hs3]
    refine I2.laid (t' := s2.toks) (fun b o e => Heap.get?_push_of_some _ e) (Nat.le_of_eq hD) ⟨Nat.zero_le _, [], 0, .nil, ?_⟩
    rw [← hD]
    exact Heap.get?_push_size _ rfl
  have h3 : s3.heap = s2.heap.push { cls := .type "list", data := .seq ([] : List Value).toArray } := by rw [← hs3]
  have sz : ∀ b ∈ fp, b < s2.heap.objs.size := fun b hb => by
    obtain ⟨o, e, _⟩ := T.obj _ _ st2 b hb
    exact Heap.lt_size e
  have f3 : ∀ b ∈ fp, FpOk X pins (upd H2 D (.lst [])) b ∧ b < s3.heap.objs.size := fun b hb => by
    have hlt := sz b hb
    refine ⟨⟨?_, (f2 b hb).2⟩, by rw [h3, Heap.size_push]; exact Nat.lt_succ_of_lt hlt⟩
    rw [upd_ne (by rw [← hD]; exact Nat.ne_of_lt hlt)]
    exact (f2 b hb).1
  have st3 : tn 0 s3.heap := T.keep _ _ _ st2 fun b _ o e => by rw [h3]; exact Heap.get?_push_of_some _ e
  have I4 := block_start I3 ok hN f3
  have pg := hg s3 (upd H2 D (.lst [])) s3.heap.objs.size (cellsFrom (s3.heap.objs.size + 1) scope.names (cloFrom X.env.cells scope.names [])) fp
  have pt := ht s3 (upd H2 D (.lst [])) s3.heap.objs.size (cellsFrom (s3.heap.objs.size + 1) scope.names (cloFrom X.env.cells scope.names [])) fp
  have pin := hin s3 (upd H2 D (.lst [])) s3.heap.objs.size (cellsFrom (s3.heap.objs.size + 1) scope.names (cloFrom X.env.cells scope.names [])) fp D
  show codeAny _ _ (.compStart (.ListComp elt (⟨tg, iter, ifs, 0⟩ :: gs) scope pos) 0 (.ref it) (.ref D) (compEnvC scope (cellsFrom (s3.heap.objs.size + 1) scope.names (cloFrom X.env.cells scope.names [])) s3.heap.objs.size X.env)) (compPost (model X.prog X.w) X.A X.xe use Qf (.ref D) s3.heap.objs.size) { s3 with heap := pushCells (s3.heap.push { cls := .type "dict", data := .dict #[] }) scope.names }
  have nfp : ∀ b ∈ fp, (upd H2 D (.lst [])) b = none := fun b hb => (f3 b hb).1.1
  generalize hce : compEnvC scope (cellsFrom (s3.heap.objs.size + 1) scope.names (cloFrom X.env.cells scope.names [])) s3.heap.objs.size X.env = ce at I4 pg pt pin ⊢
  have cL : ce.locals = s3.heap.objs.size := by subst hce; rfl
  generalize hH3 : upd H2 D (.lst []) = H3 at I3 I4 pg pt pin w0 nfp f3
  generalize hs4 : ({ s3 with heap := pushCells (s3.heap.push { cls := .type "dict", data := .dict #[] }) scope.names } : Shared) = s4 at I4 ⊢
  have st4 : tn 0 s4.heap := T.keep _ _ _ st3 fun b _ o e => by rw [← hs4]; exact pushCells_keeps _ _ _ _ (Heap.get?_push_of_some _ e)
  have stat : ∀ {σ' : St} {H' : Hp} {s' : Shared}, Inv (X.blk s3 H3 scope ce fp) [] σ' H' s' → (∀ b ∈ fp, H' b = none) → ∀ b ∈ fp, FpOk (X.blk s3 H3 scope ce fp) [] H' b := fun {σ' H' s'} I' hn b hb =>
    ⟨hn b hb, (I'.ok.exf b hb).1, I'.ok.exfs b hb, .inl hb, fun x c e => (I'.ok.exf b hb).2 x c e, fun p hp => absurd (show p ∈ ([] : List (Addr × Obj)) ++ [] from hp) (by simp)⟩
  have loop : codeAny (model X.prog X.w) X.A (.compLoop (.ListComp elt (⟨tg, iter, ifs, 0⟩ :: gs) scope pos) 0 (.ref it) (.ref D) ce) (compPost (model X.prog X.w) X.A X.xe use Qf (.ref D) s3.heap.objs.size) s4 := by
    refine loopG hE (k := 0) rfl (fun g z => hy g z) (fun n s' => ∃ i H', Inv (X.blk s3 H3 scope ce fp) [] (wipe σ (own.map (·.2))) H' s' ∧ tn i s'.heap ∧ (∀ b ∈ fp, H' b = none) ∧ W i n H') ?_ m0 ⟨0, H3, I4, st4, nfp, w0⟩
    rintro n s5 ⟨i, H5, I5, st5, n5, w5⟩
    rcases turn i n H5 w5 with ⟨stop, qq⟩ | ⟨go, Nx, hNx, step⟩
    · have td := T.done (X.blk s3 H3 scope ce fp) rfl rfl rfl hc i [] s5 _ H5 (fun _ _ => False) I5 (stat I5 n5) st5 stop
      refine wpAny_mono td (fun r s6 ⟨hr, I6⟩ => ?_) fun _ _ z => z
      subst hr
      have I7 : Inv X pins σ H5 s6 := I3.call' (ch := fp) I6.os I6.base I6.hok I6.bare fun b hb => ⟨(f3 b hb).1.2.2.2.1, (f3 b hb).1.2.1, (f3 b hb).1.2.2.2.2.1, (f3 b hb).1.2.2.2.2.2⟩
      have nC : H5 s3.heap.objs.size = none := by
        have z : H5 ce.locals = none := I6.free
        rw [cL] at z
        exact z
      obtain ⟨m, hn, _⟩ := I6.loc
      have hn : s6.heap.Ns ce.locals m := hn
      rw [cL] at hn
      exact hRR D s3.heap.objs.size s6 m H5 I7 qq hn (I3.fpOk (Nat.le_refl _) nC)
    · have ti := T.item (X.blk s3 H3 scope ce fp) rfl rfl rfl hc i [] s5 _ H5 (fun _ _ => False) I5 (stat I5 n5) st5 go
      refine wpAny_mono ti (fun r s6 ⟨u, hr, h6⟩ => ?_) fun _ _ z => z
      subst hr
      refine wpAny_mono h6 (fun _ s7 ⟨x, H7, I7, r7, y7, st7, n7⟩ => ?_) fun _ _ z => z
      have I7' := I7.pinned (stat I7 n7) (T.obj _ _ st7)
      refine wpAny_mono (pg.run _ s7 _ H7 x u _ I7' r7 (step x H7 y7)) (fun _ s8 ⟨σ8, H8, I8, hw8, q8⟩ => ?_) fun _ _ z => z
      refine wpAny_mono (pt.run _ s8 σ8 H8 _ I8 q8) (fun b s9 ⟨H9, I9, q9⟩ => ?_) fun _ _ z => z
      have fin : ∀ {σ9 : St} {s' : Shared} {H' : Hp}, Inv (X.blk s3 H3 scope ce fp) ([] ++ pinsAt fp s7.heap) σ9 H' s' → (wipe σ (own.map (·.2))).length = σ9.length → (∀ (j : Nat) v, (wipe σ (own.map (·.2)))[j]? = some (some v) → σ9[j]? = some (some v)) → Nx H' →
          ∃ m, m < n ∧ ∃ i H', Inv (X.blk s3 H3 scope ce fp) [] (wipe σ (own.map (·.2))) H' s' ∧ tn i s'.heap ∧ (∀ b ∈ fp, H' b = none) ∧ W i m H' := fun {σ9 s' H'} I' hl hk nx => by
        obtain ⟨m', hm, w'⟩ := hNx H' nx
        have pin' : ∀ b ∈ fp, ∀ o, s7.heap.get? b = some o → s'.heap.get? b = some o ∧ H' b = none := fun b hb o e =>
          let z := I'.pin (b, o) (List.mem_append_right _ (List.mem_append_right _ (mem_pinsAt hb e)))
          ⟨z.1, z.2.1⟩
        refine ⟨m', hm, i + 1, H', (I'.unpinned (pins := [])).weak hl hk, T.keep _ _ _ st7 fun b hb o e => (pin' b hb o e).1, fun b hb => ?_, w'⟩
        obtain ⟨o, e, _⟩ := T.obj _ _ st7 b hb
        exact (pin' b hb o e).2
      have hl8 : (wipe σ (own.map (·.2))).length = σ8.length := by rw [← hw8, wipe_length]
      cases b with
      | false =>
        simp only [Bool.false_eq_true, if_false] at q9 ⊢
        exact fin I9 hl8 (fun j v e => by rw [← hw8] at e; exact (wipe_some e).1) q9
      | true =>
        simp only [if_true] at q9 ⊢
        refine ahead_mono (fun s' z => ?_) (pin _ s9 σ8 H9 Nx I9 q9)
        obtain ⟨H', I', nx⟩ := z
        refine fin I' (hl8.trans (wipe_length σ8 vs1).symm) (fun j v e => ?_) nx
        rw [← hw8] at e
        obtain ⟨e1, e2⟩ := wipe_some e
        rw [wipe_out fun z => e2 (hv j z)]
        exact e1
  exact startG hE (k := 0) rfl loop (T.self X.A 0 _ _ _ st4 loop)

theorem dcM_core {pins : List (Addr × Obj)} {s : Shared} {σ : St} {H : Hp} {Q : VK} {kx vx : Expr} {tg iter : Expr} {ifs : List Expr} {gs : List Comprehension} {scope : Scope} {own : List (Str × Nat)} {vs1 : List Nat} {pos pos' : Pos} {wi : TI} {g : TG} {tt : TT} {tin : Addr → TN} {use : Option (Value → Sem Unit)} {Qf : Value → Shared → Prop}
    (hc : X.calm = true) (hN : X.N.Nodup) (I : Inv X pins σ H s) (hi : PI X tg iter wi) (ok : BlkOk X.N X.env.scope scope own) (hv : ∀ i ∈ vs1, i ∈ own.map (·.2)) (hy : ∀ g, gs[0]? = some g → g.is_async = 0)
    (hg : ∀ (s : Shared) (H : Hp) (C : Addr) (cl : List (Str × Addr)) (fp : List Addr), PG (X.blk s H scope (compEnvC scope cl C X.env) fp) tg g) (ht : ∀ (s : Shared) (H : Hp) (C : Addr) (cl : List (Str × Addr)) (fp : List Addr), PTs (X.blk s H scope (compEnvC scope cl C X.env) fp) ifs tt)
    (hin : ∀ (s : Shared) (H : Hp) (C : Addr) (cl : List (Str × Addr)) (fp : List Addr) (D : Addr), RunsIn (X.blk s H scope (compEnvC scope cl C X.env) fp) (.DictComp kx vx (⟨tg, iter, ifs, 0⟩ :: gs) scope pos) (⟨tg, iter, ifs, 0⟩ :: gs) (emD kx vx) (.ref D) 1 vs1 (tin D))
    (hs : ∀ x, foldedSetIterable iter X.env x = pure x)
    (h : tDcM wi g tt tin (own.map (·.2)) σ H Q)
    (hRR : ∀ D C s' m H', Inv X pins σ H' s' → Q (.ref D) H' → s'.heap.Ns C m → FpOk X pins H' C → compPost (model X.prog X.w) X.A X.xe use Qf (.ref D) C (.ok .next) s') :
    wpAny (model X.prog X.w) X.A (comprehension (.DictComp kx vx (⟨tg, iter, ifs, 0⟩ :: gs) scope pos) scope X.env pos' newDict false (eval iter X.env) use) Qf X.xe s := by
  have hE : IsC (.DictComp kx vx (⟨tg, iter, ifs, 0⟩ :: gs) scope pos) (⟨tg, iter, ifs, 0⟩ :: gs) (emD kx vx) := .dct
  have hfree : ∀ y ∈ scope.names, y.2 = .free → ∃ c, X.env.cells.lookup y.1 = some c := fun y hy e => by
    rcases ok.free y hy e with k | k
    · exact I.ok.has _ (.inl k)
    · exact I.ok.has _ (.inr k)
  refine wpAny_comprehension_free (use := use) rfl hs (closure_ok hfree) ok.kind (fun y hy e => by rw [ok.uniq y hy, e])
    (thn (hi.run pins s σ H _ I h) fun xv s1 hx => thn hx fun itv s2 h2 => ?_)
  obtain ⟨it, fp, tn, J, H2, e, I2, T, st2, f2, q⟩ := h2
  subst e
  refine wpAny_newObj_type (newEnv_comp ?_)
  generalize hD : s2.heap.objs.size = D
  have hDn : H2 D = none := I2.hok.fresh (Nat.le_of_eq hD)
  have hbig : (D == sysModules) = false := by rw [← hD]; exact big_ne I2.big
  obtain ⟨W, ⟨m0, w0⟩, turn⟩ := q D hDn hbig
  generalize hs3 : ({ s2 with heap := s2.heap.push { cls := .type "dict", data := .dict #[] } } : Shared) = s3
  have I3 : Inv X pins σ (upd H2 D (dctO D emptyD)) s3 := by
    rw [← hs3]
    refine I2.laid (t' := s2.toks) (fun b o e => Heap.get?_push_of_some _ e) (Nat.le_of_eq hD) ?_
    rw [← hD]
    exact dctO_new (X := X) (Heap.get?_push_size _ rfl)
  have h3 : s3.heap = s2.heap.push { cls := .type "dict", data := .dict #[] } := by rw [← hs3]
  have sz : ∀ b ∈ fp, b < s2.heap.objs.size := fun b hb => by
    obtain ⟨o, e, _⟩ := T.obj _ _ st2 b hb
    exact Heap.lt_size e
  have f3 : ∀ b ∈ fp, FpOk X pins (upd H2 D (dctO D emptyD)) b ∧ b < s3.heap.objs.size := fun b hb => by
    have hlt := sz b hb
    refine ⟨⟨?_, (f2 b hb).2⟩, by rw [h3, Heap.size_push]; exact Nat.lt_succ_of_lt hlt⟩
    rw [upd_ne (by rw [← hD]; exact Nat.ne_of_lt hlt)]
    exact (f2 b hb).1
  have st3 : tn 0 s3.heap := T.keep _ _ _ st2 fun b _ o e => by rw [h3]; exact Heap.get?_push_of_some _ e
  have I4 := block_start I3 ok hN f3
  have pg := hg s3 (upd H2 D (dctO D emptyD)) s3.heap.objs.size (cellsFrom (s3.heap.objs.size + 1) scope.names (cloFrom X.env.cells scope.names [])) fp
  have pt := ht s3 (upd H2 D (dctO D emptyD)) s3.heap.objs.size (cellsFrom (s3.heap.objs.size + 1) scope.names (cloFrom X.env.cells scope.names [])) fp
  have pin := hin s3 (upd H2 D (dctO D emptyD)) s3.heap.objs.size (cellsFrom (s3.heap.objs.size + 1) scope.names (cloFrom X.env.cells scope.names [])) fp D
  show codeAny _ _ (.compStart (.DictComp kx vx (⟨tg, iter, ifs, 0⟩ :: gs) scope pos) 0 (.ref it) (.ref D) (compEnvC scope (cellsFrom (s3.heap.objs.size + 1) scope.names (cloFrom X.env.cells scope.names [])) s3.heap.objs.size X.env)) (compPost (model X.prog X.w) X.A X.xe use Qf (.ref D) s3.heap.objs.size) { s3 with heap := pushCells (s3.heap.push { cls := .type "dict", data := .dict #[] }) scope.names }
  have nfp : ∀ b ∈ fp, (upd H2 D (dctO D emptyD)) b = none := fun b hb => (f3 b hb).1.1
  generalize hce : compEnvC scope (cellsFrom (s3.heap.objs.size + 1) scope.names (cloFrom X.env.cells scope.names [])) s3.heap.objs.size X.env = ce at I4 pg pt pin ⊢
  have cL : ce.locals = s3.heap.objs.size := by subst hce; rfl
  generalize hH3 : upd H2 D (dctO D emptyD) = H3 at I3 I4 pg pt pin w0 nfp f3
  generalize hs4 : ({ s3 with heap := pushCells (s3.heap.push { cls := .type "dict", data := .dict #[] }) scope.names } : Shared) = s4 at I4 ⊢
  have st4 : tn 0 s4.heap := T.keep _ _ _ st3 fun b _ o e => by rw [← hs4]; exact pushCells_keeps _ _ _ _ (Heap.get?_push_of_some _ e)
  have stat : ∀ {σ' : St} {H' : Hp} {s' : Shared}, Inv (X.blk s3 H3 scope ce fp) [] σ' H' s' → (∀ b ∈ fp, H' b = none) → ∀ b ∈ fp, FpOk (X.blk s3 H3 scope ce fp) [] H' b := fun {σ' H' s'} I' hn b hb =>
    ⟨hn b hb, (I'.ok.exf b hb).1, I'.ok.exfs b hb, .inl hb, fun x c e => (I'.ok.exf b hb).2 x c e, fun p hp => absurd (show p ∈ ([] : List (Addr × Obj)) ++ [] from hp) (by simp)⟩
  have loop : codeAny (model X.prog X.w) X.A (.compLoop (.DictComp kx vx (⟨tg, iter, ifs, 0⟩ :: gs) scope pos) 0 (.ref it) (.ref D) ce) (compPost (model X.prog X.w) X.A X.xe use Qf (.ref D) s3.heap.objs.size) s4 := by
    refine loopG hE (k := 0) rfl (fun g z => hy g z) (fun n s' => ∃ i H', Inv (X.blk s3 H3 scope ce fp) [] (wipe σ (own.map (·.2))) H' s' ∧ tn i s'.heap ∧ (∀ b ∈ fp, H' b = none) ∧ W i n H') ?_ m0 ⟨0, H3, I4, st4, nfp, w0⟩
    rintro n s5 ⟨i, H5, I5, st5, n5, w5⟩
    rcases turn i n H5 w5 with ⟨stop, qq⟩ | ⟨go, Nx, hNx, step⟩
    · have td := T.done (X.blk s3 H3 scope ce fp) rfl rfl rfl hc i [] s5 _ H5 (fun _ _ => False) I5 (stat I5 n5) st5 stop
      refine wpAny_mono td (fun r s6 ⟨hr, I6⟩ => ?_) fun _ _ z => z
      subst hr
      have I7 : Inv X pins σ H5 s6 := I3.call' (ch := fp) I6.os I6.base I6.hok I6.bare fun b hb => ⟨(f3 b hb).1.2.2.2.1, (f3 b hb).1.2.1, (f3 b hb).1.2.2.2.2.1, (f3 b hb).1.2.2.2.2.2⟩
      have nC : H5 s3.heap.objs.size = none := by
        have z : H5 ce.locals = none := I6.free
        rw [cL] at z
        exact z
      obtain ⟨m, hn, _⟩ := I6.loc
      have hn : s6.heap.Ns ce.locals m := hn
      rw [cL] at hn
      exact hRR D s3.heap.objs.size s6 m H5 I7 qq hn (I3.fpOk (Nat.le_refl _) nC)
    · have ti := T.item (X.blk s3 H3 scope ce fp) rfl rfl rfl hc i [] s5 _ H5 (fun _ _ => False) I5 (stat I5 n5) st5 go
      refine wpAny_mono ti (fun r s6 ⟨u, hr, h6⟩ => ?_) fun _ _ z => z
      subst hr
      refine wpAny_mono h6 (fun _ s7 ⟨x, H7, I7, r7, y7, st7, n7⟩ => ?_) fun _ _ z => z
      have I7' := I7.pinned (stat I7 n7) (T.obj _ _ st7)
      refine wpAny_mono (pg.run _ s7 _ H7 x u _ I7' r7 (step x H7 y7)) (fun _ s8 ⟨σ8, H8, I8, hw8, q8⟩ => ?_) fun _ _ z => z
      refine wpAny_mono (pt.run _ s8 σ8 H8 _ I8 q8) (fun b s9 ⟨H9, I9, q9⟩ => ?_) fun _ _ z => z
      have fin : ∀ {σ9 : St} {s' : Shared} {H' : Hp}, Inv (X.blk s3 H3 scope ce fp) ([] ++ pinsAt fp s7.heap) σ9 H' s' → (wipe σ (own.map (·.2))).length = σ9.length → (∀ (j : Nat) v, (wipe σ (own.map (·.2)))[j]? = some (some v) → σ9[j]? = some (some v)) → Nx H' →
          ∃ m, m < n ∧ ∃ i H', Inv (X.blk s3 H3 scope ce fp) [] (wipe σ (own.map (·.2))) H' s' ∧ tn i s'.heap ∧ (∀ b ∈ fp, H' b = none) ∧ W i m H' := fun {σ9 s' H'} I' hl hk nx => by
        obtain ⟨m', hm, w'⟩ := hNx H' nx
        have pin' : ∀ b ∈ fp, ∀ o, s7.heap.get? b = some o → s'.heap.get? b = some o ∧ H' b = none := fun b hb o e =>
          let z := I'.pin (b, o) (List.mem_append_right _ (List.mem_append_right _ (mem_pinsAt hb e)))
          ⟨z.1, z.2.1⟩
        refine ⟨m', hm, i + 1, H', (I'.unpinned (pins := [])).weak hl hk, T.keep _ _ _ st7 fun b hb o e => (pin' b hb o e).1, fun b hb => ?_, w'⟩
        obtain ⟨o, e, _⟩ := T.obj _ _ st7 b hb
        exact (pin' b hb o e).2
      have hl8 : (wipe σ (own.map (·.2))).length = σ8.length := by rw [← hw8, wipe_length]
      cases b with
      | false =>
        simp only [Bool.false_eq_true, if_false] at q9 ⊢
        exact fin I9 hl8 (fun j v e => by rw [← hw8] at e; exact (wipe_some e).1) q9
      | true =>
        simp only [if_true] at q9 ⊢
        refine ahead_mono (fun s' z => ?_) (pin _ s9 σ8 H9 Nx I9 q9)
        obtain ⟨H', I', nx⟩ := z
        refine fin I' (hl8.trans (wipe_length σ8 vs1).symm) (fun j v e => ?_) nx
        rw [← hw8] at e
        obtain ⟨e1, e2⟩ := wipe_some e
        rw [wipe_out fun z => e2 (hv j z)]
        exact e1
  exact startG hE (k := 0) rfl loop (T.self X.A 0 _ _ _ st4 loop)
end
end Sh

namespace Sh
open PySem L2
/-! ### comprehensions with any number of clauses: the meaning -/
abbrev NFn (α : Type) := Env → α → Store → Res α
def nEmL (f : EF) : NFn (List D) := fun env acc M => match f env M with
  | .ok d M1 => if acc.length < 1000000 then .ok (acc ++ [d]) M1 else .bad
  | _ => .bad
def nEmD (fk fv : EF) : NFn (List (D × D)) := fun env acc M => match fk env M with
  | .ok y M1 => match fv env M1 with
    | .ok z M2 => if (nkey y).isSome = true ∧ acc.length < 1000000 then .ok (putKD acc y z) M2 else .bad
    | _ => .bad
  | _ => .bad
def nGo {α : Type} (guard : Store → Bool) (one : Bool) (is : List Nat) (c : TF) (inn : NFn α) (env : Env) : List D → α → Store → Res α
  | [], acc, M => if guard M = true then .ok acc M else .bad
  | x :: r, acc, M => if guard M = true then (match parts one is.length x with
    | none => .bad
    | some ds => match c (setD is ds env) M with
      | .ok true M1 => (match inn (setD is ds env) acc M1 with
        | .ok acc2 M2 => nGo guard one is c inn env r acc2 M2
        | _ => .bad)
      | .ok false M1 => nGo guard one is c inn env r acc M1
      | _ => .bad) else .bad
def nLv {α : Type} (fi : IF) (one : Bool) (is own : List Nat) (c : TF) (inn : NFn α) : NFn α := fun env acc M => match fi env M with
  | .ok s M1 => nGo s.guard one is c inn (wipeD env own) s.items acc M1
  | _ => .bad
def eLcN (fi : IF) (one : Bool) (is own : List Nat) (c : TF) (inn : NFn (List D)) : EF := fun env M => (fi env M).bind fun s M1 => match nGo s.guard one is c inn (wipeD env own) s.items [] M1 with
  | .ok acc M2 => .ok (.ref M2.length) (M2 ++ [.lst acc])
  | _ => .bad
def eDcN (fi : IF) (one : Bool) (is own : List Nat) (c : TF) (inn : NFn (List (D × D))) : EF := fun env M => (fi env M).bind fun s M1 => match nGo s.guard one is c inn (wipeD env own) s.items [] M1 with
  | .ok acc M2 => .ok (.ref M2.length) (M2 ++ [.dct acc])
  | _ => .bad
section
variable {G : Gd} {α : Type}
/-- what is made meanwhile, at D -/
structure AcOk (L : Addr) (Ac : List Addr → Hp → α → Prop) : Prop where
  step : ∀ {ι H ι' H' acc}, Step ι H ι' H' → NT ι H → L ∉ ι → Ac ι H acc → L ∉ ι' ∧ Ac ι' H' acc
def fin (Fin : α → Store → Prop) : Res α → Prop
  | .ok a M => Fin a M
  | _ => False
/-- the inner part's reading by its meaning -/
def InnOk (G : Gd) (L : Addr) (ι1 : List Addr) (H1 : Hp) (Ac : List Addr → Hp → α → Prop) (inn : NFn α) (tin : TN) : Prop := ∀ (ι : List Addr) (M : Store) (env : Env) (σ : St) (H : Hp) (acc : α) (Nx : Hp → Prop),
  Step ι1 H1 ι H → Abs G.K ι H G.P G.w M → EnvR G.K ι H env σ → L ∉ ι → Ac ι H acc → fin (fun acc2 M2 => ∀ ι2 H2, Step ι1 H1 ι2 H2 → Ext G.K ι H ι2 H2 → Abs G.K ι2 H2 G.P G.w M2 → L ∉ ι2 → Ac ι2 H2 acc2 → Nx H2) (inn env acc M) → tin σ H Nx
theorem loopN {L : Addr} {ι1 ιs ι0 : List Addr} {H1 Hs H0 : Hp} {Ac : List Addr → Hp → α → Prop} {inn : NFn α} {tin : TN} {J : It} {s : Src} {M0 : Store} {acc0 : α} {env : Env} {σ : St} {vs is : List Nat} {one : Bool} {c : TF} {t : TG} {Fin : α → Store → Prop} {Done : Hp → Prop}
    (ac : AcOk L Ac) (hin : InnOk G L ι1 H1 Ac inn tin) (sim : SimI G ιs Hs J s) (Es : EnvR G.K ιs Hs env (wipe σ vs)) (his : ∀ i ∈ is, i ∈ vs)
    (rd : ∀ {ι : List Addr} {H : Hp} {d : D} {ds : List D} {x : V} {σ : St} {Q : St → Hp → Prop}, parts one is.length d = some ds → Rep G.K ι H d x → (∀ vs, Reps G.K ι H ds vs → Q (setV is vs σ) H) → t x σ H Q)
    (s0 : Step ι1 H1 ι0 H0) (x0 : Ext G.K ιs Hs ι0 H0) (A0 : Abs G.K ι0 H0 G.P G.w M0) (hD0 : L ∉ ι0) (a0 : Ac ι0 H0 acc0) (h : fin Fin (nGo s.guard one is c inn env s.items acc0 M0))
    (hd : ∀ acc2 M2 ι2 H2, Fin acc2 M2 → Step ι1 H1 ι2 H2 → Ext G.K ιs Hs ι2 H2 → Abs G.K ι2 H2 G.P G.w M2 → L ∉ ι2 → Ac ι2 H2 acc2 → Done H2) :
    ∃ W : Nat → Nat → Hp → Prop, (∃ m, W 0 m H0) ∧ ∀ j k H, W j k H → (J.stop j H ∧ Done H) ∨ (J.go j H ∧ ∃ Nx1 : Hp → Prop, (∀ H', Nx1 H' → ∃ k', k' < k ∧ W (j + 1) k' H') ∧
      ∀ x H', J.yld j H x H' → t x (wipe σ vs) H' fun σ2 H2 => wipe σ2 vs = wipe σ vs ∧ tT G W0 c σ2 H2 fun b H3 => if b = true then tin σ2 H3 Nx1 else Nx1 H3) := by
  refine ⟨fun i m H => m = s.items.length - i ∧ i ≤ s.items.length ∧ ∃ ι M acc, Step ι1 H1 ι H ∧ Ext G.K ιs Hs ι H ∧ Abs G.K ι H G.P G.w M ∧ L ∉ ι ∧ Ac ι H acc ∧ fin Fin (nGo s.guard one is c inn env (s.items.drop i) acc M), ⟨_, rfl, Nat.zero_le _, ι0, M0, acc0, s0, x0, A0, hD0, a0, by simpa using h⟩, ?_⟩
  rintro i m H2 ⟨rfl, hile, ι2, M2, acc, s2, x2, A2, hD2, a2, h2⟩
  have E2 := Es.ext x2
  cases ei : s.items[i]? with
  | none =>
    have hl : s.items.length ≤ i := List.getElem?_eq_none_iff.mp ei
    rw [List.drop_eq_nil_of_le hl] at h2
    unfold nGo at h2
    by_cases hgd : s.guard M2 = true
    · rw [if_pos hgd] at h2
      exact .inl ⟨(sim i ι2 H2 M2 x2 A2 hgd).2 (Nat.le_antisymm hile hl), hd acc M2 ι2 H2 h2 s2 x2 A2 hD2 a2⟩
    · rw [if_neg hgd] at h2; exact h2.elim
  | some d =>
    obtain ⟨hl, ed⟩ := List.getElem?_eq_some_iff.mp ei
    rw [List.drop_eq_getElem_cons hl, ed] at h2
    unfold nGo at h2
    by_cases hgd : s.guard M2 = true
    · rw [if_pos hgd] at h2
      obtain ⟨go, yl⟩ := (sim i ι2 H2 M2 x2 A2 hgd).1 d ei
      have lt : s.items.length - (i + 1) < s.items.length - i := by omega
      refine .inr ⟨go, fun H' => s.items.length - (i + 1) < s.items.length - i ∧ i + 1 ≤ s.items.length ∧ ∃ ι M acc, Step ι1 H1 ι H' ∧ Ext G.K ιs Hs ι H' ∧ Abs G.K ι H' G.P G.w M ∧ L ∉ ι ∧ Ac ι H' acc ∧ fin Fin (nGo s.guard one is c inn env (s.items.drop (i + 1)) acc M), fun H' ⟨h1, h2, h3⟩ => ⟨_, h1, rfl, h2, h3⟩, fun x H3 hy => ?_⟩
      obtain ⟨s3, A3, r3⟩ := yl x H3 hy
      obtain ⟨hD3, a3⟩ := ac.step s3 A2.nt hD2 a2
      have x3 := s3.ext (K := G.K) A2.nt
      cases ep : parts one is.length d with
      | none => rw [ep] at h2; exact h2.elim
      | some ds =>
        rw [ep] at h2
        refine rd ep r3 fun vs' rv => ⟨?_, ?_⟩
        · rw [wipe_setV is vs' _ his, wipe_wipe]
        · have E3 := (E2.ext x3).setA (is := is) rv
          refine ⟨ι2, M2, _, A3, E3, ?_⟩
          cases ec : c (setD is ds env) M2 with
          | bad => simp only [ec] at h2; exact h2.elim
          | exc _ _ _ => simp only [ec] at h2; exact h2.elim
          | ok b M4 =>
            simp only [ec] at h2
            rintro ι4 H4 b' s4 A4 rfl
            obtain ⟨hD4, a4⟩ := ac.step s4 A3.nt hD3 a3
            have x4 := s4.ext (K := G.K) A3.nt
            cases b with
            | false =>
              simp only [Bool.false_eq_true, if_false]
              exact ⟨lt, hl, ι4, M4, acc, (s2.trans s3).trans s4, (x2.trans x3).trans x4, A4, hD4, a4, h2⟩
            | true =>
              simp only [if_true]
              refine hin ι4 M4 _ _ H4 acc _ ((s2.trans s3).trans s4) A4 (E3.ext x4) hD4 a4 ?_
              cases ef : inn (setD is ds env) acc M4 with
              | bad => simp only [ef] at h2; exact h2.elim
              | exc _ _ _ => simp only [ef] at h2; exact h2.elim
              | ok acc2 M5 =>
                simp only [ef] at h2
                exact fun ι5 H5 s5 x5 A5 hD5 a5 => ⟨lt, hl, ι5, M5, acc2, s5, ((x2.trans x3).trans x4).trans x5, A5, hD5, a5, h2⟩
    · rw [if_neg hgd] at h2; exact h2.elim
/-- a clause within -/
theorem lv_ok {L : Addr} {ι1 : List Addr} {H1 : Hp} {Ac : List Addr → Hp → α → Prop} {inn : NFn α} {tin : TN} {fi : IF} {vs is : List Nat} {one : Bool} {c : TF} {t : TG} (ac : AcOk L Ac) (hin : InnOk G L ι1 H1 Ac inn tin) (his : ∀ i ∈ is, i ∈ vs)
    (rd : ∀ {ι : List Addr} {H : Hp} {d : D} {ds : List D} {x : V} {σ : St} {Q : St → Hp → Prop}, parts one is.length d = some ds → Rep G.K ι H d x → (∀ vs, Reps G.K ι H ds vs → Q (setV is vs σ) H) → t x σ H Q) :
    InnOk G L ι1 H1 Ac (nLv fi one is vs c inn) (tLv (tI G W0 fi) t (tT G W0 c) vs tin) := by
  intro ι M env σ H acc Nx s A E hD a h
  unfold nLv at h
  refine ⟨ι, M, env, A, E, ?_⟩
  cases ei : fi env M with
  | bad => rw [ei] at h; exact h.elim
  | exc _ _ _ => rw [ei] at h; exact h.elim
  | ok src M1 =>
    rw [ei] at h
    intro ι2 H2 J s2 A2 sim
    obtain ⟨hD2, a2⟩ := ac.step s2 A.nt hD a
    have x2 := s2.ext (K := G.K) A.nt
    exact loopN (Fin := fun acc2 M2 => ∀ ι2 H2, Step ι1 H1 ι2 H2 → Ext G.K ι H ι2 H2 → Abs G.K ι2 H2 G.P G.w M2 → L ∉ ι2 → Ac ι2 H2 acc2 → Nx H2) ac hin sim ((E.ext x2).wipe vs) his rd (s.trans s2) Ext.refl A2 hD2 a2 h fun acc2 M2 ι3 H3 f s3 x3 A3 hD3 a3 => f ι3 H3 s3 (x2.trans x3) A3 hD3 a3
/-! the inmost -/
def AcL (G : Gd) (L : Addr) : List Addr → Hp → List D → Prop := fun ι H acc => ∃ vs, H L = some (.lst vs) ∧ Reps G.K ι H acc vs
def AcD (G : Gd) (L : Addr) : List Addr → Hp → List (D × D) → Prop := fun ι H acc => ∃ o, H L = some (dctO L o) ∧ DctAt G.K ι H G.P G.w L acc o
theorem acL_ok {L : Addr} : AcOk L (AcL G L) := ⟨fun s nt hD ⟨vs, e, r⟩ => ⟨(s.out hD e).1, vs, (s.out hD e).2, r.ext (s.ext nt)⟩⟩
theorem acD_ok {L : Addr} : AcOk L (AcD G L) := ⟨fun s nt hD ⟨o, e, r⟩ => ⟨(s.out hD e).1, o, (s.out hD e).2, r.ext (s.ext nt)⟩⟩
theorem emL_ok {L : Addr} {ι1 : List Addr} {H1 : Hp} (hD1 : H1 L = none) {f : EF} : InnOk G L ι1 H1 (AcL G L) (nEmL f) (fun σ H Nx => tE G W0 f σ H fun y H1 => ∃ acc, H1 L = some (.lst acc) ∧ acc.length < sizeLine ∧ Nx (upd H1 L (.lst (acc ++ [y])))) := by
  intro ι M env σ H acc Nx s A E hD a h
  unfold nEmL at h
  refine ⟨ι, M, env, A, E, ?_⟩
  cases ef : f env M with
  | bad => rw [ef] at h; exact h.elim
  | exc _ _ _ => rw [ef] at h; exact h.elim
  | ok d M1 =>
    rw [ef] at h
    intro ι2 H2 v s2 A2 r2
    obtain ⟨hD2, vs, e2, rv⟩ := acL_ok.step s2 A.nt hD a
    simp only at h
    split at h
    · rename_i hl
      have nt : ∀ xs, ¬ Rd H2 L (.tup xs) := fun xs r => by rcases r with r | ⟨o, r⟩ <;> (rw [e2] at r; cases r)
      have nf : NF H2 L := NF.of e2 fun _ _ z => nomatch z
      have xo : Ext G.K ι2 H2 ι2 (upd H2 L (.lst (vs ++ [v]))) := ext_off nt nf
      refine ⟨vs, e2, ?_, h ι2 _ ((s.trans s2).off hD1) ((s2.ext A.nt).trans xo) (abs_off A2 hD2 nt nf) hD2 ⟨vs ++ [v], upd_same, ?_⟩⟩
      · rw [← reps_len rv]; exact Nat.lt_of_lt_of_le hl (by decide)
      · exact (rv.ext xo).append (by simp only [Reps]; exact ⟨v, [], rfl, r2.ext xo, rfl⟩)
    · exact h.elim
theorem emD_ok {L : Addr} {ι1 : List Addr} {H1 : Hp} (hD1 : H1 L = none) {fk fv : EF} : InnOk G L ι1 H1 (AcD G L) (nEmD fk fv) (fun σ H Nx => tE G W0 fk σ H fun y H1 => tE G W0 fv σ H1 fun z H2 => rsD G L y z H2 Nx) := by
  intro ι M env σ H acc Nx s A E hD a h
  unfold nEmD at h
  refine ⟨ι, M, env, A, E, ?_⟩
  cases ef : fk env M with
  | bad => rw [ef] at h; exact h.elim
  | exc _ _ _ => rw [ef] at h; exact h.elim
  | ok y M1 =>
    rw [ef] at h
    intro ι2 H2 v s2 A2 r2
    obtain ⟨hD2, a2⟩ := acD_ok.step s2 A.nt hD a
    refine ⟨ι2, M1, env, A2, E.ext (s2.ext A.nt), ?_⟩
    cases eg : fv env M1 with
    | bad => simp only [eg] at h; exact h.elim
    | exc _ _ _ => simp only [eg] at h; exact h.elim
    | ok z M2 =>
      simp only [eg] at h
      intro ι3 H3 u s3 A3 r3
      obtain ⟨hD3, o, e3, da⟩ := acD_ok.step s3 A2.nt hD2 a2
      split at h
      · rename_i hl
        refine ⟨ι3, acc, o, y, z, e3, da, r2.ext (s3.ext A2.nt), r3, hl.1, hl.2, fun o' da' => ?_⟩
        exact h ι3 _ (((s.trans s2).trans s3).off hD1) (((s2.ext A.nt).trans (s3.ext A2.nt)).trans (ext_off (rd_dct e3) (nf_dct e3))) (abs_off A3 hD3 (rd_dct e3) (nf_dct e3)) hD3 ⟨o', upd_same, da'⟩
      · exact h.elim
end
end Sh

namespace Sh
open PySem L2
section
variable {X : Cx} {W : WX}
/-- what stands behind the clauses ahead of the k-th: its walk, its meaning -/
def Inn {α : Type} (X : Cx) (scope : Scope) (e : Expr) (gens : List Comprehension) (emit : Value → PySem.Env → Sem Unit) (Ac : Addr → List Addr → Hp → α → Prop) (k : Nat) (vs : List Nat) (inn : NFn α) : Prop := ∃ tin : Addr → TN,
  (∀ (s : Shared) (H : Hp) (C : Addr) (cl : List (Str × Addr)) (fp : List Addr) (L : Addr), RunsIn (X.blk s H scope (compEnvC scope cl C X.env) fp) e gens emit (.ref L) k vs (tin L)) ∧
  ∀ (L : Addr) (ι1 : List Addr) (H1 : Hp), H1 L = none → InnOk (cgd X) L ι1 H1 (Ac L) inn (tin L)
theorem inn_emL {scope : Scope} {e elt : Expr} {gens : List Comprehension} {k : Nat} {f : EF} (hk : gens[k]? = none) (he : ∀ (s : Shared) (H : Hp) (C : Addr) (cl : List (Str × Addr)) (fp : List Addr), SE (X.blk s H scope (compEnvC scope cl C X.env) fp) W0 elt f) :
    Inn X scope e gens (emL elt) (AcL (cgd X)) k [] (nEmL f) := by
  refine ⟨_, fun s H C cl fp L pins s1 σ H1 Nx I h => ?_, fun L ι1 H1 hL => emL_ok (G := cgd X) hL⟩
  unfold Ahead
  rw [hk]
  refine wpAny_bind (wpAny_mono ((he s H C cl fp).run pins s1 σ H1 _ I h) (fun z s2 ⟨y, H2, I2, r2, acc, hD, hz, nx⟩ => ?_) fun _ _ z => z)
  exact wpAny_bind (app_ok (X := X.blk s H scope (compEnvC scope cl C X.env) fp) I2 hD hz r2 fun s3 I3 => wpAny_pure ⟨_, I3, nx⟩)
theorem inn_emD {scope : Scope} {e kx vx : Expr} {gens : List Comprehension} {k : Nat} {fk fv : EF} (hu : X.A.units + 64 < cLine) (hk : gens[k]? = none)
    (he : ∀ (s : Shared) (H : Hp) (C : Addr) (cl : List (Str × Addr)) (fp : List Addr), SE (X.blk s H scope (compEnvC scope cl C X.env) fp) W0 kx fk ∧ SE (X.blk s H scope (compEnvC scope cl C X.env) fp) W0 vx fv) :
    Inn X scope e gens (emD kx vx) (AcD (cgd X)) k [] (nEmD fk fv) := by
  refine ⟨_, fun s H C cl fp L pins s1 σ H1 Nx I h => ?_, fun L ι1 H1 hL => emD_ok (G := cgd X) hL⟩
  unfold Ahead
  rw [hk]
  refine wpAny_bind (wpAny_mono ((he s H C cl fp).1.run pins s1 σ H1 _ I h) (fun z s2 ⟨y, H2, I2, r2, q2⟩ => ?_) fun _ _ z => z)
  refine wpAny_bind (wpAny_holding (wpAny_mono ((he s H C cl fp).2.run pins s2 σ H2 _ I2 q2) (fun z2 s3 ⟨u, H3, I3, r3, q3⟩ => ?_) fun _ _ z => z))
  refine wpAny_bind (wpAny_standAt (wpAny_holding ?_))
  exact set_dcN (X := X.blk s H scope (compEnvC scope cl C X.env) fp) hu pins s3 σ H3 L y u z z2 Nx _ I3 r2 r3 q3 fun s4 H4 I4 nx => ⟨H4, I4, nx⟩
theorem inn_lv {α : Type} {Ac : Addr → List Addr → Hp → α → Prop} {scope : Scope} {e : Expr} {gens : List Comprehension} {emit : Value → PySem.Env → Sem Unit} {k : Nat} {tg iter : Expr} {ifs : List Expr} {vs vs1 is : List Nat} {one : Bool} {fi : IF} {t : TG} {c : TF} {inn : NFn α} (ac : ∀ L, AcOk L (Ac L)) (hc : X.calm = true) (hE : IsC e gens emit)
    (hk : gens[k]? = some ⟨tg, iter, ifs, 0⟩) (hy : ∀ g, gens[k + 1]? = some g → g.is_async = 0)
    (hb : ∀ (s : Shared) (H : Hp) (C : Addr) (cl : List (Str × Addr)) (fp : List Addr), SI (X.blk s H scope (compEnvC scope cl C X.env) fp) W0 tg iter fi ∧ PG (X.blk s H scope (compEnvC scope cl C X.env) fp) tg t ∧ PTs (X.blk s H scope (compEnvC scope cl C X.env) fp) ifs (tT (cgd (X.blk s H scope (compEnvC scope cl C X.env) fp)) W0 c))
    (hin : Inn X scope e gens emit Ac (k + 1) vs1 inn) (hv : ∀ i ∈ vs1, i ∈ vs) (his : ∀ i ∈ is, i ∈ vs)
    (rd : ∀ {ι : List Addr} {H : Hp} {d : D} {ds : List D} {x : V} {σ : St} {Q : St → Hp → Prop}, parts one is.length d = some ds → Rep X.K ι H d x → (∀ vs, Reps X.K ι H ds vs → Q (setV is vs σ) H) → t x σ H Q)
    (hs : ∀ (C : Addr) (cl : List (Str × Addr)) x, foldedSetIterable iter (compEnvC scope cl C X.env) x = pure x := by intro _ _ _; rfl) : Inn X scope e gens emit Ac k vs (nLv fi one is vs c inn) := by
  obtain ⟨tin, h1, h2⟩ := hin
  exact ⟨fun L => tLv (tI (cgd X) W0 fi) t (tT (cgd X) W0 c) vs (tin L), fun s H C cl fp L => runs_lv rfl hc hE hk hy (hb s H C cl fp).1 (hb s H C cl fp).2.1 (hb s H C cl fp).2.2 (h1 s H C cl fp L) hv (hs C cl),
    fun L ι1 H1 hL => lv_ok (G := cgd X) (ac L) (h2 L ι1 H1 hL) his rd⟩
theorem lcN_read {t : TG} {fi : IF} {one : Bool} {is own : List Nat} {c : TF} {inn : NFn (List D)} {tin : Addr → TN} (hown : ∀ i ∈ is, i ∈ own)
    (rd : ∀ {ι : List Addr} {H : Hp} {d : D} {ds : List D} {x : V} {σ : St} {Q : St → Hp → Prop}, parts one is.length d = some ds → Rep X.K ι H d x → (∀ vs, Reps X.K ι H ds vs → Q (setV is vs σ) H) → t x σ H Q)
    (h2 : ∀ (L : Addr) (ι1 : List Addr) (H1 : Hp), H1 L = none → InnOk (cgd X) L ι1 H1 (AcL (cgd X) L) inn (tin L))
    {σ : St} {H : Hp} {Q : VK} (h : tE (cgd X) W (eLcN fi one is own c inn) σ H Q) : tLcN (tI (cgd X) W fi) t (tT (cgd X) W0 c) tin own σ H Q := by
  obtain ⟨ι, M, env, A, E, h⟩ := h
  refine tI.mono (tI.seq A E h) fun J H1 ⟨ι1, M1, s, s1, A1, E1, sim, _, h1⟩ => ?_
  intro L hL
  have hLi : L ∉ ι1 := A1.notin hL
  have x0 : Ext (cgd X).K ι1 H1 ι1 (upd H1 L (.lst [])) := by have := ext_new (K := (cgd X).K) (ι := ι1) (u := .lst []) hL []; simpa using this
  refine loopN (acc0 := []) (Fin := fun acc M2 => PostE (cgd X) W ι1 H1 σ (.ok (.ref M2.length) (M2 ++ [.lst acc])) Q) acL_ok (h2 L ι1 H1 hL) sim (E1.wipe own) hown rd (step_tmp hL) x0 (A1.tmp hL) hLi ⟨[], upd_same, by simp only [Reps]⟩ ?_ ?_
  · cases en : nGo s.guard one is c inn (wipeD env own) s.items [] M1 with
    | ok acc M2 => rw [en] at h1; exact h1
    | exc _ _ _ => rw [en] at h1; exact h1.elim
    | bad => rw [en] at h1; exact h1.elim
  · intro acc2 M2 ι2 H2 f s2 x2 A2 hD2 ⟨vs, e, r⟩
    refine f (ι2 ++ [L]) H2 _ (s2.add hL) (A2.add hD2 ⟨vs, e, r.ext (ext_add _)⟩) ?_
    simp only [Rep]
    exact ⟨L, by rw [← A2.len]; simp, rfl⟩
theorem dcM_read {t : TG} {fi : IF} {one : Bool} {is own : List Nat} {c : TF} {inn : NFn (List (D × D))} {tin : Addr → TN} (hown : ∀ i ∈ is, i ∈ own)
    (rd : ∀ {ι : List Addr} {H : Hp} {d : D} {ds : List D} {x : V} {σ : St} {Q : St → Hp → Prop}, parts one is.length d = some ds → Rep X.K ι H d x → (∀ vs, Reps X.K ι H ds vs → Q (setV is vs σ) H) → t x σ H Q)
    (h2 : ∀ (L : Addr) (ι1 : List Addr) (H1 : Hp), H1 L = none → InnOk (cgd X) L ι1 H1 (AcD (cgd X) L) inn (tin L))
    {σ : St} {H : Hp} {Q : VK} (h : tE (cgd X) W (eDcN fi one is own c inn) σ H Q) : tDcM (tI (cgd X) W fi) t (tT (cgd X) W0 c) tin own σ H Q := by
  obtain ⟨ι, M, env, A, E, h⟩ := h
  refine tI.mono (tI.seq A E h) fun J H1 ⟨ι1, M1, s, s1, A1, E1, sim, _, h1⟩ => ?_
  intro L hL hbig
  have hLi : L ∉ ι1 := A1.notin hL
  have x0 : Ext (cgd X).K ι1 H1 ι1 (upd H1 L (dctO L emptyD)) := by have := ext_new (K := (cgd X).K) (ι := ι1) (u := dctO L emptyD) hL []; simpa using this
  refine loopN (acc0 := []) (Fin := fun acc M2 => PostE (cgd X) W ι1 H1 σ (.ok (.ref M2.length) (M2 ++ [.dct acc])) Q) acD_ok (h2 L ι1 H1 hL) sim (E1.wipe own) hown rd (step_tmp hL) x0 (A1.tmp hL) hLi ⟨emptyD, upd_same, dctAt_nil hbig⟩ ?_ ?_
  · cases en : nGo s.guard one is c inn (wipeD env own) s.items [] M1 with
    | ok acc M2 => rw [en] at h1; exact h1
    | exc _ _ _ => rw [en] at h1; exact h1.elim
    | bad => rw [en] at h1; exact h1.elim
  · intro acc2 M2 ι2 H2 f s2 x2 A2 hD2 ⟨o, e, r⟩
    refine f (ι2 ++ [L]) H2 _ (s2.add hL) (A2.add hD2 ⟨o, e, r.ext (ext_add _)⟩) ?_
    simp only [Rep]
    exact ⟨L, by rw [← A2.len]; simp, rfl⟩
theorem se_lcN {elt tg iter : Expr} {ifs : List Expr} {gs : List Comprehension} {scope : Scope} {own : List (Str × Nat)} {vs1 : List Nat} {pos : Pos} {fi : IF} {one : Bool} {is : List Nat} {t : TG} {c : TF} {inn : NFn (List D)} (hc : X.calm = true) (hN : X.N.Nodup) (hi : SI X W tg iter fi) (ok : BlkOk X.N X.env.scope scope own) (hown : ∀ i ∈ is, i ∈ own.map (·.2)) (hv : ∀ i ∈ vs1, i ∈ own.map (·.2)) (hy : ∀ g, gs[0]? = some g → g.is_async = 0)
    (hb : ∀ (s : Shared) (H : Hp) (C : Addr) (cl : List (Str × Addr)) (fp : List Addr), PG (X.blk s H scope (compEnvC scope cl C X.env) fp) tg t ∧ PTs (X.blk s H scope (compEnvC scope cl C X.env) fp) ifs (tT (cgd (X.blk s H scope (compEnvC scope cl C X.env) fp)) W0 c))
    (hin : Inn X scope (.ListComp elt (⟨tg, iter, ifs, 0⟩ :: gs) scope pos) (⟨tg, iter, ifs, 0⟩ :: gs) (emL elt) (AcL (cgd X)) 1 vs1 inn)
    (rd : ∀ {ι : List Addr} {H : Hp} {d : D} {ds : List D} {x : V} {σ : St} {Q : St → Hp → Prop}, parts one is.length d = some ds → Rep X.K ι H d x → (∀ vs, Reps X.K ι H ds vs → Q (setV is vs σ) H) → t x σ H Q)
    (hs : ∀ x, foldedSetIterable iter X.env x = pure x := by intro _; rfl) : SE X W (.ListComp elt (⟨tg, iter, ifs, 0⟩ :: gs) scope pos) (eLcN fi one is (own.map (·.2)) c inn) := by
  obtain ⟨tin, h1, h2⟩ := hin
  refine PE.imp (t := tLcN (tI (cgd X) W fi) t (tT (cgd X) W0 c) tin (own.map (·.2))) ⟨fun pins s σ H Q I h => ?_⟩ fun σ H Q h => lcN_read hown rd h2 h
  rw [eval_ListComp]
  refine lcN_core hc hN I hi ok hv hy (fun s H C cl fp => (hb s H C cl fp).1) (fun s H C cl fp => (hb s H C cl fp).2) h1 hs h fun D C s' m H' I' q hn f => ⟨m, hn, fun h'' sb => ?_⟩
  obtain ⟨f0, f1, f2, f3, f4, f5⟩ := f
  exact ⟨.ref D, H', I'.turned (t' := s'.toks) (fun b o hb e => (sb.2 b hb).trans e) f0 f1 f3 f4 f5, rfl, q⟩
theorem ss_setLcN {i : Nat} {y : Str} {py spos : Pos} {elt tg iter : Expr} {ifs : List Expr} {gs : List Comprehension} {scope : Scope} {own : List (Str × Nat)} {vs1 : List Nat} {pos : Pos} {fi : IF} {one : Bool} {is : List Nat} {t : TG} {c : TF} {inn : NFn (List D)} (hc : X.calm = true) (hN : X.N.Nodup) (hy1 : X.N[i]? = some y) (hyl : X.env.scope.names.lookup y = some .local)
    (hsw : swapsWith (.ListComp elt (⟨tg, iter, ifs, 0⟩ :: gs) scope pos) (some (.Name y py)) spos.line X.env = pure true) (hi : SI X W tg iter fi) (ok : BlkOk X.N X.env.scope scope own) (hown : ∀ i ∈ is, i ∈ own.map (·.2)) (hv : ∀ i ∈ vs1, i ∈ own.map (·.2)) (hy : ∀ g, gs[0]? = some g → g.is_async = 0)
    (hb : ∀ (s : Shared) (H : Hp) (C : Addr) (cl : List (Str × Addr)) (fp : List Addr), PG (X.blk s H scope (compEnvC scope cl C X.env) fp) tg t ∧ PTs (X.blk s H scope (compEnvC scope cl C X.env) fp) ifs (tT (cgd (X.blk s H scope (compEnvC scope cl C X.env) fp)) W0 c))
    (hin : Inn X scope (.ListComp elt (⟨tg, iter, ifs, 0⟩ :: gs) scope pos) (⟨tg, iter, ifs, 0⟩ :: gs) (emL elt) (AcL (cgd X)) 1 vs1 inn)
    (rd : ∀ {ι : List Addr} {H : Hp} {d : D} {ds : List D} {x : V} {σ : St} {Q : St → Hp → Prop}, parts one is.length d = some ds → Rep X.K ι H d x → (∀ vs, Reps X.K ι H ds vs → Q (setV is vs σ) H) → t x σ H Q)
    (hs : ∀ x, foldedSetIterable iter X.env x = pure x := by intro _; rfl) : SS X W (.Assign [.Name y py] (.ListComp elt (⟨tg, iter, ifs, 0⟩ :: gs) scope pos) spos) (sSet i (eLcN fi one is (own.map (·.2)) c inn)) := by
  obtain ⟨tin, h1, h2⟩ := hin
  refine PS.imp (t := tAsg (tLcN (tI (cgd X) W fi) t (tT (cgd X) W0 c) tin (own.map (·.2))) (gName i)) ⟨fun pins s σ H D I h => ?_⟩ fun C σ H h => ?_
  · rw [exec_Assign_Name_used _ _ _ _ hsw]
    refine wpAny_bind (wpAny_standAt (wpAny_bind ?_))
    show wpAny _ X.A (do let _ ← comprehension (.ListComp elt (⟨tg, iter, ifs, 0⟩ :: gs) scope pos) scope X.env (firstIterPos (⟨tg, iter, ifs, 0⟩ :: gs) pos) (newList []) false (eval iter X.env) (some (assign (.Name y py) X.env))) _ _ s
    have h : tLcN (tI (cgd X) W fi) t (tT (cgd X) W0 c) tin (own.map (·.2)) σ H (fun x H1 => gName i x σ H1 D.nx) := h
    refine wpAny_bind (thn (lcN_core (Qf := fun _ s' => SP X pins D .next s') hc hN I hi ok hv hy (fun s H C cl fp => (hb s H C cl fp).1) (fun s H C cl fp => (hb s H C cl fp).2) h1 hs h fun L C s' m H' I' q hn f => ?_) fun _ s' hq => wpAny_pure (wpAny_pure hq))
    show wpAny _ _ (assign (.Name y py) X.env (.ref L)) _ _ _
    refine wpAny_assign_Name (store_ok2 (v := V.ref L) I' hN hy1 (.inl hyl) rfl (fun s2 I2 ⟨a, sb, ha⟩ => ?_) (.inr hyl))
    obtain ⟨f0, f1, f2, f3, f4, f5⟩ := f
    have haC : C ≠ a := by
      rcases ha with z | z
      · rw [z]; exact f1
      · exact fun e => f4 y a z e.symm
    refine ⟨m, hn.sameBut sb haC, fun h3 sb3 => ?_⟩
    exact ⟨_, H', I2.turned (t' := s2.toks) (fun b o hb e => (sb3.2 b hb).trans e) f0 f1 f3 f4 f5, q⟩
  · obtain ⟨ι, M, env, A, E, h⟩ := h
    refine lcN_read hown rd h2 (tE.mono (tE.seqS A E h) fun x H1 ⟨ι1, M1, d, s1, A1, E1, r1, _, h1⟩ => ?_)
    exact h1 ι1 H1 _ Step.refl A1 (E1.set r1)
theorem se_dcN {kx vx tg iter : Expr} {ifs : List Expr} {gs : List Comprehension} {scope : Scope} {own : List (Str × Nat)} {vs1 : List Nat} {pos : Pos} {fi : IF} {one : Bool} {is : List Nat} {t : TG} {c : TF} {inn : NFn (List (D × D))} (hc : X.calm = true) (hN : X.N.Nodup) (hi : SI X W tg iter fi) (ok : BlkOk X.N X.env.scope scope own) (hown : ∀ i ∈ is, i ∈ own.map (·.2)) (hv : ∀ i ∈ vs1, i ∈ own.map (·.2)) (hy : ∀ g, gs[0]? = some g → g.is_async = 0)
    (hb : ∀ (s : Shared) (H : Hp) (C : Addr) (cl : List (Str × Addr)) (fp : List Addr), PG (X.blk s H scope (compEnvC scope cl C X.env) fp) tg t ∧ PTs (X.blk s H scope (compEnvC scope cl C X.env) fp) ifs (tT (cgd (X.blk s H scope (compEnvC scope cl C X.env) fp)) W0 c))
    (hin : Inn X scope (.DictComp kx vx (⟨tg, iter, ifs, 0⟩ :: gs) scope pos) (⟨tg, iter, ifs, 0⟩ :: gs) (emD kx vx) (AcD (cgd X)) 1 vs1 inn)
    (rd : ∀ {ι : List Addr} {H : Hp} {d : D} {ds : List D} {x : V} {σ : St} {Q : St → Hp → Prop}, parts one is.length d = some ds → Rep X.K ι H d x → (∀ vs, Reps X.K ι H ds vs → Q (setV is vs σ) H) → t x σ H Q)
    (hs : ∀ x, foldedSetIterable iter X.env x = pure x := by intro _; rfl) : SE X W (.DictComp kx vx (⟨tg, iter, ifs, 0⟩ :: gs) scope pos) (eDcN fi one is (own.map (·.2)) c inn) := by
  obtain ⟨tin, h1, h2⟩ := hin
  refine PE.imp (t := tDcM (tI (cgd X) W fi) t (tT (cgd X) W0 c) tin (own.map (·.2))) ⟨fun pins s σ H Q I h => ?_⟩ fun σ H Q h => dcM_read hown rd h2 h
  rw [arm_eval_DictComp]
  refine dcM_core hc hN I hi ok hv hy (fun s H C cl fp => (hb s H C cl fp).1) (fun s H C cl fp => (hb s H C cl fp).2) h1 hs h fun D C s' m H' I' q hn f => ⟨m, hn, fun h'' sb => ?_⟩
  obtain ⟨f0, f1, f2, f3, f4, f5⟩ := f
  exact ⟨.ref D, H', I'.turned (t' := s'.toks) (fun b o hb e => (sb.2 b hb).trans e) f0 f1 f3 f4 f5, rfl, q⟩
theorem ss_setDcN {i : Nat} {y : Str} {py spos : Pos} {kx vx tg iter : Expr} {ifs : List Expr} {gs : List Comprehension} {scope : Scope} {own : List (Str × Nat)} {vs1 : List Nat} {pos : Pos} {fi : IF} {one : Bool} {is : List Nat} {t : TG} {c : TF} {inn : NFn (List (D × D))} (hc : X.calm = true) (hN : X.N.Nodup) (hy1 : X.N[i]? = some y) (hyl : X.env.scope.names.lookup y = some .local)
    (hsw : swapsWith (.DictComp kx vx (⟨tg, iter, ifs, 0⟩ :: gs) scope pos) (some (.Name y py)) spos.line X.env = pure true) (hi : SI X W tg iter fi) (ok : BlkOk X.N X.env.scope scope own) (hown : ∀ i ∈ is, i ∈ own.map (·.2)) (hv : ∀ i ∈ vs1, i ∈ own.map (·.2)) (hy : ∀ g, gs[0]? = some g → g.is_async = 0)
    (hb : ∀ (s : Shared) (H : Hp) (C : Addr) (cl : List (Str × Addr)) (fp : List Addr), PG (X.blk s H scope (compEnvC scope cl C X.env) fp) tg t ∧ PTs (X.blk s H scope (compEnvC scope cl C X.env) fp) ifs (tT (cgd (X.blk s H scope (compEnvC scope cl C X.env) fp)) W0 c))
    (hin : Inn X scope (.DictComp kx vx (⟨tg, iter, ifs, 0⟩ :: gs) scope pos) (⟨tg, iter, ifs, 0⟩ :: gs) (emD kx vx) (AcD (cgd X)) 1 vs1 inn)
    (rd : ∀ {ι : List Addr} {H : Hp} {d : D} {ds : List D} {x : V} {σ : St} {Q : St → Hp → Prop}, parts one is.length d = some ds → Rep X.K ι H d x → (∀ vs, Reps X.K ι H ds vs → Q (setV is vs σ) H) → t x σ H Q)
    (hs : ∀ x, foldedSetIterable iter X.env x = pure x := by intro _; rfl) : SS X W (.Assign [.Name y py] (.DictComp kx vx (⟨tg, iter, ifs, 0⟩ :: gs) scope pos) spos) (sSet i (eDcN fi one is (own.map (·.2)) c inn)) := by
  obtain ⟨tin, h1, h2⟩ := hin
  refine PS.imp (t := tAsg (tDcM (tI (cgd X) W fi) t (tT (cgd X) W0 c) tin (own.map (·.2))) (gName i)) ⟨fun pins s σ H D I h => ?_⟩ fun C σ H h => ?_
  · rw [exec_Assign_Name_used _ _ _ _ hsw]
    refine wpAny_bind (wpAny_standAt (wpAny_bind ?_))
    show wpAny _ X.A (do let _ ← comprehension (.DictComp kx vx (⟨tg, iter, ifs, 0⟩ :: gs) scope pos) scope X.env (firstIterPos (⟨tg, iter, ifs, 0⟩ :: gs) pos) newDict false (eval iter X.env) (some (assign (.Name y py) X.env))) _ _ s
    have h : tDcM (tI (cgd X) W fi) t (tT (cgd X) W0 c) tin (own.map (·.2)) σ H (fun x H1 => gName i x σ H1 D.nx) := h
    refine wpAny_bind (thn (dcM_core (Qf := fun _ s' => SP X pins D .next s') hc hN I hi ok hv hy (fun s H C cl fp => (hb s H C cl fp).1) (fun s H C cl fp => (hb s H C cl fp).2) h1 hs h fun L C s' m H' I' q hn f => ?_) fun _ s' hq => wpAny_pure (wpAny_pure hq))
    show wpAny _ _ (assign (.Name y py) X.env (.ref L)) _ _ _
    refine wpAny_assign_Name (store_ok2 (v := V.ref L) I' hN hy1 (.inl hyl) rfl (fun s2 I2 ⟨a, sb, ha⟩ => ?_) (.inr hyl))
    obtain ⟨f0, f1, f2, f3, f4, f5⟩ := f
    have haC : C ≠ a := by
      rcases ha with z | z
      · rw [z]; exact f1
      · exact fun e => f4 y a z e.symm
    refine ⟨m, hn.sameBut sb haC, fun h3 sb3 => ?_⟩
    exact ⟨_, H', I2.turned (t' := s2.toks) (fun b o hb e => (sb3.2 b hb).trans e) f0 f1 f3 f4 f5, q⟩
  · obtain ⟨ι, M, env, A, E, h⟩ := h
    refine dcM_read hown rd h2 (tE.mono (tE.seqS A E h) fun x H1 ⟨ι1, M1, d, s1, A1, E1, r1, _, h1⟩ => ?_)
    exact h1 ι1 H1 _ Step.refl A1 (E1.set r1)
theorem sw_trueD {kx vx : Expr} {gs : List Comprehension} {scope : Scope} {pos py : Pos} {y : Str} {l : Nat} {env : PySem.Env} (hk : env.scope.kind = .function) (hy : env.scope.names.lookup y = some .local) (hl : (py.line == pos.line) = true)
    (ha : (scope.names.any fun (n, k) => n == y && (k == .local || k == .cell)) = false) : swapsWith (.DictComp kx vx gs scope pos) (some (.Name y py)) l env = pure true := by
  have ky : env.kindOf y = some .local := hy
  have hb : env.blockKind = .function := by unfold PySem.Env.blockKind; rw [hk]; rfl
  unfold swapsWith
  dsimp only
  rw [hb, ky, ha]
  show pure _ = _
  simp [Expr.pos, hl]
end
end Sh

namespace Sh
open PySem L2
/-! ### x[::-1] -/
theorem fm_congr {α β : Type} {f g : α → Option β} : ∀ {l : List α}, (∀ a ∈ l, f a = g a) → l.filterMap f = l.filterMap g
  | [], _ => rfl
  | a :: l, h => by
    have ih := fm_congr (l := l) fun b m => h b (List.mem_cons_of_mem _ m)
    simp only [List.filterMap_cons, h a List.mem_cons_self, ih]
theorem fm_range {α : Type} (l : List α) : ∀ k, k ≤ l.length → (List.range k).filterMap (fun m => l[m]?) = l.take k
  | 0, _ => by simp
  | k + 1, h => by
    rw [List.range_succ, List.filterMap_append, fm_range l k (by omega), List.take_succ]
    rw [List.getElem?_eq_getElem (show k < l.length from h)]
    simp [List.getElem?_eq_getElem (show k < l.length from h)]
theorem pick_rev (xs : Array Value) : ((List.range xs.size).filterMap fun (m : Nat) => xs[(((xs.size : Int) - 1) + (m : Int) * (-1)).toNat]?) = xs.toList.reverse := by
  rw [fm_congr (g := fun m => xs.toList.reverse[m]?)]
  · rw [fm_range _ _ (by simp), List.take_of_length_le (by simp)]
  · intro m hm
    have hm' := List.mem_range.mp hm
    have h1 : (((xs.size : Int) - 1) + (m : Int) * (-1)).toNat = xs.size - 1 - m := by omega
    rw [h1, List.getElem?_reverse (by simpa using hm'), Array.getElem?_toList]
    simp
section
open PyProof.Rows
variable {prog : Program} {w : World} {A : Around} {E : Value → Shared → Prop} {s : Shared}
theorem getItem_tuple_rev {t sl : Addr} {items : Array Value} {vs : Value} {Q : Value → Shared → Prop} (ht : IsTup s.heap t items) (hs : s.heap.IsSliceOf sl .none .none vs) (ps : IsPart vs (some (-1)))
    (h : Q (.ref s.heap.objs.size) { s with heap := s.heap.push { cls := .type "tuple", data := .seq items.toList.reverse.toArray } })
    (hsz : items.size ≤ sizeLine) : wpAny (model prog w) A (getItem (.ref t) (.ref sl)) Q E s := by
  have htake : sizeOk (.seq items.toList.reverse.toArray) := by
    show items.toList.reverse.toArray.size ≤ sizeLine
    simpa using hsz
  obtain ⟨os, hos, hcs, hds⟩ := id hs
  have hTs : s.TypeIs (.ref sl) "slice" := ⟨os, hos, hcs⟩
  unfold getItem
  try with_reducible refine wpAny_holding ?_
  first | refine wpAny_bind (wpAny_pure ?_) | skip
  refine wpAny_bind (wpAny_sequenceKey ht.typeIs (by decide) ?_)
  refine wpAny_bind (wpAny_callSpecial?_slot (name := Str.ofString "__getitem__") ht.typeIs PyProof.Rows.slot_tuple_getitem
    (wpAny_call_entry PyProof.Rows.slot_tuple_getitem ht.typeIs entry_tuple_getitem ?_ (args_tuple_getitem _ _)))
  show wpAny _ _ (Builtin.Tuple.tupleItemsOf (.ref t) >>= _) _ _ s
  refine wpAny_bind (tupleItemsOf_ ht ?_)
  refine wpAny_bind (wpAny_typeOf hTs ?_)
  rw [if_pos (by decide)]
  unfold Builtin.Slice.sliceApplied Builtin.Slice.sliceFields
  refine wpAny_bind (wpAny_bind (wpAny_bind (wpAny_field hos hds (x := .none) rfl (wpAny_bind (wpAny_field hos hds (x := .none) rfl (wpAny_bind (wpAny_field hos hds (x := vs) rfl (wpAny_pure ?_))))))))
  refine wpAny_bind (HT.slicePart_ ps ?_)
  show wpAny _ _ (if ((-1 : Int) == 0) = true then _ else _) _ _ s
  rw [if_neg (by decide)]
  refine wpAny_bind (HT.slicePart_ .none (wpAny_bind (HT.slicePart_ .none (wpAny_bind (wpAny_pure ?_)))))
  show wpAny _ _ (pure (((items.size : Int) - 1), (-1 : Int), Builtin.Slice.slicePlaces ((items.size : Int) - 1) (-1) (-1))) _ _ s
  have hp : Builtin.Slice.slicePlaces ((items.size : Int) - 1) (-1) (-1) = items.size := by
    unfold Builtin.Slice.slicePlaces
    split
    · omega
    · split <;> simp <;> omega
  rw [hp]
  refine wpAny_pure ?_
  have hno : ¬ ((((items.size : Int) - 1) == 0 && (-1 : Int) == 1 && items.size == items.size) = true) := by simp
  show wpAny _ _ (if (((items.size : Int) - 1) == 0 && (-1 : Int) == 1 && items.size == items.size) = true then _ else _) _ _ s
  rw [if_neg hno, pick_rev]
  first
    | exact wpAny_bind (m := Builtin.Tuple.tupleExact _) (wpAny_newObj_type (wpAny_pure ⟨_, rfl, wpAny_pure h⟩) htake)
    | exact wpAny_bind (m := Builtin.Tuple.tupleExact _) (wpAny_newObj_type (wpAny_bind (wpAny_pure (wpAny_pure ⟨_, rfl, wpAny_pure h⟩))) htake)
    | exact wpAny_bind (wpAny_bind (m := Builtin.Tuple.tupleExact _) (wpAny_newObj_type (wpAny_pure (wpAny_pure ⟨_, rfl, wpAny_pure h⟩)) htake))
    | exact wpAny_bind (wpAny_bind (m := Builtin.Tuple.tupleExact _) (wpAny_newObj_type (wpAny_pure ⟨_, rfl, wpAny_pure h⟩) htake))
end
def tRevT (K : PySem.W.Frag) (te : TE) : TE := fun σ H Q => te σ H fun x H1 => ∃ a xs, x = .ref a ∧ SqT K H1 a xs ∧ ∀ p, H1 p = none → Q (.ref p) (upd H1 p (.tup xs.reverse))
section
variable {X : Cx} {W : WX}
open PyProof.Rows PySem.Spec in
theorem pe_revT {e : Expr} {te : TE} {k : Nat} {p1 p2 p3 pos : Pos} (he : PE X e te) : PE X (.Subscript e (.Slice none none (some (.UnaryOp .USub (.Constant (.int 1) k p1) p2)) p3) pos) (tRevT X.K te) := by
  refine ⟨fun pins s σ H Q I h => ?_⟩
  refine PyProof.Rows.Subscript_ (thn (he.run pins s σ H _ I h) fun v s1 ⟨x, H1, I1, r1, q1⟩ => ?_)
  obtain ⟨a, xs, ex, hx, q⟩ := q1
  subst ex
  cases r1
  have hst : PO X (some (.UnaryOp .USub (.Constant (.int 1) k p1) p2)) (tPart (tUn (rU fun i => .int (-i)) (tC (.int 1)))) := po_some (pe_un un_neg pe_int)
  refine wpAny_Slice (thn (po_none.run pins s1 σ H1 (fun o H2 => o = none ∧ H2 = H1) I1 ⟨rfl, rfl⟩) fun vl s2 ⟨l, H2, I2, pl, el, e2⟩ => ?_)
  subst el e2
  refine thn (po_none.run pins s2 σ H2 (fun o H3 => o = none ∧ H3 = H2) I2 ⟨rfl, rfl⟩) fun vu s3 ⟨u, H3, I3, pu, eu, e3⟩ => ?_
  subst eu e3
  refine thn (hst.run pins s3 σ H3 (fun o H4 => o = some (-1) ∧ H4 = H3) I3 ⟨1, rfl, -1, rfl, rfl, rfl⟩) fun vs s4 ⟨o, H4, I4, ps, eo, e4⟩ => ?_
  subst eo e4
  cases pl
  cases pu
  have I5 : Inv X pins σ H4 { s4 with heap := s4.heap.push { cls := .type "slice", data := .fields #[.none, .none, vs] } } := I4.kept (t' := s4.toks) fun b ob q => Heap.get?_push_of_some _ q
  obtain ⟨its, r, ht, hz⟩ := I5.tuple hx
  have hlen := r.length
  show wpAny (model X.prog X.w) X.A (PyProof.Rows.subscriptTail e (.Slice none none (some (.UnaryOp .USub (.Constant (.int 1) k p1) p2)) p3) (.ref a) (.ref s4.heap.objs.size)) (EP X pins σ Q) X.xe { s4 with heap := s4.heap.push { cls := .type "slice", data := .fields #[.none, .none, vs] } }
  refine tail_any (ops := [.ref a, .ref s4.heap.objs.size]) ht.typeIs (PyProof.Rows.slot_tuple_getitem.lookup) ?_ (by with_unfolding_all rfl)
  refine getItem_tuple_rev ht (Heap.IsSliceOf.new _ .none .none vs) ps ?_ (by rw [List.size_toArray]; omega)
  refine ⟨.ref _, _, I5.laid (t' := s4.toks) (o := .tup xs.reverse) (fun b ob q => Heap.get?_push_of_some _ q) (Nat.le_refl _) ?_, rfl, q _ (I5.hok.fresh (Nat.le_refl _))⟩
  exact ⟨by rw [List.length_reverse]; exact hz, its.reverse, r.reverse, ⟨_, Heap.get?_push_size _ rfl, rfl, 0, by simp⟩⟩
def eRev (f : EF) : EF := fun env M => (f env M).bind fun d M1 => match d with
  | .tup l => .ok (.tup l.reverse) M1
  | .ref n => match lstM M1 n with
    | some l => .ok (.ref M1.length) (M1 ++ [.lst l.reverse])
    | none => .bad
  | _ => .bad
theorem Reps.rev {K : PySem.W.Frag} {ι : List Addr} {H : Hp} : ∀ {l : List D} {vs : List V}, Reps K ι H l vs → Reps K ι H l.reverse vs.reverse
  | [], _, h => by simp only [Reps] at h; subst h; simp only [List.reverse_nil, Reps]
  | d :: l, _, h => by
    simp only [Reps] at h
    obtain ⟨v, r, rfl, h1, h2⟩ := h
    rw [List.reverse_cons, List.reverse_cons]
    exact (Reps.rev h2).append (by simp only [Reps]; exact ⟨v, [], rfl, h1, rfl⟩)
theorem se_rev {e : Expr} {f : EF} {k : Nat} {p1 p2 p3 pos : Pos} (he : SE X W e f) : SE X W (.Subscript e (.Slice none none (some (.UnaryOp .USub (.Constant (.int 1) k p1) p2)) p3) pos) (eRev f) :=
  (PE.or (pe_revT he) (pe_revL he)).imp fun σ H Q h => by
    obtain ⟨ι, M, env, A, E, h⟩ := h
    unfold eRev at h
    have key := tE.seq (R2 := Rep (cgd X).K) (g := fun d M1 => match d with
      | .tup l => .ok (.tup l.reverse) M1
      | .ref n => match lstM M1 n with
        | some l => .ok (.ref M1.length) (M1 ++ [.lst l.reverse])
        | none => .bad
      | _ => .bad) A E h
    cases ef : f env M with
    | ok d M1 =>
      cases d with
      | tup l =>
        refine .inl (tE.mono key fun x H1 ⟨ι1, M1', d', s1, A1, E1, r1, e1, h1⟩ => ?_)
        rw [ef] at e1
        cases e1
        simp only [Rep] at r1
        obtain ⟨a, vs, rfl, hq, rr⟩ := r1
        exact ⟨a, vs, rfl, hq, PostO.tup (G := cgd X) A1 rr.rev h1⟩
      | ref n =>
        refine .inr (tE.mono key fun x H1 ⟨ι1, M1', d', s1, A1, E1, r1, e1, h1⟩ => ?_)
        rw [ef] at e1
        cases e1
        simp only [Rep] at r1
        obtain ⟨a, ea, rfl⟩ := r1
        cases el : lstM M1 n with
        | none => simp only [el] at h1; exact h1.elim
        | some l =>
          simp only [el] at h1
          obtain ⟨vs, hq, rr⟩ := lst_get A1 ea el
          exact ⟨a, vs, rfl, hq, PostO.lst (G := cgd X) A1 rr.rev h1⟩
      | _ => rw [ef] at h; exact h.elim
    | exc c fs M1 => exact .inl ⟨ι, M, env, A, E, by rw [ef] at h ⊢; exact h⟩
    | bad => rw [ef] at h; exact h.elim
end
end Sh

namespace Sh
open PySem L2
/-! ### zip(*xs), a list of lists of one length: the iterator -/
def zipO (f0 : Value) (f1 : Bool) (N n : Nat) : Obj := { cls := .type "zip", dict := none, data := .fields #[f0, .bool f1, .bool false, .ref (N + n), .ref (N + n + 1)], slots := #[] }
def itsL (N n : Nat) : List Value := (List.range n).map fun j => Value.ref (N + j)
def ZnAt (N n : Nat) (a : Nat → Nat) (i : Nat) (h : Heap) : Prop :=
  (∃ f0 f1, (f0 = .none ∨ ∃ T : Addr, f0 = rawInt T) ∧ h.get? (N + n + 2) = some (zipO f0 f1 N n)) ∧ h.get? (N + n) = some { cls := .type "tuple", data := .seq (itsL N n).toArray } ∧
  (∃ vs : Array Value, vs.size = n ∧ h.get? (N + n + 1) = some { cls := .type "tuple", data := .seq vs }) ∧ ∀ j, j < n → h.IsListIter (N + j) (a j) i
section
variable {prog : Program} {w : World} {A : Around} {E : Value → Shared → Prop} {s : Shared} {N n i : Nat} {a : Nat → Nat} {xs : Nat → Array Value} {v : Nat → Value}
theorem itsL_drop {k : Nat} (hk : k < n) : (itsL N n).drop k = .ref (N + k) :: (itsL N n).drop (k + 1) := by
  have hl : k < (itsL N n).length := by simp [itsL]; exact hk
  rw [List.drop_eq_getElem_cons hl]
  simp [itsL]
/-- path 2: the tuple is held elsewhere -/
theorem zn_held {Q : Value → Shared → Prop} {T : Addr} {f1 : Bool} {oT : Obj} (hn : 0 < n) (hnz : n ≤ sizeLine) (ha : ∀ j, j < n → a j < N) (hz : s.heap.get? (N + n + 2) = some (zipO (rawInt T) f1 N n)) (hT : s.heap.get? T = some oT) (S : ZnAt N n a i s.heap)
    (hl : ∀ j, j < n → s.heap.IsList (a j) (xs j)) (hx : ∀ j, j < n → (xs j)[i]? = some (v j))
    (hQ : ∀ h', ZnAt N n a (i + 1) h' → h'.get? s.heap.objs.size = some { cls := .type "tuple", data := .seq ((List.range n).map v).toArray } → h'.objs.size = s.heap.objs.size + 1 → (∀ (c : Nat) o, (c < N ∨ N + n + 2 < c) → s.heap.get? c = some o → h'.get? c = some o) → Q (.ref s.heap.objs.size) { s with heap := h' }) :
    wpAny (model prog w) A (Builtin.«zip.__next__» ⟨[.ref (N + n + 2)], []⟩) (fun fin s' => ∃ v, fin = .done (.ret v) ∧ Q v s') E s := by
  obtain ⟨_, hTI, ⟨vs, hvs, hTO⟩, hit⟩ := S
  obtain ⟨hp, g, d, tk, os⟩ := s
  show wpAny _ _ (field (.ref (N + n + 2)) 2 >>= _) _ _ _
  refine wpAny_bind (wpAny_field hz rfl (x := .bool false) rfl ?_)
  show wpAny _ _ (field (.ref (N + n + 2)) 3 >>= _) _ _ _
  refine wpAny_bind (wpAny_field hz rfl (x := .ref (N + n)) rfl ?_)
  refine wpAny_bind (wpAny_seqItems hTI rfl ?_)
  have hne : ¬ ((itsL N n).toArray.isEmpty = true) := by simp [itsL]; omega
  show wpAny _ _ (if (itsL N n).toArray.isEmpty = true then _ else _) _ _ _
  rw [if_neg hne]
  show wpAny _ _ (Builtin.SmallTypes.ownedTupleIsFree (.ref (N + n + 2)) >>= _) _ _ _
  refine wpAny_bind (wpAny_tupleHeld_zip (s := ⟨hp, g, d, tk, os⟩) hz hT fun h₁ hz₁ hs₁ => ?_)
  replace hs₁ : Heap.SameBut (N + n + 2) hp h₁ := hs₁
  simp only [Bool.false_eq_true, if_false]
  refine wpAny_bind ?_
  refine PySem.MeetsSeq2.wpAny_forIn_array _ (fun rest b s' => ∃ k hk, k ≤ n ∧ rest = (itsL N n).drop k ∧ b = (none, ((List.range k).map v).toArray) ∧ s' = (⟨hk, g, d, tk, os⟩ : Shared) ∧ hk.objs.size = hp.objs.size ∧ (∀ j, j < n → hk.IsListIter (N + j) (a j) (if j < k then i + 1 else i)) ∧
      (∀ (c : Nat) o, (c < N ∨ N + n ≤ c) → h₁.get? c = some o → hk.get? c = some o)) _ ?_ ?_ _ _ ⟨0, h₁, Nat.zero_le _, rfl, rfl, rfl, hs₁.1, fun j hj => ?_, fun c o _ e => e⟩
  · rintro x rest b s' ⟨k, hk, hkn, hr, rfl, rfl, hsz, hits, hkeep⟩
    have hlt : k < n := by
      rcases Nat.lt_or_ge k n with h | h
      · exact h
      · rw [List.drop_eq_nil_of_le (by simp [itsL]; exact h)] at hr; cases hr
    rw [itsL_drop hlt] at hr
    cases hr
    refine wpAny_bind (wpAny_holding ?_)
    show wpAny _ _ (Builtin.SmallTypes.nextOf (.ref (N + k)) >>= _) _ _ _
    have hik : hk.IsListIter (N + k) (a k) i := by have := hits k hlt; rwa [if_neg (Nat.lt_irrefl k)] at this
    have hlk : hk.IsList (a k) (xs k) := by
      obtain ⟨o, e, r⟩ := hl k hlt
      have e' : hp.get? (a k) = some o := e
      exact ⟨o, hkeep _ _ (.inl (ha k hlt)) (hs₁.extBut _ _ (Nat.ne_of_lt (by have := ha k hlt; omega)) e'), r⟩
    refine wpAny_bind (wpAny_nextOf_list_item (s := ⟨hk, g, d, tk, os⟩) hik hlk (hx k hlt) fun h2 hi2 hs2 => wpAny_pure ?_)
    replace hs2 : Heap.SameBut (N + k) hk h2 := hs2
    refine wpAny_pure ⟨k + 1, h2, hlt, rfl, ?_, rfl, hs2.1.trans hsz, fun j hj => ?_, fun c o hc e => ?_⟩
    · rw [List.range_succ, List.map_append]; simp
    · by_cases hjk : j = k
      · subst hjk; rw [if_pos (Nat.lt_succ_self j)]; exact hi2
      · have q := hits j hj
        have e1 : (if j < k + 1 then i + 1 else i) = if j < k then i + 1 else i := by
          by_cases h : j < k
          · rw [if_pos h, if_pos (by omega)]
          · rw [if_neg h, if_neg (by omega)]
        rw [e1]
        exact q.extBut hs2.extBut (show (N + j : Nat) ≠ N + k by omega)
    · exact hs2.extBut _ _ (show (c : Nat) ≠ N + k by omega) (hkeep c o hc e)
  · rintro b s' ⟨k, hk, hkn, hr, rfl, rfl, hsz, hits, hkeep⟩
    have hkn' : k = n := by
      rcases Nat.lt_or_ge k n with h | h
      · rw [itsL_drop h] at hr; cases hr
      · omega
    subst hkn'
    refine wpAny_bind (wpAny_newTuple ?_ (by simpa using hnz))
    refine wpAny_pure ⟨_, rfl, ?_⟩
    show Q (.ref hk.objs.size) ⟨hk.push { cls := .type "tuple", data := .seq ((List.range k).map v).toArray }, g, d, tk, os⟩
    have hsz' : hk.objs.size = hp.objs.size := hsz
    rw [hsz']
    refine hQ _ ⟨⟨rawInt T, true, .inr ⟨T, rfl⟩, ?_⟩, ?_, ⟨vs, hvs, ?_⟩, fun j hj => ?_⟩ ?_ ?_ fun c o hc e => ?_
    · exact Heap.get?_push_of_some _ (hkeep _ _ (.inr (by omega)) hz₁)
    · exact Heap.get?_push_of_some _ (hkeep _ _ (.inr (by omega)) (hs₁.extBut _ _ (show (N + k : Nat) ≠ N + k + 2 by omega) hTI))
    · exact Heap.get?_push_of_some _ (hkeep _ _ (.inr (by omega)) (hs₁.extBut _ _ (show (N + k + 1 : Nat) ≠ N + k + 2 by omega) hTO))
    · have q := hits j hj
      rw [if_pos hj] at q
      exact q.at fun o e => Heap.get?_push_of_some _ e
    · show (hk.push _).get? hp.objs.size = _
      rw [← hsz']; exact Heap.get?_push_size _ rfl
    · show (hk.push _).objs.size = hp.objs.size + 1
      rw [Heap.size_push, hsz']
    · refine Heap.get?_push_of_some _ (hkeep c o (by omega) (hs₁.extBut _ _ (show (c : Nat) ≠ N + k + 2 by omega) e))
  · have q := hit j hj
    rw [if_neg (Nat.not_lt_zero j)]
    exact Heap.IsListIter.extBut (h := hp) q hs₁.extBut (show (N + j : Nat) ≠ N + n + 2 by omega)
theorem dead_alive {b : Addr} {Q : Option Obj → Shared → Prop} (ho : s.heap.get? b = none) (h : Q none s) : wpAny (model prog w) A (loadIfAlive b) Q E s := by
  have h' : Q (s.heap.get? b) s := by rw [ho]; exact h
  exact fun _ _ _ => h'
theorem setTup {T : Addr} {vs : Array Value} {x : Value} {k : Nat} {Q : Unit → Shared → Prop} (hz : vs.size ≤ sizeLine) (hT : s.heap.get? T = some { cls := .type "tuple", data := .seq vs })
    (h : ∀ h', h'.get? T = some { cls := .type "tuple", data := .seq (vs.setIfInBounds k x) } → Heap.SameBut T s.heap h' → Q () { s with heap := h' }) :
    wpAny (model prog w) A (updateSeq T (·.setIfInBounds k x)) Q E s := by
  refine wpAny_updateSeq hT rfl (h _ ?_ (Heap.SameBut.update ..)) hz (by simp; omega)
  rw [Heap.get?_update_self _ hT rfl]
  simp [Obj.mapSeq]
/-- path 1: the own tuple is written anew -/
theorem zn_free {Q : Value → Shared → Prop} {f0 : Value} {f1 : Bool} (hn : 0 < n) (hnz : n ≤ sizeLine) (ha : ∀ j, j < n → a j < N) (hz : s.heap.get? (N + n + 2) = some (zipO f0 f1 N n)) (hf : f0 = .none ∨ ∃ T : Addr, f0 = rawInt T ∧ s.heap.get? T = none) (S : ZnAt N n a i s.heap)
    (hl : ∀ j, j < n → s.heap.IsList (a j) (xs j)) (hx : ∀ j, j < n → (xs j)[i]? = some (v j))
    (hQ : ∀ h', ZnAt N n a (i + 1) h' → h'.get? s.heap.objs.size = some { cls := .type "tuple", data := .seq ((List.range n).map v).toArray } → h'.objs.size = s.heap.objs.size + 1 → (∀ (c : Nat) o, (c < N ∨ N + n + 2 < c) → s.heap.get? c = some o → h'.get? c = some o) → Q (.ref s.heap.objs.size) { s with heap := h' }) :
    wpAny (model prog w) A (Builtin.«zip.__next__» ⟨[.ref (N + n + 2)], []⟩) (fun fin s' => ∃ v, fin = .done (.ret v) ∧ Q v s') E s := by
  obtain ⟨_, hTI, ⟨vs, hvs, hTO⟩, hit⟩ := S
  obtain ⟨hp, g, d, tk, os⟩ := s
  show wpAny _ _ (field (.ref (N + n + 2)) 2 >>= _) _ _ _
  refine wpAny_bind (wpAny_field hz rfl (x := .bool false) rfl ?_)
  show wpAny _ _ (field (.ref (N + n + 2)) 3 >>= _) _ _ _
  refine wpAny_bind (wpAny_field hz rfl (x := .ref (N + n)) rfl ?_)
  refine wpAny_bind (wpAny_seqItems hTI rfl ?_)
  have hne : ¬ ((itsL N n).toArray.isEmpty = true) := by simp [itsL]; omega
  show wpAny _ _ (if (itsL N n).toArray.isEmpty = true then _ else _) _ _ _
  rw [if_neg hne]
  show wpAny _ _ (Builtin.SmallTypes.ownedTupleIsFree (.ref (N + n + 2)) >>= _) _ _ _
  have free : ∀ {Q' : Bool → Shared → Prop}, Q' true ⟨hp, g, d, tk, os⟩ → wpAny (model prog w) A (Builtin.SmallTypes.ownedTupleIsFree (.ref (N + n + 2))) Q' E ⟨hp, g, d, tk, os⟩ := fun {Q'} q => by
    unfold Builtin.SmallTypes.ownedTupleIsFree
    refine wpAny_bind (wpAny_field hz rfl (x := f0) rfl ?_)
    rcases hf with rfl | ⟨T, rfl, hT⟩
    · exact wpAny_pure q
    · show wpAny _ _ (loadIfAlive ((T : Int).toNat) >>= _) _ _ _
      rw [Int.toNat_natCast]
      refine wpAny_bind (dead_alive (s := ⟨hp, g, d, tk, os⟩) hT ?_)
      simp only [Option.isNone_none, if_true]
      exact wpAny_pure q
  refine wpAny_bind (free ?_)
  simp only [if_true]
  refine wpAny_bind (wpAny_rule ?_)
  refine wpAny_bind (wpAny_field hz rfl (x := .ref (N + n + 1)) rfl ?_)
  refine wpAny_bind (wpAny_setField_rec hz (by simp) fun g0 hz0 hs0 => ?_)
  replace hz0 : g0.get? (N + n + 2) = some (zipO .ellipsis f1 N n) := hz0
  replace hs0 : Heap.SameBut (N + n + 2) hp g0 := hs0
  refine wpAny_bind ?_
  refine wpAny_forIn_list _ (fun rest b s' => ∃ k hk ws, k ≤ n ∧ rest = ((itsL N n).toArray.toList.zipIdx).drop k ∧ b = (none, ()) ∧ s' = (⟨hk, g, d, tk, os⟩ : Shared) ∧ hk.objs.size = hp.objs.size ∧ (∀ j, j < n → hk.IsListIter (N + j) (a j) (if j < k then i + 1 else i)) ∧
      hk.get? (N + n + 1) = some { cls := .type "tuple", data := .seq ws } ∧ ws.size = n ∧ (∀ j, j < k → ws[j]? = some (v j)) ∧ (∀ (c : Nat) o, (c < N ∨ N + n ≤ c) → c ≠ N + n + 1 → g0.get? c = some o → hk.get? c = some o)) _ ?_ ?_ _ _ ⟨0, g0, vs, Nat.zero_le _, rfl, rfl, rfl, hs0.1, fun j hj => ?_, hs0.extBut _ _ (show (N + n + 1 : Nat) ≠ N + n + 2 by omega) hTO, hvs, fun j hj => absurd hj (Nat.not_lt_zero j), fun c o _ _ e => e⟩
  · rintro x rest b s' ⟨k, hk, ws, hkn, hr, rfl, rfl, hsz, hits, hto, hws, hvals, hkeep⟩
    have hlt : k < n := by
      rcases Nat.lt_or_ge k n with h | h
      · exact h
      · rw [List.drop_eq_nil_of_le (by simp [itsL]; exact h)] at hr; cases hr
    have hll : k < ((itsL N n).toArray.toList.zipIdx).length := by simp [itsL]; exact hlt
    rw [List.drop_eq_getElem_cons hll] at hr
    obtain ⟨hx0, hrest⟩ := List.cons.inj hr
    have hx1 : x = (.ref (N + k), k) := by rw [hx0]; simp [itsL]
    subst hx1
    subst hrest
    refine wpAny_bind (wpAny_onRaise ?_)
    show wpAny _ _ (Builtin.SmallTypes.nextOf (.ref (N + k)) >>= _) _ _ _
    have hik : hk.IsListIter (N + k) (a k) i := by have := hits k hlt; rwa [if_neg (Nat.lt_irrefl k)] at this
    have hlk : hk.IsList (a k) (xs k) := by
      obtain ⟨o, e, r⟩ := hl k hlt
      have e' : hp.get? (a k) = some o := e
      exact ⟨o, hkeep _ _ (.inl (ha k hlt)) (by have := ha k hlt; omega) (hs0.extBut _ _ (Nat.ne_of_lt (by have := ha k hlt; omega)) e'), r⟩
    refine wpAny_bind (wpAny_nextOf_list_item (s := ⟨hk, g, d, tk, os⟩) hik hlk (hx k hlt) fun h2 hi2 hs2 => wpAny_pure ?_)
    replace hs2 : Heap.SameBut (N + k) hk h2 := hs2
    have hto2 : h2.get? (N + n + 1) = some { cls := .type "tuple", data := .seq ws } := hs2.extBut _ _ (show (N + n + 1 : Nat) ≠ N + k by omega) hto
    refine wpAny_bind (wpAny_seqItems (s := ⟨h2, g, d, tk, os⟩) hto2 rfl ?_)
    refine wpAny_bind (setTup (s := ⟨h2, g, d, tk, os⟩) (by rw [hws]; exact hnz) hto2 fun h3 hto3 hs3 => ?_)
    replace hs3 : Heap.SameBut (N + n + 1) h2 h3 := hs3
    refine wpAny_bind (wpAny_letGo (wpAny_pure ?_))
    refine ⟨k + 1, h3, _, hlt, rfl, rfl, rfl, hs3.1.trans (hs2.1.trans hsz), fun j hj => ?_, hto3, by simpa using hws, fun j hj => ?_, fun c o hc hc1 e => ?_⟩
    · by_cases hjk : j = k
      · subst hjk; rw [if_pos (Nat.lt_succ_self j)]; exact hi2.extBut hs3.extBut (show (N + j : Nat) ≠ N + n + 1 by omega)
      · have q := hits j hj
        have e1 : (if j < k + 1 then i + 1 else i) = if j < k then i + 1 else i := by
          by_cases h : j < k
          · rw [if_pos h, if_pos (by omega)]
          · rw [if_neg h, if_neg (by omega)]
        rw [e1]
        exact (q.extBut hs2.extBut (show (N + j : Nat) ≠ N + k by omega)).extBut hs3.extBut (show (N + j : Nat) ≠ N + n + 1 by omega)
    · by_cases hjk : j = k
      · subst hjk; simp [hws, hlt]
      · rw [Array.getElem?_setIfInBounds_ne (Ne.symm hjk)]; exact hvals j (by omega)
    · exact hs3.extBut _ _ hc1 (hs2.extBut _ _ (show (c : Nat) ≠ N + k by omega) (hkeep c o hc hc1 e))
  · rintro b s' ⟨k, hk, ws, hkn, hr, rfl, rfl, hsz, hits, hto, hws, hvals, hkeep⟩
    have hkn' : k = n := by
      rcases Nat.lt_or_ge k n with h | h
      · have hll : k < ((itsL N n).toArray.toList.zipIdx).length := by simp [itsL]; exact h
        rw [List.drop_eq_getElem_cons hll] at hr; cases hr
      · omega
    subst hkn'
    have hwv : ws.toList = (List.range k).map v := by
      apply List.ext_getElem?
      intro j
      by_cases hj : j < k
      · rw [Array.getElem?_toList, hvals j hj]; simp [hj]
      · rw [List.getElem?_eq_none (by simp; omega), List.getElem?_eq_none (by simp; omega)]
    refine wpAny_bind (wpAny_seqItems (s := ⟨hk, g, d, tk, os⟩) hto rfl ?_)
    refine wpAny_bind (wpAny_newTuple ?_ (by simp; omega))
    rw [hwv]
    have hsz' : hk.objs.size = hp.objs.size := hsz
    have hzz : hk.get? (N + k + 2) = some (zipO .ellipsis f1 N k) := hkeep _ _ (.inr (by omega)) (by omega) hz0
    have hzlt : N + k + 2 < hk.objs.size := Heap.lt_size hzz
    show wpAny _ _ (Builtin.SmallTypes.ownedTupleHandOut (.ref (N + k + 2)) (.ref hk.objs.size) >>= _) _ _ ⟨hk.push { cls := .type "tuple", data := .seq ((List.range k).map v).toArray }, g, d, tk, os⟩
    refine wpAny_bind ?_
    unfold Builtin.SmallTypes.ownedTupleHandOut
    have hz6 : (hk.push { cls := .type "tuple", data := .seq ((List.range k).map v).toArray }).get? (N + k + 2) = some (zipO .ellipsis f1 N k) := Heap.get?_push_of_some _ hzz
    refine wpAny_bind (wpAny_setField_rec hz6 (by simp) fun h7 hz7 hs7 => ?_)
    replace hz7 : h7.get? (N + k + 2) = some (zipO (rawInt hk.objs.size) f1 N k) := hz7
    replace hs7 : Heap.SameBut (N + k + 2) (hk.push { cls := .type "tuple", data := .seq ((List.range k).map v).toArray }) h7 := hs7
    refine wpAny_setField_rec hz7 (by simp) fun h8 hz8 hs8 => ?_
    replace hz8 : h8.get? (N + k + 2) = some (zipO (rawInt hk.objs.size) false N k) := hz8
    replace hs8 : Heap.SameBut (N + k + 2) h7 h8 := hs8
    refine wpAny_pure ⟨_, rfl, ?_⟩
    show Q (.ref hk.objs.size) ⟨h8, g, d, tk, os⟩
    have up : ∀ (c : Nat) o, c ≠ N + k + 2 → hk.get? c = some o → h8.get? c = some o := fun c o c1 e => hs8.extBut _ _ c1 (hs7.extBut _ _ c1 (Heap.get?_push_of_some _ e))
    have hT8 : h8.get? hk.objs.size = some { cls := .type "tuple", data := .seq ((List.range k).map v).toArray } := hs8.extBut _ _ (Nat.ne_of_gt hzlt) (hs7.extBut _ _ (Nat.ne_of_gt hzlt) (Heap.get?_push_size _ rfl))
    have hs8' : h8.objs.size = hk.objs.size + 1 := by rw [hs8.1, hs7.1, Heap.size_push]
    rw [hsz'] at hz8 hT8 hs8' ⊢
    refine hQ _ ⟨⟨_, _, .inr ⟨_, rfl⟩, hz8⟩, ?_, ⟨ws, hws, ?_⟩, fun j hj => ?_⟩ hT8 hs8' fun c o hc e => ?_
    · exact up _ _ (by omega) (hkeep _ _ (.inr (by omega)) (by omega) (hs0.extBut _ _ (show (N + k : Nat) ≠ N + k + 2 by omega) hTI))
    · exact up _ _ (by omega) hto
    · have q := hits j hj
      rw [if_pos hj] at q
      exact q.at fun o e => up _ _ (by omega) e
    · exact up c o (by omega) (hkeep c o (by omega) (by omega) (hs0.extBut _ _ (show (c : Nat) ≠ N + k + 2 by omega) e))
  · have q := hit j hj
    rw [if_neg (Nat.not_lt_zero j)]
    exact Heap.IsListIter.extBut (h := hp) q hs0.extBut (show (N + j : Nat) ≠ N + n + 2 by omega)
end
end Sh

namespace Sh
open PySem L2
section
variable {prog : Program} {w : World} {A : Around} {E : Value → Shared → Prop} {s : Shared} {N n i : Nat} {a : Nat → Nat} {xs : Nat → Array Value} {v : Nat → Value}
theorem zn_item {Q : Option Value → Shared → Prop} (hn : 0 < n) (hnz : n ≤ sizeLine) (ha : ∀ j, j < n → a j < N) (S : ZnAt N n a i s.heap) (hl : ∀ j, j < n → s.heap.IsList (a j) (xs j)) (hx : ∀ j, j < n → (xs j)[i]? = some (v j))
    (hQ : ∀ h', ZnAt N n a (i + 1) h' → h'.get? s.heap.objs.size = some { cls := .type "tuple", data := .seq ((List.range n).map v).toArray } → h'.objs.size = s.heap.objs.size + 1 → (∀ (c : Nat) o, (c < N ∨ N + n + 2 < c) → s.heap.get? c = some o → h'.get? c = some o) → Q (some (.ref s.heap.objs.size)) { s with heap := h' }) :
    wpAny (model prog w) A (pyNext (.ref (N + n + 2))) Q E s := by
  obtain ⟨⟨f0, f1, hf, hz⟩, S'⟩ := id S
  have hTy : s.TypeIs (.ref (N + n + 2)) "zip" := ⟨_, hz, rfl⟩
  unfold pyNext
  refine wpAny_bind (wpAny_attempt (wpAny_callSpecial?_slot (name := Str.ofString "__next__") hTy F.slot_zip_next (wpAny_call_entry F.slot_zip_next hTy F.entry_zip_next ?_ (F.args_zip_next_1 _))))
  rcases hf with rfl | ⟨T, rfl⟩
  · exact zn_free hn hnz ha hz (.inl rfl) S hl hx fun h' a1 a2 a3 a4 => wpAny_pure (hQ h' a1 a2 a3 a4)
  · cases hT : s.heap.get? T with
    | none => exact zn_free hn hnz ha hz (.inr ⟨T, rfl, hT⟩) S hl hx fun h' a1 a2 a3 a4 => wpAny_pure (hQ h' a1 a2 a3 a4)
    | some oT => exact zn_held hn hnz ha hz hT S hl hx fun h' a1 a2 a3 a4 => wpAny_pure (hQ h' a1 a2 a3 a4)
theorem zn_next_end {Q : PySem.Fin → Shared → Prop} (hh : A.handled = none) (hn : 0 < n) (ha : ∀ j, j < n → a j < N) (S : ZnAt N n a i s.heap) (hl : s.heap.IsList (a 0) (xs 0)) (hx : (xs 0)[i]? = none)
    (hE : ∀ h' e, (∀ (c : Nat) o, (c < N ∨ N + n + 2 < c) → s.heap.get? c = some o → h'.get? c = some o) → (∃ o, h'.get? e = some o ∧ o.cls = .type "StopIteration") → E (.ref e) { s with heap := h' }) :
    wpAny (model prog w) A (Builtin.«zip.__next__» ⟨[.ref (N + n + 2)], []⟩) Q E s := by
  obtain ⟨⟨f0, f1, hf, hz⟩, hTI, ⟨vs, hvs, hTO⟩, hit⟩ := id S
  obtain ⟨hp, g, d, tk, os⟩ := s
  replace hz : hp.get? (N + n + 2) = some (zipO f0 f1 N n) := hz
  show wpAny _ _ (field (.ref (N + n + 2)) 2 >>= _) _ _ _
  refine wpAny_bind (wpAny_field hz rfl (x := .bool false) rfl ?_)
  show wpAny _ _ (field (.ref (N + n + 2)) 3 >>= _) _ _ _
  refine wpAny_bind (wpAny_field hz rfl (x := .ref (N + n)) rfl ?_)
  refine wpAny_bind (wpAny_seqItems hTI rfl ?_)
  have hne : ¬ ((itsL N n).toArray.isEmpty = true) := by simp [itsL]; omega
  show wpAny _ _ (if (itsL N n).toArray.isEmpty = true then _ else _) _ _ _
  rw [if_neg hne]
  show wpAny _ _ (Builtin.SmallTypes.ownedTupleIsFree (.ref (N + n + 2)) >>= _) _ _ _
  have first : itsL N n = .ref N :: (itsL N n).drop 1 := by have := itsL_drop (N := N) (n := n) (k := 0) hn; simpa using this
  have ha0 := ha 0 hn
  have h0 : hp.IsListIter N (a 0) i := by have := hit 0 hn; simpa using this
  have hl0 : hp.IsList (a 0) (xs 0) := hl
  have free : (f0 = .none ∨ ∃ T : Addr, f0 = rawInt T ∧ hp.get? T = none) → ∀ {Q' : Bool → Shared → Prop}, Q' true ⟨hp, g, d, tk, os⟩ → wpAny (model prog w) A (Builtin.SmallTypes.ownedTupleIsFree (.ref (N + n + 2))) Q' E ⟨hp, g, d, tk, os⟩ := fun hf' {Q'} q => by
    unfold Builtin.SmallTypes.ownedTupleIsFree
    refine wpAny_bind (wpAny_field hz rfl (x := f0) rfl ?_)
    rcases hf' with rfl | ⟨T, rfl, hT⟩
    · exact wpAny_pure q
    · show wpAny _ _ (loadIfAlive ((T : Int).toNat) >>= _) _ _ _
      rw [Int.toNat_natCast]
      refine wpAny_bind (dead_alive (s := ⟨hp, g, d, tk, os⟩) hT ?_)
      simp only [Option.isNone_none, if_true]
      exact wpAny_pure q
  have cases' : (f0 = .none ∨ ∃ T : Addr, f0 = rawInt T ∧ hp.get? T = none) ∨ ∃ (T : Addr) (oT : Obj), f0 = rawInt T ∧ hp.get? T = some oT := by
    rcases hf with h | ⟨T, h⟩
    · exact .inl (.inl h)
    · cases hT : hp.get? T with
      | none => exact .inl (.inr ⟨T, h, hT⟩)
      | some oT => exact .inr ⟨T, oT, h, hT⟩
  rcases cases' with hf' | ⟨T, oT, rfl, hT⟩
  · refine wpAny_bind (free hf' ?_)
    simp only [if_true]
    refine wpAny_bind (wpAny_rule ?_)
    refine wpAny_bind (wpAny_field hz rfl (x := .ref (N + n + 1)) rfl ?_)
    refine wpAny_bind (wpAny_setField_rec hz (by simp) fun g0 hz0 hs0 => ?_)
    replace hz0 : g0.get? (N + n + 2) = some (zipO .ellipsis f1 N n) := hz0
    replace hs0 : Heap.SameBut (N + n + 2) hp g0 := hs0
    refine wpAny_bind ?_
    rw [show (itsL N n).zipIdx = (Value.ref N, 0) :: ((itsL N n).drop 1).zipIdx 1 from (congrArg (fun l => l.zipIdx) first).trans rfl]
    simp only [List.forIn_cons]
    refine wpAny_bind (wpAny_bind (wpAny_onRaise ?_))
    show wpAny _ _ (Builtin.SmallTypes.nextOf (.ref N) >>= _) _ _ ⟨g0, g, d, tk, os⟩
    refine wpAny_bind (wpAny_nextOf_list_end (s := ⟨g0, g, d, tk, os⟩) hh (Heap.IsListIter.extBut (h := hp) h0 hs0.extBut (show (N : Nat) ≠ N + n + 2 by omega)) (Heap.IsList.extBut (h := hp) hl0 hs0.extBut (show (a 0 : Nat) ≠ N + n + 2 by omega)) hx fun q e hq he => ?_)
    replace hq : Heap.ExtBut N g0 q := hq
    obtain ⟨oe, hoe, hce⟩ := he
    replace hoe : q.get? e = some oe := hoe
    have hzq : q.get? (N + n + 2) = some (zipO .ellipsis f1 N n) := hq _ _ (show (N + n + 2 : Nat) ≠ N by omega) hz0
    have hez : e ≠ N + n + 2 := fun x => by subst x; rw [hzq] at hoe; cases hoe; simp [zipO] at hce
    refine wpAny_setField_rec (s := ⟨q, g, d, tk, os⟩) hzq (by simp) fun q' _ hq' => ?_
    replace hq' : Heap.SameBut (N + n + 2) q q' := hq'
    exact hE q' e (fun c o hc x => hq'.extBut _ _ (show (c : Nat) ≠ N + n + 2 by omega) (hq _ _ (show (c : Nat) ≠ N by omega) (hs0.extBut _ _ (show (c : Nat) ≠ N + n + 2 by omega) x))) ⟨oe, hq'.extBut _ _ hez hoe, hce⟩
  · refine wpAny_bind (wpAny_tupleHeld_zip (s := ⟨hp, g, d, tk, os⟩) hz hT fun h₁ hz₁ hs₁ => ?_)
    replace hs₁ : Heap.SameBut (N + n + 2) hp h₁ := hs₁
    simp only [Bool.false_eq_true, if_false]
    refine wpAny_bind ?_
    rw [← Array.forIn_toList, show (itsL N n).toArray.toList = Value.ref N :: (itsL N n).drop 1 from first]
    simp only [List.forIn_cons]
    refine wpAny_bind (wpAny_bind (wpAny_holding ?_))
    show wpAny _ _ (Builtin.SmallTypes.nextOf (.ref N) >>= _) _ _ _
    refine wpAny_bind (wpAny_nextOf_list_end (s := ⟨h₁, g, d, tk, os⟩) hh (Heap.IsListIter.extBut (h := hp) h0 hs₁.extBut (show (N : Nat) ≠ N + n + 2 by omega)) (Heap.IsList.extBut (h := hp) hl0 hs₁.extBut (show (a 0 : Nat) ≠ N + n + 2 by omega)) hx fun q e hq he => ?_)
    replace hq : Heap.ExtBut N h₁ q := hq
    exact hE q e (fun c o hc x => hq _ _ (show (c : Nat) ≠ N by omega) (hs₁.extBut _ _ (show (c : Nat) ≠ N + n + 2 by omega) x)) he
theorem zn_end {Q : Option Value → Shared → Prop} (hh : A.in1.handled = none) (hn : 0 < n) (ha : ∀ j, j < n → a j < N) (S : ZnAt N n a i s.heap) (hl : s.heap.IsList (a 0) (xs 0)) (hx : (xs 0)[i]? = none)
    (hQ : ∀ h', (∀ (c : Nat) o, (c < N ∨ N + n + 2 < c) → s.heap.get? c = some o → h'.get? c = some o) → Q none { s with heap := h' }) : wpAny (model prog w) A (pyNext (.ref (N + n + 2))) Q E s := by
  obtain ⟨⟨f0, f1, hf, hz⟩, _⟩ := id S
  have hTy : s.TypeIs (.ref (N + n + 2)) "zip" := ⟨_, hz, rfl⟩
  unfold pyNext
  refine wpAny_bind (wpAny_attempt (wpAny_callSpecial?_slot (name := Str.ofString "__next__") hTy F.slot_zip_next
    (wpAny_call_entry F.slot_zip_next hTy F.entry_zip_next (zn_next_end hh hn ha S hl hx fun h' e hk he => ?_) (F.args_zip_next_1 _))))
  obtain ⟨o, ho, hc⟩ := he
  refine wpAny_bind (wpAny_isInstance (T := "StopIteration") (b := true) ⟨o, ho, hc⟩ isSubtype_stop ?_)
  exact wpAny_pure (hQ _ hk)
end
end Sh

namespace Sh
open PySem L2
theorem zip_tc (args : List Value) : checkTypeCall "zip" ⟨args, []⟩ = pure () := by kernel_rfl
theorem zip_nc (x : Value) (args : List Value) : checkBuiltinCall "zip.__new__" ⟨.type "zip" :: x :: args, []⟩ = pure () := by kernel_rfl
theorem zip_oi (o : Value) (x : Value) (args : List Value) : argsOk "object.__init__" ⟨o :: x :: args, []⟩ := by
  unfold argsOk; rw [signature?_of (id := "object.__init__") (n := ['_', '_', 't', 'i', 'n', 'i', '_', '_']) (o := ['t', 'c', 'e', 'j', 'b', 'o']) (by kernel_rfl) F.owner_object]; kernel_rfl
theorem zip_kp {M : Model} {h : Heap} : PySem.W.Looks M h (keeperOf (.type "zip")) Keeper.machine := fun A Q E s _ q => wpAny_pure q
def lsL (n : Nat) (a : Nat → Nat) : List Value := (List.range n).map fun j => Value.ref (a j)
section
variable {n : Nat} {a : Nat → Nat} {xs : Nat → Array Value}
theorem lsL_drop {k : Nat} (hk : k < n) : (lsL n a).drop k = .ref (a k) :: (lsL n a).drop (k + 1) := by
  have hl : k < (lsL n a).length := by simp [lsL]; exact hk
  rw [List.drop_eq_getElem_cons hl]
  simp [lsL]
theorem zip_new (hn : 0 < n) (hnz : n ≤ sizeLine) : Meets (Builtin.«zip.__new__» ⟨.type "zip" :: lsL n a, []⟩) (fun _ R s => (∀ j, j < n → s.heap.IsList (a j) (xs j)) ∧
      ∀ h', ZnAt s.heap.objs.size n a 0 h' → (∀ c o, s.heap.get? c = some o → h'.get? c = some o) → R (.ok (.ret (.ref (s.heap.objs.size + n + 2)))) { s with heap := h' }) :=
  .of_wp fun prog w A R s h => by
    obtain ⟨hp, g, d, tk, os⟩ := s; obtain ⟨hl, h⟩ := h
    have hsub := sub_zip
    show wpAny _ _ (Builtin.SmallTypes.newClass "zip" ⟨.type "zip" :: lsL n a, []⟩ >>= _) _ _ _
    refine wpAny_bind ?_
    unfold Builtin.SmallTypes.newClass
    refine wpAny_bind (wpAny_pure ?_)
    simp only [Bool.not_true, Bool.false_eq_true, if_false]
    refine wpAny_bind (wpAny_of_eq hsub (wpAny_pure ?_))
    simp only [Bool.not_true, Bool.false_eq_true, if_false]
    first
      | rw [if_neg (show ¬ (([] : List (Str × Value)).length > 1) by decide)]
      | (refine wpAny_pure ?_; rw [if_neg (show ¬ (([] : List (Str × Value)).length > 1) by decide)])
    show wpAny _ _ (Builtin.SmallTypes.iterAll (lsL n a) >>= _) _ _ _
    refine wpAny_bind ?_
    unfold Builtin.SmallTypes.iterAll
    refine wpAny_bind ?_
    refine wpAny_forIn_list _ (fun rest b s' => ∃ k hk, k ≤ n ∧ rest = (lsL n a).drop k ∧ b = (itsL hp.objs.size k).toArray ∧ s' = (⟨hk, g, d, tk, os⟩ : Shared) ∧ hk.objs.size = hp.objs.size + k ∧ (∀ j, j < k → hk.IsListIter (hp.objs.size + j) (a j) 0) ∧ (∀ c o, hp.get? c = some o → hk.get? c = some o)) _ ?_ ?_ _ _ ⟨0, hp, Nat.zero_le _, rfl, rfl, rfl, rfl, fun j hj => absurd hj (Nat.not_lt_zero j), fun c o e => e⟩
    · rintro x rest b s' ⟨k, hk, hkn, hr, rfl, rfl, hsz, hits, hkeep⟩
      have hlt : k < n := by
        rcases Nat.lt_or_ge k n with h | h
        · exact h
        · rw [List.drop_eq_nil_of_le (by simp [lsL]; exact h)] at hr; cases hr
      rw [lsL_drop hlt] at hr
      cases hr
      have hlk : hk.IsList (a k) (xs k) := by
        obtain ⟨o, e, r⟩ := hl k hlt
        exact ⟨o, hkeep _ _ e, r⟩
      refine wpAny_bind (wpAny_holding (wpAny_pyIter_list (s := ⟨hk, g, d, tk, os⟩) hlk (wpAny_pure ?_)))
      refine ⟨k + 1, _, hlt, rfl, ?_, rfl, ?_, fun j hj => ?_, fun c o e => Heap.get?_push_of_some _ (hkeep c o e)⟩
      · show ((itsL hp.objs.size k).toArray.push (.ref hk.objs.size)) = _
        rw [hsz]
        simp [itsL, List.range_succ]
      · rw [Heap.size_push, hsz]; rfl
      · by_cases hjk : j = k
        · subst hjk
          have e : (hk.push { cls := .type "list_iterator", data := .fields #[.ref (a j), .int 0 0] }).get? (hp.objs.size + j) = some { cls := .type "list_iterator", data := .fields #[.ref (a j), .int 0 0] } := by
            rw [← hsz]
            exact Heap.get?_push_size _ rfl
          exact ⟨_, e, rfl, rfl⟩
        · exact (hits j (by omega)).at fun o e => Heap.get?_push_of_some _ e
    · rintro b s' ⟨k, hk, hkn, hr, rfl, rfl, hsz, hits, hkeep⟩
      have hkn' : k = n := by
        rcases Nat.lt_or_ge k n with h | h
        · rw [lsL_drop h] at hr; cases hr
        · omega
      subst hkn'
      refine wpAny_pure ?_
      have e1 : (itsL hp.objs.size k).toArray.toList = itsL hp.objs.size k := by simp
      rw [e1]
      have hlen : (itsL hp.objs.size k).length = k := by simp [itsL]
      refine wpAny_bind (wpAny_newTuple ?_ (by rw [hlen]; exact hnz))
      refine wpAny_bind (wpAny_newTuple ?_ (by simp [hlen]; exact hnz))
      have z0 : (hk.push { cls := .type "tuple", data := .seq (itsL hp.objs.size k).toArray }).objs.size = hp.objs.size + k + 1 := by rw [Heap.size_push, hsz]
      have z1 : ((hk.push { cls := .type "tuple", data := .seq (itsL hp.objs.size k).toArray }).push { cls := .type "tuple", data := .seq ((itsL hp.objs.size k).map fun _ => Value.none).toArray }).objs.size = hp.objs.size + k + 2 := by rw [Heap.size_push, z0]
      show wpAny _ _ (newObj (.type "zip") (.fields #[.none, .bool false, .bool false, .ref hk.objs.size, .ref (hk.push { cls := .type "tuple", data := .seq (itsL hp.objs.size k).toArray }).objs.size]) >>= _) _ _ _
      refine wpAny_bind (wpAny_newObj_type ?_)
      refine wpAny_pure ⟨_, rfl, ?_⟩
      rw [z1, z0, hsz]
      refine h _ ⟨⟨.none, false, .inl rfl, ?_⟩, ?_, ⟨((itsL hp.objs.size k).map fun _ => Value.none).toArray, by simp [hlen], ?_⟩, fun j hj => (hits j hj).at fun o e => Heap.get?_push_of_some _ (Heap.get?_push_of_some _ (Heap.get?_push_of_some _ e))⟩ fun c o e => Heap.get?_push_of_some _ (Heap.get?_push_of_some _ (Heap.get?_push_of_some _ (hkeep c o e)))
      · show Heap.get? _ (hp.objs.size + k + 2) = _
        rw [← z1]
        exact Heap.get?_push_size _ rfl
      · refine Heap.get?_push_of_some _ (Heap.get?_push_of_some _ ?_)
        show Heap.get? _ (hp.objs.size + k) = _
        rw [← hsz]
        exact Heap.get?_push_size _ rfl
      · refine Heap.get?_push_of_some _ ?_
        show Heap.get? _ (hp.objs.size + k + 1) = _
        rw [← z0]
        exact Heap.get?_push_size _ rfl
theorem call_zipN {prog : Program} {w : World} {A : Around} {E : Value → Shared → Prop} {s : Shared} {Q : Value → Shared → Prop} (hn : 0 < n) (hnz : n ≤ sizeLine) (hl : ∀ j, j < n → s.heap.IsList (a j) (xs j))
    (h : ∀ h', ZnAt s.heap.objs.size n a 0 h' → (∀ c o, s.heap.get? c = some o → h'.get? c = some o) → Q (.ref (s.heap.objs.size + n + 2)) { s with heap := h' }) : wpAny (model prog w) A (call (.type "zip") (lsL n a)) Q E s := by
  have e : lsL n a = .ref (a 0) :: (lsL n a).drop 1 := by have := lsL_drop (a := a) (k := 0) hn; simpa using this
  refine callType_new F.called_zip (by decide) (zip_tc _) (by rw [e]; exact zip_nc _ _) (fun o => by rw [e]; exact zip_oi o _ _) F.entry_zip_new (zip_new hn hnz) ⟨hl, fun h' Z k => ?_⟩
  obtain ⟨⟨f0, f1, _, hz⟩, _⟩ := id Z
  exact ⟨⟨_, hz, rfl⟩, h h' Z k⟩
end
/-! ### the turns -/
def ItZn (K : PySem.W.Frag) (aL : List Addr) : It :=
  ⟨fun i H => ∀ b ∈ aL, ∃ xs x, SqL K H b xs ∧ xs[i]? = some x,
    fun i H v H' => ∃ T vs, v = .ref T ∧ H T = none ∧ H' = upd H T (.tup vs) ∧ vs.length = aL.length ∧ ∀ (j : Nat) b, aL[j]? = some b → ∀ xs, SqL K H b xs → xs[i]? = vs[j]?,
    fun i H => ∀ b ∈ aL, ∃ xs, SqL K H b xs ∧ xs.length = i⟩
abbrev atA (aL : List Addr) : Nat → Nat := fun j => aL.getD j 0
theorem atA_mem {aL : List Addr} {j : Nat} (h : j < aL.length) : aL[j]? = some (atA aL j) ∧ atA aL j ∈ aL := by
  have e : aL[j]? = some aL[j] := List.getElem?_eq_getElem h
  have z : atA aL j = aL[j] := by simp [atA, List.getD, e]
  exact ⟨by rw [e, z], by rw [z]; exact List.getElem_mem h⟩
theorem pick_fn {α : Type} [Inhabited α] {n : Nat} {P : Nat → α → Prop} (h : ∀ j, j < n → ∃ x, P j x) : ∃ f : Nat → α, ∀ j, j < n → P j (f j) :=
  ⟨fun j => open Classical in if hj : j < n then (h j hj).choose else default, fun j hj => by simp only [dif_pos hj]; exact (h j hj).choose_spec⟩
instance : Inhabited V := ⟨.non⟩
theorem vals_fn : ∀ (n : Nat) {f : Nat → V} {g : Nat → Value}, (∀ j, j < n → RelV (f j) (g j)) → Vals ((List.range n).map f) ((List.range n).map g)
  | 0, _, _, _ => .nil
  | n + 1, f, g, h => by
    rw [List.range_succ, List.map_append, List.map_append]
    exact (vals_fn n fun j hj => h j (by omega)).append (.cons (h n (by omega)) .nil)
theorem mem_fp {N m c : Nat} : c ∈ (List.range m).map (N + ·) ↔ N ≤ c ∧ c < N + m := by
  simp only [List.mem_map, List.mem_range]
  constructor
  · rintro ⟨j, hj, rfl⟩; omega
  · rintro ⟨h1, h2⟩; exact ⟨c - N, by omega, by omega⟩
theorem turn_Zn {P : Program} {w : World} {K : PySem.W.Frag} {x : Str} {xp : Pos} {aL : List Addr} {N : Nat} (hn : 0 < aL.length) (hnz : aL.length ≤ sizeLine) (ha : ∀ j, j < aL.length → atA aL j < N) :
    Turn P w K (.Name x xp) (ItZn K aL) ((List.range (aL.length + 3)).map (N + ·)) (N + aL.length + 2) (ZnAt N aL.length (atA aL)) where
  mem := mem_fp.mpr ⟨by omega, by omega⟩
  obj := fun i h st c hc => by
    obtain ⟨⟨f0, f1, _, hz⟩, hTI, ⟨vs, _, hTO⟩, hit⟩ := st
    obtain ⟨g1, g2⟩ := mem_fp.mp hc
    obtain ⟨j, rfl⟩ : ∃ j : Nat, c = N + j := ⟨c - N, (Nat.add_sub_cancel' g1).symm⟩
    have hj : j < aL.length + 3 := Nat.lt_of_add_lt_add_left g2
    clear g1 g2
    by_cases h1 : j < aL.length
    · obtain ⟨o, e, _, dd⟩ := hit j h1
      exact ⟨o, e, fun v q => by rw [dd] at q; cases q⟩
    · by_cases h2 : j = aL.length
      · subst h2; exact ⟨_, hTI, fun v q => nomatch q⟩
      · by_cases h3 : j = aL.length + 1
        · subst h3; exact ⟨_, hTO, fun v q => nomatch q⟩
        · have : j = aL.length + 2 := by omega
          subst this; exact ⟨_, hz, fun v q => nomatch q⟩
  keep := fun i h h' st k => by
    obtain ⟨⟨f0, f1, hf, hz⟩, hTI, ⟨vs, hvs, hTO⟩, hit⟩ := st
    have km : ∀ j, j < aL.length + 3 → ∀ o, h.get? (N + j) = some o → h'.get? (N + j) = some o := fun j hj o e => k (N + j) (mem_fp.mpr ⟨by omega, by omega⟩) o e
    exact ⟨⟨f0, f1, hf, km (aL.length + 2) (by omega) _ hz⟩, km aL.length (by omega) _ hTI, ⟨vs, hvs, km (aL.length + 1) (by omega) _ hTO⟩, fun j hj => (hit j hj).at fun o e => km j (by omega) o e⟩
  item := by
    intro X hP hw hK hc i pins s σ H E I hf st hg
    subst hP hw hK
    have data : ∀ j, j < aL.length → ∃ p : List V × List Value × V × Value, SqL X.K H (atA aL j) p.1 ∧ p.1[i]? = some p.2.2.1 ∧ RelV p.2.2.1 p.2.2.2 ∧ s.heap.IsList (atA aL j) p.2.1.toArray ∧ p.2.1.toArray[i]? = some p.2.2.2 := fun j hj => by
      obtain ⟨xs, x, hq, hx⟩ := hg _ (atA_mem hj).2
      obtain ⟨its, rv, pl, _⟩ := I.list hq
      obtain ⟨u, eu, ru⟩ := rv.get hx
      exact ⟨(xs, its, x, u), hq, hx, ru, pl.isList, by simpa using eu⟩
    obtain ⟨p, hp⟩ := pick_fn data
    refine wpAny_mono (zn_item (xs := fun j => (p j).2.1.toArray) (v := fun j => (p j).2.2.2) hn hnz ha st (fun j hj => (hp j hj).2.2.2.1) (fun j hj => (hp j hj).2.2.2.2) (Q := fun r s1 => ∃ h', r = some (.ref s.heap.objs.size) ∧ s1 = { s with heap := h' } ∧ ZnAt N aL.length (atA aL) (i + 1) h' ∧ h'.get? s.heap.objs.size = some { cls := .type "tuple", data := .seq ((List.range aL.length).map fun j => (p j).2.2.2).toArray } ∧ (∀ (c : Nat) o, (c < N ∨ N + aL.length + 2 < c) → s.heap.get? c = some o → h'.get? c = some o)) fun h' a1 a2 a3 a4 => ⟨h', rfl, rfl, a1, a2, a4⟩) (fun r s1 ⟨h', er, es, Z, hT, hk⟩ => ?_) fun _ _ z => z
    subst er es
    refine ⟨_, rfl, ?_⟩
    show wpAny _ _ (pure ()) _ _ _
    refine wpAny_pure ?_
    have new : ObjOk X.prog X.w (upd H s.heap.objs.size (.tup ((List.range aL.length).map fun j => (p j).2.2.1))) h' s.heap.objs.size (.tup ((List.range aL.length).map fun j => (p j).2.2.1)) :=
      ⟨by simpa using hnz, (List.range aL.length).map fun j => (p j).2.2.2, vals_fn _ fun j hj => (hp j hj).2.2.1, ⟨_, hT, rfl, 0, rfl⟩⟩
    have I1 := I.turnedNew (t' := s.toks) (h' := h') (ch := (List.range (aL.length + 3)).map (N + ·)) (fun c o hb q => hk c o (by
        rcases Nat.lt_or_ge c N with h | h
        · exact .inl h
        · exact .inr (Nat.lt_of_not_le fun hle => hb (mem_fp.mpr ⟨h, Nat.lt_succ_of_le hle⟩))) q) hf (Nat.le_refl _) new
    refine ⟨.ref s.heap.objs.size, _, I1, rfl, ⟨_, _, rfl, I.hok.fresh (Nat.le_refl _), rfl, by simp, fun j b eb xs hq => ?_⟩, Z, fun c hcm => ?_⟩
    · have hj : j < aL.length := (List.getElem?_eq_some_iff.mp eb).1
      have hb : b = atA aL j := by have := (atA_mem hj).1; rw [eb] at this; exact Option.some.inj this
      subst hb
      rw [I.list_inj hq (hp j hj).1, (hp j hj).2.1]
      simp [hj]
    · have hlt : c < s.heap.objs.size := by
        obtain ⟨⟨f0, f1, _, hz⟩, _⟩ := id st
        have hzl := Heap.lt_size hz
        exact Nat.lt_of_le_of_lt (Nat.le_of_lt_succ (mem_fp.mp hcm).2) hzl
      rw [upd_ne (Nat.ne_of_lt hlt)]
      exact (hf c hcm).1
  done := by
    intro X hP hw hK hc i pins s σ H E I hf st hg
    subst hP hw hK
    have hh : X.A.in1.handled = none := I.ok.hd hc
    obtain ⟨xs, hq, hl⟩ := hg _ (atA_mem (j := 0) hn).2
    obtain ⟨its, rv, pl, _⟩ := I.list hq
    refine zn_end (xs := fun _ => its.toArray) hh hn ha st pl.isList (by simp; rw [← rv.length, hl]; exact Nat.le_refl _) fun h' hk => ⟨rfl, ?_⟩
    exact I.turnedL (t' := s.toks) (ch := (List.range (aL.length + 3)).map (N + ·)) (fun c o hb q => hk c o (by
        rcases Nat.lt_or_ge c N with h | h
        · exact .inl h
        · exact .inr (Nat.lt_of_not_le fun hle => hb (mem_fp.mpr ⟨h, Nat.lt_succ_of_le hle⟩))) q) hf
  self := fun A i s Q E st h => by
    obtain ⟨⟨f0, f1, _, hz⟩, _⟩ := id st
    have hT : s.TypeIs (.ref (N + aL.length + 2)) "zip" := ⟨_, hz, rfl⟩
    refine wpAny_pyIter_slot hT F.slot_zip_iter (wpAny_call_entry F.slot_zip_iter hT F.entry_zip_iter ?_ (F.args_zip_iter_1 _))
    show wpAny _ _ (ret (.ref (N + aL.length + 2))) _ _ s
    exact wpAny_pure ⟨_, rfl, "zip", _, hT, F.slot_zip_next.lookup, h⟩
end Sh

namespace Sh
open PySem L2
theorem vals_refs : ∀ {aL : List Addr} {us : List Value}, Vals (aL.map V.ref) us → us = aL.map Value.ref
  | [], _, .nil => rfl
  | a :: l, _, .cons r t => by
    have e := vals_refs (aL := l) t
    rw [e]
    obtain rfl := (show _ = Value.ref a from r)
    rfl
theorem lsL_atA (aL : List Addr) : lsL aL.length (atA aL) = aL.map Value.ref := by
  apply List.ext_getElem?
  intro j
  by_cases hj : j < aL.length
  · simp [lsL, hj, (atA_mem hj).1]
  · rw [List.getElem?_eq_none (by simp [lsL]; omega), List.getElem?_eq_none (by simp; omega)]
section
variable {X : Cx} {W : WX}
open PyProof.Rows PySem.Spec in
theorem pi_zipS {e : Expr} {te : TE} {x : Str} {xp sp_ p pos : Pos} (hg : Gl X "zip") (hm : X.mg "zip" = none) (he : PE X e te) (hst : starEach [.Starred e sp_] X.env = [(true, eval e X.env)] := by rfl) :
    PI X (.Name x xp) (.Call (.Name "zip" p) [.Starred e sp_] [] pos) (fun σ H R => te σ H fun y H1 => ∃ a aL, y = .ref a ∧ SqL X.K H1 a (aL.map V.ref) ∧ 0 < aL.length ∧ (∀ b ∈ aL, ∃ xs, SqL X.K H1 b xs) ∧ R (ItZn X.K aL) H1) := by
  refine ⟨fun pins s σ H R I h => ?_⟩
  refine PyProof.Rows.Call_ (ld_blt I hg hm PyProof.Rows.boot_zip ?_)
  rw [hst]
  refine PySem.W.ks_call (P := fun _ => True) rfl (fun h _ => ⟨.machine, .inr (.inl rfl), zip_kp⟩) (PySem.W.ks_lone (thn (he.run pins s σ H _ I h) fun v s1 ⟨y, H1, I1, ry, a, aL, ey, hq, hn, hl, q⟩ => ?_))
  subst ey
  obtain rfl : v = Value.ref a := ry
  refine StX.star_lst I1 hq fun us s2 I2 rv => ⟨trivial, ?_⟩
  have hu := vals_refs rv
  subst hu
  obtain ⟨_, _, _, hz⟩ := I2.list hq
  have hnz : aL.length ≤ sizeLine := by simpa using hz
  have data : ∀ j, j < aL.length → ∃ its : Array Value, s2.heap.IsList (atA aL j) its ∧ atA aL j < s2.heap.objs.size := fun j hj => by
    obtain ⟨xs, hx⟩ := hl _ (atA_mem hj).2
    obtain ⟨its, _, pl, _⟩ := I2.list hx
    exact ⟨_, pl.isList, pl.lt⟩
  obtain ⟨f, hf⟩ := pick_fn data
  have ha : ∀ j, j < aL.length → atA aL j < s2.heap.objs.size := fun j hj => (hf j hj).2
  show wpAny _ _ (call (.type "zip") (aL.map Value.ref)) _ _ _
  rw [← lsL_atA]
  refine call_zipN (xs := f) hn hnz (fun j hj => (hf j hj).1) fun h' Z hk => ?_
  have T := turn_Zn (P := X.prog) (w := X.w) (K := X.K) (x := x) (xp := xp) hn hnz ha
  refine T.self X.A 0 _ _ _ Z ?_
  refine ⟨_, _, _, _, H1, rfl, I2.kept (t' := s2.toks) hk, T, Z, fun c hc => ?_, q⟩
  have hle : s2.heap.objs.size ≤ c := (mem_fp.mp hc).1
  exact I2.fpOk hle (I2.hok.fresh hle)
end
/-! ### the meaning -/
/-- numbers and contents of the lists -/
def colsD (M : Store) : List D → Option (List (Nat × List D))
  | [] => some []
  | .ref k :: r => match lstM M k, colsD M r with
    | some c, some cs => some ((k, c) :: cs)
    | _, _ => none
  | _ :: _ => none
def transD (cs : List (Nat × List D)) (m : Nat) : List D := (List.range m).map fun i => .tup (cs.map fun p => p.2.getD i .non)
def iZipS (f : EF) : IF := fun env M => (f env M).bind fun d M1 => match d with
  | .ref n => match lstM M1 n with
    | some l => match colsD M1 l with
      | some ((k, c) :: cs) => if ((k, c) :: cs).all (fun p => p.2.length == c.length) = true then .ok ⟨transD ((k, c) :: cs) c.length, fun M => ((k, c) :: cs).all fun p => decide (lstM M p.1 = some p.2)⟩ M1 else .bad
      | _ => .bad
    | none => .bad
  | _ => .bad
section
variable {G : Gd} {ι : List Addr} {H : Hp} {M : Store}
/-- where the lists stand -/
inductive ColsAt (ι : List Addr) : List (Nat × List D) → List Addr → Prop
  | nil : ColsAt ι [] []
  | cons {k : Nat} {c : List D} {a : Addr} {cs : List (Nat × List D)} {aL : List Addr} : ι[k]? = some a → ColsAt ι cs aL → ColsAt ι ((k, c) :: cs) (a :: aL)
theorem ColsAt.len {cs : List (Nat × List D)} {aL : List Addr} (h : ColsAt ι cs aL) : cs.length = aL.length := by
  induction h with
  | nil => rfl
  | cons _ _ ih => simp [ih]
theorem cols_ok (A : Abs G.K ι H G.P G.w M) : ∀ {l : List D} {cs : List (Nat × List D)} {vs : List V}, colsD M l = some cs → Reps G.K ι H l vs → ∃ aL : List Addr, vs = aL.map V.ref ∧ ColsAt ι cs aL ∧ ∀ b ∈ aL, ∃ xs, SqL G.K H b xs
  | [], cs, vs, e, r => by
    simp [colsD] at e
    simp only [Reps] at r
    subst e r
    exact ⟨[], rfl, .nil, fun b m => by cases m⟩
  | d :: l, cs, vs, e, r => by
    cases d with
    | ref k =>
      simp only [colsD] at e
      cases e1 : lstM M k with
      | none => rw [e1] at e; cases e
      | some c =>
        cases e2 : colsD M l with
        | none => rw [e1, e2] at e; cases e
        | some cs' =>
          rw [e1, e2] at e
          cases e
          simp only [Reps] at r
          obtain ⟨v, vs, rfl, r1, r2⟩ := r
          simp only [Rep] at r1
          obtain ⟨a, ea, rfl⟩ := r1
          obtain ⟨aL, rfl, h1, h2⟩ := cols_ok A e2 r2
          obtain ⟨xs, hx, _⟩ := lst_get A ea e1
          exact ⟨a :: aL, rfl, .cons ea h1, fun b m => by
            rcases List.mem_cons.mp m with rfl | m
            · exact ⟨xs, hx⟩
            · exact h2 b m⟩
    | _ => simp [colsD] at e
theorem cols_now {ι0 : List Addr} {H0 : Hp} (x : Ext G.K ι0 H0 ι H) (A : Abs G.K ι H G.P G.w M) : ∀ {cs : List (Nat × List D)} {aL : List Addr}, ColsAt ι0 cs aL → (cs.all fun p => decide (lstM M p.1 = some p.2)) = true →
    ∃ vss : List (List V), Paired (fun (b : Addr) (vs : List V) => SqL G.K H b vs) aL vss ∧ Paired (fun (p : Nat × List D) (vs : List V) => Reps G.K ι H p.2 vs) cs vss := by
  intro cs aL h
  induction h with
  | nil => exact fun _ => ⟨[], .nil, .nil⟩
  | cons ea _ ih =>
    intro g
    simp only [List.all_cons, Bool.and_eq_true, decide_eq_true_eq] at g
    obtain ⟨vss, h1, h2⟩ := ih g.2
    obtain ⟨vs, q, r⟩ := lst_get A (x.ix _ _ ea) g.1
    exact ⟨vs :: vss, .cons q h1, .cons r h2⟩
theorem reps_at {i : Nat} : ∀ {cs : List (Nat × List D)} {vss : List (List V)} {us : List V}, Paired (fun (p : Nat × List D) (vs : List V) => Reps G.K ι H p.2 vs) cs vss → (∀ p ∈ cs, i < p.2.length) → us.length = vss.length → (∀ (j : Nat) (vs : List V), vss[j]? = some vs → vs[i]? = us[j]?) → Reps G.K ι H (cs.map fun p => p.2.getD i .non) us
  | _, _, us, .nil, _, hl, _ => by
    have : us = [] := List.length_eq_zero_iff.mp hl
    subst this
    simp only [List.map_nil, Reps]
  | p :: cs, vs :: vss, us, .cons r t, hi, hl, hu => by
    cases us with
    | nil => simp at hl
    | cons u us =>
      have h0 := hu 0 vs rfl
      simp only [List.getElem?_cons_zero] at h0
      have hp := hi p List.mem_cons_self
      have e : p.2[i]? = some (p.2.getD i .non) := by simp [List.getD, List.getElem?_eq_getElem hp]
      obtain ⟨v, e1, r1⟩ := r.get e
      rw [h0] at e1
      cases e1
      simp only [List.map_cons, Reps]
      exact ⟨u, us, rfl, r1, reps_at t (fun q m => hi q (List.mem_cons_of_mem _ m)) (by simpa using hl) fun j ws e => by simpa using hu (j + 1) ws (by simpa using e)⟩
theorem paired_get {α β : Type} {F : α → β → Prop} : ∀ {l₁ : List α} {l₂ : List β}, Paired F l₁ l₂ → ∀ (j : Nat) b, l₂[j]? = some b → ∃ a, l₁[j]? = some a ∧ F a b
  | _, _, .nil, j, b, e => by simp at e
  | a :: l, b :: r, .cons f t, 0, c, e => by simp at e; subst e; exact ⟨a, rfl, f⟩
  | a :: l, b :: r, .cons f t, j + 1, c, e => by simpa using paired_get t j c (by simpa using e)
theorem paired_mem2 {α β : Type} {F : α → β → Prop} : ∀ {l₁ : List α} {l₂ : List β}, Paired F l₁ l₂ → ∀ a ∈ l₁, ∃ b ∈ l₂, F a b
  | _, _, .nil, a, m => by cases m
  | a :: l, b :: r, .cons f t, c, m => by
    rcases List.mem_cons.mp m with rfl | m
    · exact ⟨b, List.mem_cons_self, f⟩
    · obtain ⟨x, h1, h2⟩ := paired_mem2 t c m
      exact ⟨x, List.mem_cons_of_mem _ h1, h2⟩
theorem lens_ok {cs : List (Nat × List D)} {vss : List (List V)} {m : Nat} (h : Paired (fun (p : Nat × List D) (vs : List V) => Reps G.K ι H p.2 vs) cs vss) (hm : ∀ p ∈ cs, p.2.length = m) : ∀ vs ∈ vss, vs.length = m := by
  induction h with
  | nil => intro vs z; cases z
  | cons r t ih =>
    intro vs z
    rcases List.mem_cons.mp z with rfl | z
    · rw [← reps_len r]; exact hm _ List.mem_cons_self
    · exact ih (fun p q => hm p (List.mem_cons_of_mem _ q)) vs z
theorem sim_zipS {ι0 : List Addr} {H0 : Hp} {cs : List (Nat × List D)} {aL : List Addr} {m : Nat} (h : ColsAt ι0 cs aL) (hm : ∀ p ∈ cs, p.2.length = m) : SimI G ι0 H0 (ItZn G.K aL) ⟨transD cs m, fun M => cs.all fun p => decide (lstM M p.1 = some p.2)⟩ := fun i ι H M x A gg => by
  obtain ⟨vss, h1, h2⟩ := cols_now x A h gg
  have lens := lens_ok h2 hm
  refine ⟨fun d e => ?_, fun e b hb => ?_⟩
  · have hi : i < m := by
      have := (List.getElem?_eq_some_iff.mp e).1
      simpa [transD] using this
    have ed : d = .tup (cs.map fun p => p.2.getD i .non) := by
      simp only [transD, List.getElem?_map, List.getElem?_range hi, Option.map_some, Option.some.injEq] at e
      exact e.symm
    subst ed
    refine ⟨fun b hb => ?_, fun v H' ⟨T, us, ev, hT, eH, hl, hu⟩ => ?_⟩
    · obtain ⟨vs, hv, q⟩ := paired_mem2 h1 b hb
      have hlv := lens vs hv
      exact ⟨vs, vs[i]'(by omega), q, List.getElem?_eq_getElem (by omega)⟩
    · subst ev eH
      have x3 : Ext G.K ι H ι (upd H T (.tup us)) := by have := ext_new (K := G.K) (ι := ι) (u := .tup us) hT []; simpa using this
      refine ⟨step_tmp hT, A.tmp hT, rep_tup (SqT.of upd_same) ((reps_at h2 (fun p hp => by rw [hm p hp]; exact hi) (by rw [hl, ← Paired.length h1]) fun j vs e => ?_).ext x3)⟩
      obtain ⟨b, eb, q⟩ := paired_get h1 j vs e
      exact hu j b eb vs q
  · obtain ⟨vs, hv, q⟩ := paired_mem2 h1 b hb
    exact ⟨vs, q, by rw [lens vs hv, e]; simp [transD]⟩
end
section
variable {X : Cx} {W : WX}
theorem si_zipS {e : Expr} {f : EF} {x : Str} {xp sp_ p pos : Pos} (hg : Gl X "zip") (hm : X.mg "zip" = none) (he : SE X W e f) (hst : starEach [.Starred e sp_] X.env = [(true, eval e X.env)] := by rfl) : SI X W (.Name x xp) (.Call (.Name "zip" p) [.Starred e sp_] [] pos) (iZipS f) :=
  (pi_zipS hg hm he hst).imp fun σ H R h => by
    obtain ⟨ι, M, env, A, E, h⟩ := h
    refine tE.mono (tE.seq A E h) fun y H1 ⟨ι1, M1, d1, s1, A1, E1, r1, _, h1⟩ => ?_
    cases d1 with
    | ref n =>
      simp only at h1
      cases e1 : lstM M1 n with
      | none => simp only [e1] at h1; exact h1.elim
      | some l =>
        simp only [e1] at h1
        cases e2 : colsD M1 l with
        | none => simp only [e2] at h1; exact h1.elim
        | some cs =>
          simp only [e2] at h1
          cases cs with
          | nil => exact h1.elim
          | cons p cs =>
            obtain ⟨k, c⟩ := p
            simp only at h1
            split at h1
            · rename_i hc
              simp only [Rep] at r1
              obtain ⟨a, ea, rfl⟩ := r1
              obtain ⟨vs, hq, rr⟩ := lst_get A1 ea e1
              obtain ⟨aL, rfl, hA, hl⟩ := cols_ok (G := cgd X) A1 e2 rr
              refine ⟨a, aL, rfl, hq, by rw [← hA.len]; simp, hl, h1 ι1 H1 _ Step.refl A1 (sim_zipS hA fun q m => ?_)⟩
              have := List.all_eq_true.mp hc q m
              simpa using this
            · exact h1.elim
    | _ => exact h1.elim
end
end Sh

namespace Sh
open PySem L2
theorem as_none {gens : List Comprehension} {k : Nat} (e : gens[k]? = none) : ∀ g, gens[k]? = some g → g.is_async = 0 := fun g h => by rw [e] at h; cases h
theorem as_some {gens : List Comprehension} {k : Nat} {g0 : Comprehension} (e : gens[k]? = some g0) (z : g0.is_async = 0) : ∀ g, gens[k]? = some g → g.is_async = 0 := fun g h => by rw [e] at h; cases h; exact z
end Sh

namespace Sh
open PySem L2
/-! ### max, min of a tuple of ints; < of nested data -/
def maxT (i : Int) (l : List Int) : Int := l.foldl (fun a y => if decide (a < y) = true then y else a) i
def minT (i : Int) (l : List Int) : Int := l.foldl (fun a y => if decide (y < a) = true then y else a) i
section
variable {X : Cx} {W : WX}
theorem reads_ints {h : Heap} : ∀ {vs : List Value} {ns : List Int}, PyProof.Rows.IntsAre vs ns → PySem.W.HoldAll h vs ns
  | _, _, .nil => ⟨[], .nil⟩
  | _, _, .cons i t r => by
    obtain ⟨as, q⟩ := reads_ints (h := h) r
    exact ⟨_, .cons (.int i t) q⟩
theorem cr_maxT (hc : X.calm = true) : CallR X (.builtin "max") (fun vs H Q => ∃ (a : Addr) (i : Int) (l : List Int), vs = [V.ref a] ∧ SqT X.K H a ((i :: l).map V.int) ∧ X.A.units + 2 < cLine ∧ Q (.int (maxT i l)) H) := by
  intro pins s σ H vs us Q I r h
  obtain ⟨a, i, l, rfl, hs, hu, q⟩ := h
  obtain ⟨its, rv, ht, _⟩ := I.tuple hs
  rw [Vals.ref1 r]
  refine PySem.W.max_tuple_datum (α := Int) (x := i) (xs := l) (I.ok.hd hc) ht (by simpa using reads_ints (h := s.heap) rv.ints) (show X.A.units + 1 + 0 < cLine by omega) fun j v h' tk _ hv hk => ?_
  obtain ⟨as, hr⟩ := hv
  cases hr with
  | int _ t => exact ⟨.int _, H, I.kept hk, ⟨t, rfl⟩, q⟩
theorem cr_minT (hc : X.calm = true) : CallR X (.builtin "min") (fun vs H Q => ∃ (a : Addr) (i : Int) (l : List Int), vs = [V.ref a] ∧ SqT X.K H a ((i :: l).map V.int) ∧ X.A.units + 2 < cLine ∧ Q (.int (minT i l)) H) := by
  intro pins s σ H vs us Q I r h
  obtain ⟨a, i, l, rfl, hs, hu, q⟩ := h
  obtain ⟨its, rv, ht, _⟩ := I.tuple hs
  rw [Vals.ref1 r]
  refine PySem.W.min_tuple_datum (α := Int) (x := i) (xs := l) (I.ok.hd hc) ht (by simpa using reads_ints (h := s.heap) rv.ints) (show X.A.units + 1 + 0 < cLine by omega) fun j v h' tk _ hv hk => ?_
  obtain ⟨as, hr⟩ := hv
  cases hr with
  | int _ t => exact ⟨.int _, H, I.kept hk, ⟨t, rfl⟩, q⟩
def tupI (f : Int → List Int → Int) (op : ON) : ON := fun ds M => match ds with
  | [.tup l] => match intsD l with
    | some (i :: r) => some (.int (f i r), M)
    | _ => none
  | _ => op ds M
abbrev opMaxG : ON := tupI maxT opMax
abbrev opMinG : ON := tupI minT opMin
theorem cl_tupI {f : Int → List Int → Int} {op : ON} {id : String} (hu : X.A.units + 2 < cLine) (h1 : CallR X (.builtin id) (fun vs H Q => ∃ (a : Addr) (i : Int) (l : List Int), vs = [V.ref a] ∧ SqT X.K H a ((i :: l).map V.int) ∧ X.A.units + 2 < cLine ∧ Q (.int (f i l)) H)) (h2 : SCl X (.builtin id) op) : SCl X (.builtin id) (tupI f op) :=
  (CallR.or h1 h2).imp fun xs H Q ⟨ι, M, ds, A, rr, q⟩ => by
    have other : PostO (cgd X) ι H (op ds M) Q → rON (cgd X) op xs H Q := fun q => ⟨ι, M, ds, A, rr, q⟩
    unfold tupI at q
    split at q
    · rename_i l
      obtain ⟨v, rfl, rv⟩ := reps_one rr
      simp only [Rep] at rv
      obtain ⟨a, vs, rfl, hq, rs⟩ := rv
      cases ei : intsD l with
      | none => rw [ei] at q; exact q.elim
      | some ns =>
        cases ns with
        | nil => rw [ei] at q; exact q.elim
        | cons i r =>
          rw [ei] at q
          have e := rs.ints ei
          subst e
          exact .inl ⟨a, i, r, rfl, hq, hu, PostO.int (G := cgd X) A q⟩
    · exact .inr (other q)
theorem cl_maxG (hu : X.A.units + 64 < cLine) (hc : X.calm = true) : SCl X (.builtin "max") opMaxG := cl_tupI (by omega) (cr_maxT hc) (cl_max hc)
theorem cl_minG (hu : X.A.units + 64 < cLine) (hc : X.calm = true) : SCl X (.builtin "min") opMinG := cl_tupI (by omega) (cr_minT hc) (cl_min hc)
/-! < -/
def isN : PyData → Bool
  | .none => true
  | _ => false
def ltD (M : Store) (x y : D) : Option Bool := match pyd M 8 x, pyd M 8 y with
  | some p, some q => if (PySem.W.alike p q && !isN p) = true ∧ p.depth ≤ 60 then some (PySem.W.dataLt p q) else none
  | _, _ => none
def oLtG : O2 := fun x y M => match x, y with
  | .int i, .int j => some (.bl (decide (i < j)), M)
  | _, _ => (ltD M x y).map fun b => (.bl b, M)
theorem so_ltG (hu : X.A.units + 64 < cLine) : SOp X (compareOp .Lt) oLtG := by
  intro pins s σ H x y v u Q I rx ry q
  obtain ⟨ι, M, d, e, A, r1, r2, q⟩ := q
  unfold oLtG at q
  split at q
  · exact so_lt pins s σ H x y v u Q I rx ry ⟨ι, M, _, _, A, r1, r2, q⟩
  · cases h : ltD M d e with
    | none => rw [h] at q; exact q.elim
    | some b =>
      rw [h] at q
      unfold ltD at h
      cases e1 : pyd M 8 d with
      | none => rw [e1] at h; cases h
      | some p =>
        cases e2 : pyd M 8 e with
        | none => rw [e1, e2] at h; cases h
        | some p2 =>
          rw [e1, e2] at h
          simp only at h
          split at h
          · rename_i hc
            cases h
            simp only [Bool.and_eq_true, Bool.not_eq_true'] at hc
            obtain ⟨as, q1⟩ := Dp.reads I p x v (dp_of (G := cgd X) A 8 _ _ _ r1 e1) rx
            obtain ⟨bs, q2⟩ := Dp.reads I p2 y u (dp_of (G := cgd X) A 8 _ _ _ r2 e2) ry
            exact PySem.W.lt_data q1 q2 hc.1.1 (fun z => by rw [z] at hc; exact absurd hc.1.2 (by simp [isN])) (by have := Nat.min_le_left p.depth p2.depth; omega) ⟨.bl _, H, I, rfl, PostO.bl (G := cgd X) A q⟩
          · cases h
end
end Sh

namespace Sh
open PySem L2
theorem ss_as {X : Cx} {W : WX} {st : Stmt} {f g : SF} (e : g = f) (h : SS X W st f) : SS X W st g := by rw [e]; exact h
/-! states told, to be compared -/
def envB : Env → Env → Bool
  | [], [] => true
  | none :: l, none :: r => envB l r
  | some a :: l, some b :: r => D.beq a b && envB l r
  | _, _ => false
theorem envB_eq : ∀ (l r : Env), envB l r = true → l = r
  | [], [], _ => rfl
  | [], _ :: _, h => by simp [envB] at h
  | none :: _, [], h => by simp [envB] at h
  | some _ :: _, [], h => by simp [envB] at h
  | none :: l, none :: r, h => by simp only [envB] at h; rw [envB_eq l r h]
  | none :: l, some b :: r, h => by simp [envB] at h
  | some a :: l, none :: r, h => by simp [envB] at h
  | some a :: l, some b :: r, h => by
    simp only [envB, Bool.and_eq_true] at h
    rw [(D.beq_eq a b).mp h.1, envB_eq l r h.2]
def nxB (r : Res Fl) (env : Env) (M : Store) : Bool := match r with
  | .ok (.nx e) M' => envB e env && decide (M' = M)
  | _ => false
theorem nxB_eq {r : Res Fl} {env : Env} {M : Store} (h : nxB r env M = true) : r = .ok (.nx env) M := by
  unfold nxB at h
  split at h
  · simp only [Bool.and_eq_true, decide_eq_true_eq] at h
    rw [envB_eq _ _ h.1, h.2]
  · cases h
def rtT (r : Res Fl) : Bool := match r with
  | .ok (.rt (.bl true)) _ => true
  | _ => false
theorem rtT_ex {r : Res Fl} (h : rtT r = true) : ∃ M, r = .ok (.rt (.bl true)) M := by
  unfold rtT at h
  split at h
  · exact ⟨_, rfl⟩
  · cases h
theorem trim_true {M M' : Store} : isTrueR (trim 0 M (.ok (.bl true) M')) = true := by
  simp only [trim]
  split <;> rfl
end Sh

namespace Sh
open PySem L2
/-! ### objects renumbered -/
mutual
def D.rn (f : Nat → Option Nat) : D → Option D
  | .ref n => (f n).map .ref
  | .tup l => (D.rns f l).map .tup
  | .non => some .non
  | .bl b => some (.bl b)
  | .int i => some (.int i)
  | .str x => some (.str x)
  | .ty n => some (.ty n)
def D.rns (f : Nat → Option Nat) : List D → Option (List D)
  | [] => some []
  | d :: l => match D.rn f d, D.rns f l with
    | some e, some r => some (e :: r)
    | _, _ => none
end
section
variable {K : PySem.W.Frag} {P : Program} {w : World} {ι ι' : List Addr} {H : Hp} {f : Nat → Option Nat}
mutual
theorem Rep.rn (hf : ∀ n m a, f n = some m → ι[n]? = some a → ι'[m]? = some a) : ∀ {d e : D} {v : V}, D.rn f d = some e → Rep K ι H d v → Rep K ι' H e v
  | .ref n, e, v, q, h => by
    simp only [D.rn, Option.map_eq_some_iff] at q
    obtain ⟨m, q, rfl⟩ := q
    simp only [Rep] at h ⊢
    obtain ⟨a, ea, rfl⟩ := h
    exact ⟨a, hf n m a q ea, rfl⟩
  | .tup l, e, v, q, h => by
    simp only [D.rn, Option.map_eq_some_iff] at q
    obtain ⟨r, q, rfl⟩ := q
    simp only [Rep] at h ⊢
    obtain ⟨a, vs, rfl, h1, h2⟩ := h
    exact ⟨a, vs, rfl, h1, Reps.rn hf q h2⟩
  | .non, e, v, q, h => by simp only [D.rn, Option.some.injEq] at q; subst q; simpa only [Rep] using h
  | .bl _, e, v, q, h => by simp only [D.rn, Option.some.injEq] at q; subst q; simpa only [Rep] using h
  | .int _, e, v, q, h => by simp only [D.rn, Option.some.injEq] at q; subst q; simpa only [Rep] using h
  | .str _, e, v, q, h => by simp only [D.rn, Option.some.injEq] at q; subst q; simpa only [Rep] using h
  | .ty _, e, v, q, h => by simp only [D.rn, Option.some.injEq] at q; subst q; simpa only [Rep] using h
theorem Reps.rn (hf : ∀ n m a, f n = some m → ι[n]? = some a → ι'[m]? = some a) : ∀ {l r : List D} {vs : List V}, D.rns f l = some r → Reps K ι H l vs → Reps K ι' H r vs
  | [], r, vs, q, h => by simp only [D.rns, Option.some.injEq] at q; subst q; simpa only [Reps] using h
  | d :: l, r, vs, q, h => by
    simp only [Reps] at h
    obtain ⟨v, us, rfl, h1, h2⟩ := h
    simp only [D.rns] at q
    cases e1 : D.rn f d with
    | none => rw [e1] at q; cases q
    | some x =>
      cases e2 : D.rns f l with
      | none => rw [e1, e2] at q; cases q
      | some y =>
        rw [e1, e2] at q
        cases q
        simp only [Reps]
        exact ⟨v, us, rfl, Rep.rn hf e1 h1, Reps.rn hf e2 h2⟩
end
mutual
theorem nk_rn : ∀ {d e : D} {k : NestedKey}, nk d = some k → D.rn f d = some e → e = d
  | .ref n, e, k, h, q => by simp [nk] at h
  | .tup l, e, k, h, q => by
    simp only [nk, Option.map_eq_some_iff] at h
    obtain ⟨ks, h, _⟩ := h
    simp only [D.rn, Option.map_eq_some_iff] at q
    obtain ⟨r, q, rfl⟩ := q
    rw [nks_rn h q]
  | .non, e, k, h, q => by simp only [D.rn, Option.some.injEq] at q; exact q.symm
  | .bl _, e, k, h, q => by simp only [D.rn, Option.some.injEq] at q; exact q.symm
  | .int _, e, k, h, q => by simp only [D.rn, Option.some.injEq] at q; exact q.symm
  | .str _, e, k, h, q => by simp only [D.rn, Option.some.injEq] at q; exact q.symm
  | .ty _, e, k, h, q => by simp only [D.rn, Option.some.injEq] at q; exact q.symm
theorem nks_rn : ∀ {l r : List D} {ks : List NestedKey}, nks l = some ks → D.rns f l = some r → r = l
  | [], r, ks, h, q => by simp only [D.rns, Option.some.injEq] at q; exact q.symm
  | d :: l, r, ks, h, q => by
    simp only [D.rns] at q
    unfold nks at h
    cases e1 : D.rn f d with
    | none => rw [e1] at q; cases q
    | some x =>
      cases e2 : D.rns f l with
      | none => rw [e1, e2] at q; cases q
      | some y =>
        rw [e1, e2] at q
        cases q
        cases h1 : nk d with
        | none => simp [h1] at h
        | some a =>
          cases h2 : nks l with
          | none => simp [h1, h2] at h
          | some b => rw [nk_rn h1 e1, nks_rn h2 e2]
end
end
end Sh

namespace Sh
open PySem L2
def fsRn (f : Nat → Option Nat) : List (Str × D) → Option (List (Str × D))
  | [] => some []
  | (x, d) :: l => match D.rn f d, fsRn f l with
    | some e, some r => some ((x, e) :: r)
    | _, _ => none
def kvRn (f : Nat → Option Nat) : List (D × D) → Option (List (D × D))
  | [] => some []
  | (k, d) :: l => match D.rn f k, D.rn f d, kvRn f l with
    | some k', some e, some r => some ((k', e) :: r)
    | _, _, _ => none
def DO.rn (f : Nat → Option Nat) : DO → Option DO
  | .lst l => (D.rns f l).map .lst
  | .fz l => (D.rns f l).map .fz
  | .dct kvs => (kvRn f kvs).map .dct
  | .dlk kvs => (kvRn f kvs).map .dlk
  | .ins c fs => (fsRn f fs).map (.ins c)
  | .set l => some (.set l)
  | .dead => some .dead
  | .exn c fs => (fsRn f fs).map (.exn c)
  | .sdc fs => (fsRn f fs).map .sdc
section
variable {K : PySem.W.Frag} {P : Program} {w : World} {ι ι' : List Addr} {H : Hp} {f : Nat → Option Nat}
theorem FRel.rn (hf : ∀ n m a, f n = some m → ι[n]? = some a → ι'[m]? = some a) : ∀ {fs gs : List (Str × D)} {vs : List (Str × V)}, fsRn f fs = some gs → FRel K ι H fs vs → FRel K ι' H gs vs
  | [], gs, _, q, .nil => by simp only [fsRn, Option.some.injEq] at q; subst q; exact .nil
  | (x, d) :: fs, gs, _, q, .cons r t => by
    simp only [fsRn] at q
    cases e1 : D.rn f d with
    | none => rw [e1] at q; cases q
    | some e =>
      cases e2 : fsRn f fs with
      | none => rw [e1, e2] at q; cases q
      | some r' =>
        rw [e1, e2] at q
        cases q
        exact .cons ⟨r.1, Rep.rn hf e1 r.2⟩ (FRel.rn hf e2 t)
theorem ent_rn (hf : ∀ n m a, f n = some m → ι[n]? = some a → ι'[m]? = some a) : ∀ {kvs lvs : List (D × D)} {xs : List (NestedKey × Addr × Value)}, kvRn f kvs = some lvs → Paired (EntR K ι H) kvs xs → Paired (EntR K ι' H) lvs xs
  | [], lvs, _, q, .nil => by simp only [kvRn, Option.some.injEq] at q; subst q; exact .nil
  | (k, d) :: kvs, lvs, _, q, .cons r t => by
    simp only [kvRn] at q
    cases e0 : D.rn f k with
    | none => rw [e0] at q; cases q
    | some k' =>
      cases e1 : D.rn f d with
      | none => rw [e0, e1] at q; cases q
      | some e =>
        cases e2 : kvRn f kvs with
        | none => rw [e0, e1, e2] at q; cases q
        | some r' =>
          rw [e0, e1, e2] at q
          cases q
          obtain ⟨h1, h2, v, h3, h4⟩ := r
          have hk : k' = k := nk_rn (nkey_nk h1).1 e0
          refine .cons ⟨by rw [hk]; exact h1, Rep.rn hf e0 h2, v, h3, Rep.rn hf e1 h4⟩ (ent_rn hf e2 t)
theorem kvRn_len : ∀ {kvs lvs : List (D × D)}, kvRn f kvs = some lvs → lvs.length = kvs.length
  | [], lvs, q => by simp only [kvRn, Option.some.injEq] at q; subst q; rfl
  | (k, d) :: kvs, lvs, q => by
    simp only [kvRn] at q
    cases e0 : D.rn f k with
    | none => rw [e0] at q; cases q
    | some k' =>
      cases e1 : D.rn f d with
      | none => rw [e0, e1] at q; cases q
      | some e =>
        cases e2 : kvRn f kvs with
        | none => rw [e0, e1, e2] at q; cases q
        | some r' =>
          rw [e0, e1, e2] at q
          cases q
          simp [kvRn_len e2]
theorem DctAt.rn (hf : ∀ n m a, f n = some m → ι[n]? = some a → ι'[m]? = some a) {a : Addr} {kvs lvs : List (D × D)} {o : Obj} (q : kvRn f kvs = some lvs) (h : DctAt K ι H P w a kvs o) : DctAt K ι' H P w a lvs o :=
  let ⟨h1, h2, h3, es, ep, xs, h4, h5, h6, h7⟩ := h
  ⟨h1, by rw [kvRn_len q]; exact h2, h3, es, ep, xs, h4, h5, h6, ent_rn hf q h7⟩
theorem orep_rn (hf : ∀ n m a, f n = some m → ι[n]? = some a → ι'[m]? = some a) {a : Addr} {o o' : DO} (q : DO.rn f o = some o') (h : ORep K ι H P w a o) : ORep K ι' H P w a o' := by
  cases o with
  | lst l =>
    simp only [DO.rn, Option.map_eq_some_iff] at q
    obtain ⟨r, q, rfl⟩ := q
    obtain ⟨vs, h1, h2⟩ := h
    exact ⟨vs, h1, Reps.rn hf q h2⟩
  | fz l =>
    simp only [DO.rn, Option.map_eq_some_iff] at q
    obtain ⟨r, q, rfl⟩ := q
    obtain ⟨vs, o, h1, h2⟩ := h
    exact ⟨vs, o, h1, Reps.rn hf q h2⟩
  | dct kvs =>
    simp only [DO.rn, Option.map_eq_some_iff] at q
    obtain ⟨r, q, rfl⟩ := q
    obtain ⟨o, h1, h2⟩ := h
    exact ⟨o, h1, h2.rn hf q⟩
  | dlk kvs =>
    simp only [DO.rn, Option.map_eq_some_iff] at q
    obtain ⟨r, q, rfl⟩ := q
    obtain ⟨o, h1, h2⟩ := h
    exact ⟨o, h1, h2.rn hf q⟩
  | ins c fs =>
    simp only [DO.rn, Option.map_eq_some_iff] at q
    obtain ⟨r, q, rfl⟩ := q
    obtain ⟨dx, vs, h1, h2⟩ := h
    exact ⟨dx, vs, h1, FRel.rn hf q h2⟩
  | set l => simp only [DO.rn, Option.some.injEq] at q; subst q; exact h
  | dead => simp only [DO.rn, Option.some.injEq] at q; subst q; exact h
  | exn c fs =>
    simp only [DO.rn, Option.map_eq_some_iff] at q
    obtain ⟨r, q, rfl⟩ := q
    obtain ⟨oe, h1, h2, h3, h4⟩ := h
    refine ⟨oe, h1, h2, h3, ?_⟩
    rcases h4 with ⟨rfl, h4⟩ | ⟨x, ox, vs, g1, g2, g3⟩
    · simp only [fsRn, Option.some.injEq] at q
      subst q
      exact .inl ⟨rfl, h4⟩
    · exact .inr ⟨x, ox, vs, g1, g2, FRel.rn hf q g3⟩
  | sdc fs =>
    simp only [DO.rn, Option.map_eq_some_iff] at q
    obtain ⟨r, q, rfl⟩ := q
    obtain ⟨vs, h1, h2⟩ := h
    exact ⟨vs, h1, FRel.rn hf q h2⟩
end
end Sh

namespace Sh
open PySem L2
section
variable {f g : Nat → Option Nat}
mutual
theorem D.rn_back (hfg : ∀ n m, f n = some m → g m = some n) : ∀ {d e : D}, D.rn f d = some e → D.rn g e = some d
  | .ref n, e, q => by
    simp only [D.rn, Option.map_eq_some_iff] at q
    obtain ⟨m, q, rfl⟩ := q
    simp only [D.rn, hfg n m q, Option.map_some]
  | .tup l, e, q => by
    simp only [D.rn, Option.map_eq_some_iff] at q
    obtain ⟨r, q, rfl⟩ := q
    simp only [D.rn, D.rns_back hfg q, Option.map_some]
  | .non, e, q => by simp only [D.rn, Option.some.injEq] at q; subst q; rfl
  | .bl _, e, q => by simp only [D.rn, Option.some.injEq] at q; subst q; rfl
  | .int _, e, q => by simp only [D.rn, Option.some.injEq] at q; subst q; rfl
  | .str _, e, q => by simp only [D.rn, Option.some.injEq] at q; subst q; rfl
  | .ty _, e, q => by simp only [D.rn, Option.some.injEq] at q; subst q; rfl
theorem D.rns_back (hfg : ∀ n m, f n = some m → g m = some n) : ∀ {l r : List D}, D.rns f l = some r → D.rns g r = some l
  | [], r, q => by simp only [D.rns, Option.some.injEq] at q; subst q; rfl
  | d :: l, r, q => by
    simp only [D.rns] at q
    cases e1 : D.rn f d with
    | none => rw [e1] at q; cases q
    | some x =>
      cases e2 : D.rns f l with
      | none => rw [e1, e2] at q; cases q
      | some y =>
        rw [e1, e2] at q
        cases q
        simp only [D.rns, D.rn_back hfg e1, D.rns_back hfg e2]
end
theorem fsRn_back (hfg : ∀ n m, f n = some m → g m = some n) : ∀ {l r : List (Str × D)}, fsRn f l = some r → fsRn g r = some l
  | [], r, q => by simp only [fsRn, Option.some.injEq] at q; subst q; rfl
  | (x, d) :: l, r, q => by
    simp only [fsRn] at q
    cases e1 : D.rn f d with
    | none => rw [e1] at q; cases q
    | some e =>
      cases e2 : fsRn f l with
      | none => rw [e1, e2] at q; cases q
      | some y =>
        rw [e1, e2] at q
        cases q
        simp only [fsRn, D.rn_back hfg e1, fsRn_back hfg e2]
theorem kvRn_back (hfg : ∀ n m, f n = some m → g m = some n) : ∀ {l r : List (D × D)}, kvRn f l = some r → kvRn g r = some l
  | [], r, q => by simp only [kvRn, Option.some.injEq] at q; subst q; rfl
  | (k, d) :: l, r, q => by
    simp only [kvRn] at q
    cases e0 : D.rn f k with
    | none => rw [e0] at q; cases q
    | some k' =>
      cases e1 : D.rn f d with
      | none => rw [e0, e1] at q; cases q
      | some e =>
        cases e2 : kvRn f l with
        | none => rw [e0, e1, e2] at q; cases q
        | some y =>
          rw [e0, e1, e2] at q
          cases q
          simp only [kvRn, D.rn_back hfg e0, D.rn_back hfg e1, kvRn_back hfg e2]
theorem DO.rn_back (hfg : ∀ n m, f n = some m → g m = some n) {o o' : DO} (q : DO.rn f o = some o') : DO.rn g o' = some o := by
  cases o with
  | lst l => simp only [DO.rn, Option.map_eq_some_iff] at q; obtain ⟨r, q, rfl⟩ := q; simp only [DO.rn, D.rns_back hfg q, Option.map_some]
  | fz l => simp only [DO.rn, Option.map_eq_some_iff] at q; obtain ⟨r, q, rfl⟩ := q; simp only [DO.rn, D.rns_back hfg q, Option.map_some]
  | dct l => simp only [DO.rn, Option.map_eq_some_iff] at q; obtain ⟨r, q, rfl⟩ := q; simp only [DO.rn, kvRn_back hfg q, Option.map_some]
  | dlk l => simp only [DO.rn, Option.map_eq_some_iff] at q; obtain ⟨r, q, rfl⟩ := q; simp only [DO.rn, kvRn_back hfg q, Option.map_some]
  | ins c l => simp only [DO.rn, Option.map_eq_some_iff] at q; obtain ⟨r, q, rfl⟩ := q; simp only [DO.rn, fsRn_back hfg q, Option.map_some]
  | set l => simp only [DO.rn, Option.some.injEq] at q; subst q; rfl
  | dead => simp only [DO.rn, Option.some.injEq] at q; subst q; rfl
  | exn c l => simp only [DO.rn, Option.map_eq_some_iff] at q; obtain ⟨r, q, rfl⟩ := q; simp only [DO.rn, fsRn_back hfg q, Option.map_some]
  | sdc l => simp only [DO.rn, Option.map_eq_some_iff] at q; obtain ⟨r, q, rfl⟩ := q; simp only [DO.rn, fsRn_back hfg q, Option.map_some]
end
end Sh

namespace Sh
open PySem L2
/-! ### a def that changes nothing runs in a small store -/
mutual
def refsD : D → List Nat
  | .ref n => [n]
  | .tup l => refsDs l
  | _ => []
def refsDs : List D → List Nat
  | [] => []
  | d :: l => refsD d ++ refsDs l
end
def refsO : DO → List Nat
  | .lst l => refsDs l
  | .fz l => refsDs l
  | .dct kvs => refsDs (kvs.map (·.2))
  | .dlk kvs => refsDs (kvs.map (·.2))
  | .ins _ fs => refsDs (fs.map (·.2))
  | .set _ => []
  | .dead => []
  | .exn _ fs => refsDs (fs.map (·.2))
  | .sdc fs => refsDs (fs.map (·.2))
def closeR (M : Store) : Nat → List Nat → List Nat → List Nat
  | 0, _, done => done
  | _ + 1, [], done => done
  | n + 1, k :: todo, done => if done.contains k = true then closeR M n todo done else closeR M n ((match M[k]? with
    | some o => refsO o
    | none => []) ++ todo) (done ++ [k])
def posIn : List Nat → Nat → Option Nat
  | [], _ => none
  | k :: r, n => if k = n then some 0 else (posIn r n).map (· + 1)
theorem posIn_get : ∀ {ks : List Nat} {n m : Nat}, posIn ks n = some m → ks[m]? = some n
  | [], n, m, h => by simp [posIn] at h
  | k :: r, n, m, h => by
    simp only [posIn] at h
    split at h
    · rename_i e
      cases h
      simp [e]
    · simp only [Option.map_eq_some_iff] at h
      obtain ⟨j, h, rfl⟩ := h
      simpa using posIn_get h
def selO (f : Nat → Option Nat) (M : Store) : List Nat → Option Store
  | [] => some []
  | k :: r => match M[k]?, selO f M r with
    | some o, some s => (DO.rn f o).map (· :: s)
    | _, _ => none
theorem selO_get {f : Nat → Option Nat} {M : Store} : ∀ {sel : List Nat} {s : Store}, selO f M sel = some s → s.length = sel.length ∧ ∀ (j k : Nat), sel[j]? = some k → ∃ o o', M[k]? = some o ∧ DO.rn f o = some o' ∧ s[j]? = some o'
  | [], s, h => by simp only [selO, Option.some.injEq] at h; subst h; exact ⟨rfl, fun j k e => by simp at e⟩
  | k :: r, s, h => by
    simp only [selO] at h
    cases e1 : M[k]? with
    | none => rw [e1] at h; cases h
    | some o =>
      cases e2 : selO f M r with
      | none => rw [e1, e2] at h; cases h
      | some t =>
        rw [e1, e2] at h
        simp only [Option.map_eq_some_iff] at h
        obtain ⟨o', e3, rfl⟩ := h
        obtain ⟨h1, h2⟩ := selO_get e2
        refine ⟨by simp [h1], fun j n e => ?_⟩
        cases j with
        | zero => simp at e; subst e; exact ⟨o, o', e1, e3, rfl⟩
        | succ j => simpa using h2 j n (by simpa using e)
/-- numbers of the small store, in the great one -/
def backN (ks : List Nat) (base : Nat) (sel : List Nat) (n : Nat) : Option Nat := match ks[n]? with
  | some k => some k
  | none => (posIn sel n).map (base + ·)
def fnP (ff : FF) : FF := fun ds M =>
  let ks := closeR M 200 (refsDs ds) []
  match D.rns (posIn ks) ds, selO (posIn ks) M ks with
  | some ds', some M' => if ks.Nodup then (match ff ds' M' with
    | .ok d M'' => if M'.isPrefixOf M'' = true then (
        let sel := (closeR M'' 200 (refsD d) []).filter fun n => decide (ks.length ≤ n)
        match D.rn (backN ks M.length sel) d, selO (backN ks M.length sel) M'' sel with
        | some d', some news => if sel.Nodup then .ok d' (M ++ news) else .bad
        | _, _ => .bad) else .bad
    | .exc c fs M'' => if M'.isPrefixOf M'' = true then (match fsRn (backN ks 0 []) fs with
        | some fs' => .exc c fs' M
        | none => .bad) else .bad
    | .bad => .bad) else .bad
  | _, _ => .bad
end Sh

namespace Sh
open PySem L2
theorem selA {ι : List Addr} : ∀ (ks : List Nat), (∀ k ∈ ks, k < ι.length) → ∃ ι' : List Addr, ι'.length = ks.length ∧ ∀ (j k : Nat), ks[j]? = some k → ι'[j]? = ι[k]?
  | [], _ => ⟨[], rfl, fun j k e => by simp at e⟩
  | k :: r, h => by
    obtain ⟨l, h1, h2⟩ := selA r fun n m => h n (List.mem_cons_of_mem _ m)
    have hk := h k List.mem_cons_self
    refine ⟨ι[k] :: l, by simp [h1], fun j n e => ?_⟩
    cases j with
    | zero => simp at e; subst e; simp
    | succ j => simpa using h2 j n (by simpa using e)
theorem selA_nodup {ι ι' : List Addr} {ks : List Nat} (nd : ι.Nodup) (hn : ks.Nodup) (hb : ∀ k ∈ ks, k < ι.length) (hl : ι'.length = ks.length) (hg : ∀ (j k : Nat), ks[j]? = some k → ι'[j]? = ι[k]?) : ι'.Nodup := by
  refine List.pairwise_iff_getElem.mpr fun i j hi hj hij z => ?_
  have hj' : j < ks.length := by omega
  have hi' : i < ks.length := by omega
  have e : ι'[i]? = ι'[j]? := by rw [List.getElem?_eq_getElem hi, List.getElem?_eq_getElem hj, z]
  have e1 : ks[i]? = some ks[i] := List.getElem?_eq_getElem hi'
  have e2 : ks[j]? = some ks[j] := List.getElem?_eq_getElem hj'
  rw [hg i _ e1, hg j _ e2] at e
  have hk1 := hb ks[i] (List.getElem_mem hi')
  have h3 : ks[i] = ks[j] := (List.getElem?_inj hk1 nd).mp e
  have hij' : i = j := (List.getElem?_inj hi' hn).mp (e1.trans ((congrArg some h3).trans e2.symm))
  omega
section
variable {G : Gd} {ι : List Addr} {H : Hp} {M : Store}
theorem abs_sel (A : Abs G.K ι H G.P G.w M) {f : Nat → Option Nat} {ks : List Nat} {M' : Store} (hn : ks.Nodup) (e : selO f M ks = some M') (hf : ∀ n m, f n = some m → ks[m]? = some n) :
    ∃ ι' : List Addr, ι'.length = ks.length ∧ (∀ (j k : Nat), ks[j]? = some k → ι'[j]? = ι[k]?) ∧ (∀ a ∈ ι', a ∈ ι) ∧ Abs G.K ι' H G.P G.w M' ∧ (∀ n m a, f n = some m → ι[n]? = some a → ι'[m]? = some a) := by
  obtain ⟨h1, h2⟩ := selO_get e
  have hb : ∀ k ∈ ks, k < ι.length := fun k m => by
    obtain ⟨j, ej⟩ := List.getElem?_of_mem m
    obtain ⟨o, _, eo, _⟩ := h2 j k ej
    rw [A.len]; exact (List.getElem?_eq_some_iff.mp eo).1
  obtain ⟨ι', hl, hg⟩ := selA (ι := ι) ks hb
  have hmap : ∀ n m a, f n = some m → ι[n]? = some a → ι'[m]? = some a := fun n m a q ea => by rw [hg m n (hf n m q)]; exact ea
  refine ⟨ι', hl, hg, fun a m => ?_, ⟨by rw [hl, h1], selA_nodup A.nd hn hb hl hg, fun n a o ea eo => ?_⟩, hmap⟩
  · obtain ⟨j, ej⟩ := List.getElem?_of_mem m
    have hj : j < ks.length := by rw [← hl]; exact (List.getElem?_eq_some_iff.mp ej).1
    rw [hg j _ (List.getElem?_eq_getElem hj)] at ej
    exact List.mem_of_getElem? ej
  · have hj : n < ks.length := by rw [← hl]; exact (List.getElem?_eq_some_iff.mp ea).1
    have ek : ks[n]? = some ks[n] := List.getElem?_eq_getElem hj
    obtain ⟨o0, o', e1, e2, e3⟩ := h2 n _ ek
    rw [eo] at e3
    cases e3
    rw [hg n _ ek] at ea
    exact orep_rn hmap e2 (A.obj _ a o0 ea e1)
theorem rns_len {f : Nat → Option Nat} : ∀ {l r : List D}, D.rns f l = some r → r.length = l.length
  | [], r, q => by simp only [D.rns, Option.some.injEq] at q; subst q; rfl
  | d :: l, r, q => by
    simp only [D.rns] at q
    cases e1 : D.rn f d with
    | none => rw [e1] at q; cases q
    | some x =>
      cases e2 : D.rns f l with
      | none => rw [e1, e2] at q; cases q
      | some y => rw [e1, e2] at q; cases q; simp [rns_len e2]
theorem prefix_get {M M' : Store} (h : M.isPrefixOf M' = true) {n : Nat} (hn : n < M.length) : M'[n]? = M[n]? := by
  rw [List.isPrefixOf_iff_prefix] at h
  obtain ⟨t, rfl⟩ := h
  rw [List.getElem?_append_left hn]
/-- back in the great store: all that was there, and what is new -/
theorem abs_back {ι' ι'' : List Addr} {H'' : Hp} {ks sel : List Nat} {M' M'' news : Store} (A : Abs G.K ι H G.P G.w M) (hn : ks.Nodup) (e : selO (posIn ks) M ks = some M') (hl : ι'.length = ks.length) (hg : ∀ (j k : Nat), ks[j]? = some k → ι'[j]? = ι[k]?) (hsub : ∀ a ∈ ι', a ∈ ι)
    (s : Step ι' H ι'' H'') (A'' : Abs G.K ι'' H'' G.P G.w M'') (hp : M'.isPrefixOf M'' = true) (hs : sel.Nodup) (hge : ∀ n ∈ sel, ks.length ≤ n) (en : selO (backN ks M.length sel) M'' sel = some news) :
    ∃ ι2 : List Addr, Step ι H ι2 H'' ∧ Abs G.K ι2 H'' G.P G.w (M ++ news) ∧ (∀ n m a, backN ks M.length sel n = some m → ι''[n]? = some a → ι2[m]? = some a) := by
  obtain ⟨m1, m2⟩ := selO_get e
  obtain ⟨n1, n2⟩ := selO_get en
  have hb : ∀ k ∈ sel, k < ι''.length := fun k m => by
    obtain ⟨j, ej⟩ := List.getElem?_of_mem m
    obtain ⟨o, _, eo, _⟩ := n2 j k ej
    rw [A''.len]; exact (List.getElem?_eq_some_iff.mp eo).1
  obtain ⟨nw, wl, wg⟩ := selA (ι := ι'') sel hb
  obtain ⟨more, hmore⟩ := s.pre
  have hpre : ∀ j, j < ks.length → ι''[j]? = ι'[j]? := fun j hj => by rw [hmore, List.getElem?_append_left (by rw [hl]; exact hj)]
  have notin' : ∀ a n, ι''[n]? = some a → ks.length ≤ n → a ∉ ι' := fun a n ea hge' m => by
    obtain ⟨j, ej⟩ := List.getElem?_of_mem m
    have hj : j < ι'.length := (List.getElem?_eq_some_iff.mp ej).1
    have := ix_inj A''.nd ea (by rw [hpre j (by omega)]; exact ej)
    omega
  have newH : ∀ a ∈ nw, H a = none := fun a m => by
    obtain ⟨j, ej⟩ := List.getElem?_of_mem m
    have hj : j < sel.length := by rw [← wl]; exact (List.getElem?_eq_some_iff.mp ej).1
    have ek := List.getElem?_eq_getElem hj
    rw [wg j _ ek] at ej
    exact s.fresh a (List.mem_of_getElem? ej) (notin' a _ ej (hge _ (List.getElem_mem hj)))
  have st : Step ι H (ι ++ nw) H'' := {
    pre := ⟨nw, rfl⟩
    frame := fun a o h n => s.frame a o h fun m => n (hsub a m)
    fresh := fun a m n => by
      rcases List.mem_append.mp m with m | m
      · exact absurd m n
      · exact newH a m
    frz := s.frz }
  have hmap : ∀ n m a, backN ks M.length sel n = some m → ι''[n]? = some a → (ι ++ nw)[m]? = some a := fun n m a q ea => by
    unfold backN at q
    cases ek : ks[n]? with
    | some k =>
      rw [ek] at q
      cases q
      have hnl : n < ks.length := (List.getElem?_eq_some_iff.mp ek).1
      rw [hpre n hnl, hg n _ ek] at ea
      rw [List.getElem?_append_left (List.getElem?_eq_some_iff.mp ea).1]
      exact ea
    | none =>
      rw [ek] at q
      simp only [Option.map_eq_some_iff] at q
      obtain ⟨p, q, rfl⟩ := q
      rw [List.getElem?_append_right (by rw [A.len]; omega), A.len, Nat.add_sub_cancel_left, wg p n (posIn_get q)]
      exact ea
  refine ⟨ι ++ nw, st, ⟨by simp [A.len, wl, n1], ?_, fun n a o ea eo => ?_⟩, hmap⟩
  · rw [List.nodup_append]
    refine ⟨A.nd, selA_nodup A''.nd hs hb wl wg, fun a ha b hb' z => ?_⟩
    subst z
    obtain ⟨u, q⟩ := A.tracked ha
    rw [newH a hb'] at q
    cases q
  · by_cases hnl : n < ι.length
    · rw [List.getElem?_append_left hnl] at ea
      rw [List.getElem?_append_left (by rw [← A.len]; exact hnl)] at eo
      by_cases hin : a ∈ ι'
      · obtain ⟨j, ej⟩ := List.getElem?_of_mem hin
        have hj : j < ks.length := by rw [← hl]; exact (List.getElem?_eq_some_iff.mp ej).1
        have ek := List.getElem?_eq_getElem hj
        have hjn : ks[j] = n := ix_inj A.nd (by rw [← hg j _ ek]; exact ej) ea
        obtain ⟨o0, o', q1, q2, q3⟩ := m2 j _ ek
        rw [hjn, eo] at q1
        cases q1
        have hM : M''[j]? = some o' := by rw [prefix_get hp (by rw [m1]; exact hj)]; exact q3
        have R := A''.obj j a o' (by rw [hpre j hj]; exact ej) hM
        exact orep_rn hmap (DO.rn_back (fun x y hxy => by
          unfold backN
          rw [posIn_get hxy]) q2) R
      · have R := A.obj n a o ea eo
        obtain ⟨u, hu⟩ := A.tracked (List.mem_of_getElem? ea)
        have same : H'' a = H a := by rw [hu]; exact s.frame a u hu hin
        exact R.ext (st.ext A.nt) (fun u q => by rw [same]; exact q) fun xs r => by
          rcases r with r | ⟨o, r⟩
          · exact .inl (by rw [← same]; exact r)
          · exact .inr ⟨o, by rw [← same]; exact r⟩
    · have hA := A.len
      rw [List.getElem?_append_right (by omega)] at ea eo
      · have hj : n - ι.length < sel.length := by rw [← wl]; exact (List.getElem?_eq_some_iff.mp ea).1
        have ek := List.getElem?_eq_getElem hj
        obtain ⟨o0, o', q1, q2, q3⟩ := n2 _ _ ek
        rw [← A.len, q3] at eo
        cases eo
        rw [wg _ _ ek] at ea
        exact orep_rn hmap q2 (A''.obj _ a o0 ea q1)
end
end Sh

namespace Sh
open PySem L2
section
variable {G : Gd} {ι : List Addr} {H : Hp} {M : Store}
theorem small_ok {ff : FF} {ds : List D} {vs : List V} {Q : VK} {E : XK} (A : Abs G.K ι H G.P G.w M) (r : Reps G.K ι H ds vs) (h : PostF G ι H (fnP ff ds M) Q E) :
    ∃ ι' M' ds', Abs G.K ι' H G.P G.w M' ∧ Reps G.K ι' H ds' vs ∧ ds'.length = ds.length ∧ PostF G ι' H (ff ds' M') Q E := by
  unfold fnP at h
  simp only at h
  generalize hks : closeR M 200 (refsDs ds) [] = ks at h
  cases e1 : D.rns (posIn ks) ds with
  | none => rw [e1] at h; exact h.elim
  | some ds' =>
    cases e2 : selO (posIn ks) M ks with
    | none => rw [e1, e2] at h; exact h.elim
    | some M' =>
      rw [e1, e2] at h
      simp only at h
      split at h
      · rename_i hn
        obtain ⟨ι', hl, hg, hsub, A', hmap⟩ := abs_sel A hn e2 fun n m q => posIn_get q
        refine ⟨ι', M', ds', A', Reps.rn hmap e1 r, rns_len e1, ?_⟩
        cases ef : ff ds' M' with
        | bad => rw [ef] at h; exact h.elim
        | ok d M'' =>
          rw [ef] at h
          simp only at h
          split at h
          · rename_i hp
            generalize hsel : ((closeR M'' 200 (refsD d) []).filter fun n => decide (ks.length ≤ n)) = sel at h
            cases e3 : D.rn (backN ks M.length sel) d with
            | none => rw [e3] at h; exact h.elim
            | some d' =>
              cases e4 : selO (backN ks M.length sel) M'' sel with
              | none => rw [e3, e4] at h; exact h.elim
              | some news =>
                rw [e3, e4] at h
                simp only at h
                split at h
                · rename_i hs
                  intro ι'' H'' v s A'' rv
                  have hge : ∀ n ∈ sel, ks.length ≤ n := fun n m => by
                    rw [← hsel] at m
                    exact of_decide_eq_true (List.mem_filter.mp m).2
                  obtain ⟨ι2, st, A2, mp⟩ := abs_back A hn e2 hl hg hsub s A'' hp hs hge e4
                  exact h ι2 H'' v st A2 (Rep.rn mp e3 rv)
                · exact h.elim
          · exact h.elim
        | exc c fs M'' =>
          rw [ef] at h
          simp only at h
          split at h
          · rename_i hp
            cases e3 : fsRn (backN ks 0 []) fs with
            | none => rw [e3] at h; exact h.elim
            | some fs' =>
              rw [e3] at h
              intro ι'' H'' cls d s A'' x
              obtain ⟨ι2, st, A2, mp⟩ := abs_back (sel := []) (news := []) A hn e2 hl hg hsub s A'' hp List.nodup_nil (fun n m => by cases m) rfl
              rw [List.append_nil] at A2
              refine h ι2 H'' cls d st A2 ⟨x.1, ?_⟩
              have mp' : ∀ n m a, backN ks 0 [] n = some m → ι''[n]? = some a → ι2[m]? = some a := fun n m a q ea => by
                refine mp n m a ?_ ea
                unfold backN at q ⊢
                cases ek : ks[n]? with
                | some k => rw [ek] at q; exact q
                | none => rw [ek] at q; simp [posIn] at q
              rcases x.2 with ⟨h1, h2⟩ | ⟨y, oy, vs', h1, h2, h3⟩
              · subst h1
                simp only [fsRn, Option.some.injEq] at e3
                exact .inl ⟨e3.symm, h2⟩
              · exact .inr ⟨y, oy, vs', h1, h2, FRel.rn mp' e3 h3⟩
          · exact h.elim
      · exact h.elim
end
theorem fn_small {P : Program} {w : World} {K : PySem.W.Frag} {mg : Str → Option Value} {base : Heap} {CX : CXT} {j n : Nat} {f : Addr} {fd : FuncData} {ps : List Str} {ff : FF} (F : FnOk P w K mg base CX j f fd ps (spF ⟨K, P, w⟩ n ff)) : FnOk P w K mg base CX j f fd ps (spF ⟨K, P, w⟩ n (fnP ff)) := by
  have imp : ∀ vs H Q E, spF ⟨K, P, w⟩ n (fnP ff) vs H Q E → spF ⟨K, P, w⟩ n ff vs H Q E := fun vs H Q E ⟨ι, M, ds, A, r, hl, h⟩ => by
    obtain ⟨ι', M', ds', A', r', hl', h'⟩ := small_ok A r h
    exact ⟨ι', M', ds', A', r', hl'.trans hl, h'⟩
  exact F.imp imp
end Sh

namespace Sh
open PySem L2
theorem seq_nx {a b : SF} {env e1 : Env} {M M1 : Store} (h : a env M = .ok (.nx e1) M1) : sSeq a b env M = b e1 M1 := by
  unfold sSeq; rw [h]
theorem fnP_true {ff : FF} {ds : List D} {M : Store} (h1 : refsDs ds = []) (h2 : D.rns (posIn []) ds = some ds) (h : ff ds [] = .ok (.bl true) M) : isTrueR (fnP ff ds []) = true := by
  simp only [fnP, h1, closeR, h2, selO, h, List.nodup_nil, if_true, List.isPrefixOf, refsD, List.filter_nil, D.rn, isTrueR]
theorem fnS_true {np ns : Nat} {body : SF} {ds : List D} {M0 M : Store} (h : body (ds.map some ++ List.replicate (ns - np) none) M0 = .ok (.rt (.bl true)) M) : fnS np ns body ds M0 = .ok (.bl true) M := by
  unfold fnS; rw [h]
end Sh

namespace K13
open PySem L2 Sh
def tp (i : Nat) : Stmt := PySem.Challenge.pw_roundshares_k13_known_more.main.body.getD i (.Pass ⟨0, 0, 0, 0⟩)
def tc (i j : Nat) : Stmt := (clsBody (tp i)).getD j (.Pass ⟨0, 0, 0, 0⟩)
abbrev CS : List Nat := [0, 10, 11, 12, 13]
abbrev XS : List Nat := [14, 15, 16, 17, 19, 24]
def dd_Ruledd_lendd : He.DefD := ⟨("Rule", some "__len__"), "__len__", "Rule.__len__", defArgs (tc 18 2), defBody (tc 18 2), defScope (tc 18 2), [], []⟩
def dd_is_number : He.DefD := ⟨("is_number", none), "is_number", "is_number", defArgs (tp 14), defBody (tp 14), defScope (tp 14), [], []⟩
def dd_are_weights : He.DefD := ⟨("are_weights", none), "are_weights", "are_weights", defArgs (tp 16), defBody (tp 16), defScope (tp 16), [], []⟩
def dd_are_amounts : He.DefD := ⟨("are_amounts", none), "are_amounts", "are_amounts", defArgs (tp 17), defBody (tp 17), defScope (tp 17), [], []⟩
def dd_is_word : He.DefD := ⟨("is_word", none), "is_word", "is_word", defArgs (tp 15), defBody (tp 15), defScope (tp 15), [], []⟩
def dd_Ruledd_initdd : He.DefD := ⟨("Rule", some "__init__"), "__init__", "Rule.__init__", defArgs (tc 18 0), defBody (tc 18 0), defScope (tc 18 0), [], [("kept", .int 0), ("pick", .str "most"), ("way", .str "ahead")]⟩
def dd_check_rule : He.DefD := ⟨("check_rule", none), "check_rule", "check_rule", defArgs (tp 19), defBody (tp 19), defScope (tp 19), [], []⟩
def dd_start_of : He.DefD := ⟨("start_of", none), "start_of", "start_of", defArgs (tp 22), defBody (tp 22), defScope (tp 22), [], []⟩
def dd_Rule_whole : He.DefD := ⟨("Rule", some "whole"), "whole", "Rule.whole", defArgs (tc 18 7), defBody (tc 18 7), defScope (tc 18 7), [], []⟩
def dd_greatest_claim : He.DefD := ⟨("greatest_claim", none), "greatest_claim", "greatest_claim", defArgs (tp 23), defBody (tp 23), defScope (tp 23), [], []⟩
def dd_picked : He.DefD := ⟨("picked", none), "picked", "picked", defArgs (tp 24), defBody (tp 24), defScope (tp 24), [], []⟩
def dd_done : He.DefD := ⟨("done", none), "done", "done", defArgs (tp 25), defBody (tp 25), defScope (tp 25), [], []⟩
def dd_reach : He.DefD := ⟨("reach", none), "reach", "reach", defArgs (tp 29), defBody (tp 29), defScope (tp 29), [], []⟩
def dd_pairs_of : He.DefD := ⟨("pairs_of", none), "pairs_of", "pairs_of", defArgs (tp 34), defBody (tp 34), defScope (tp 34), [], []⟩
def dd_behind_both : He.DefD := ⟨("behind_both", none), "behind_both", "behind_both", defArgs (tp 32), defBody (tp 32), defScope (tp 32), [], []⟩
def dd_can_exchange : He.DefD := ⟨("can_exchange", none), "can_exchange", "can_exchange", defArgs (tp 33), defBody (tp 33), defScope (tp 33), [], []⟩
def dd_first_ordered : He.DefD := ⟨("first_ordered", none), "first_ordered", "first_ordered", defArgs (tp 35), defBody (tp 35), defScope (tp 35), [], []⟩
def dd_Ordereddd_initdd : He.DefD := ⟨("Ordered", some "__init__"), "__init__", "Ordered.__init__", defArgs (tc 37 0), defBody (tc 37 0), defScope (tc 37 0), [], []⟩
def dd_Orderlessdd_initdd : He.DefD := ⟨("Orderless", some "__init__"), "__init__", "Orderless.__init__", defArgs (tc 36 0), defBody (tc 36 0), defScope (tc 36 0), [], []⟩
def dd_order : He.DefD := ⟨("order", none), "order", "order", defArgs (tp 38), defBody (tp 38), defScope (tp 38), [], []⟩
def dd_is_orderless : He.DefD := ⟨("is_orderless", none), "is_orderless", "is_orderless", defArgs (tp 39), defBody (tp 39), defScope (tp 39), [], []⟩
def dd_Rule_five : He.DefD := ⟨("Rule", some "five"), "five", "Rule.five", defArgs (tc 18 1), defBody (tc 18 1), defScope (tc 18 1), [], []⟩
def dd_Ruledd_eqdd : He.DefD := ⟨("Rule", some "__eq__"), "__eq__", "Rule.__eq__", defArgs (tc 18 5), defBody (tc 18 5), defScope (tc 18 5), [], []⟩
def dd_Orderlessdd_eqdd : He.DefD := ⟨("Orderless", some "__eq__"), "__eq__", "Orderless.__eq__", defArgs (tc 36 1), defBody (tc 36 1), defScope (tc 36 1), [], []⟩
def dd_Ordered_three : He.DefD := ⟨("Ordered", some "three"), "three", "Ordered.three", defArgs (tc 37 1), defBody (tc 37 1), defScope (tc 37 1), [], []⟩
def dd_Ordereddd_eqdd : He.DefD := ⟨("Ordered", some "__eq__"), "__eq__", "Ordered.__eq__", defArgs (tc 37 2), defBody (tc 37 2), defScope (tc 37 2), [], []⟩
def dd_Settleddd_eqdd : He.DefD := ⟨("Settled", some "__eq__"), "__eq__", "Settled.__eq__", defArgs (tc 51 1), defBody (tc 51 1), defScope (tc 51 1), [], []⟩
def dd_Unsettleddd_eqdd : He.DefD := ⟨("Unsettled", some "__eq__"), "__eq__", "Unsettled.__eq__", defArgs (tc 52 1), defBody (tc 52 1), defScope (tc 52 1), [], []⟩
def dd_soonest_order : He.DefD := ⟨("soonest_order", none), "soonest_order", "soonest_order", defArgs (tp 40), defBody (tp 40), defScope (tp 40), [], []⟩
def dd_is_amount : He.DefD := ⟨("is_amount", none), "is_amount", "is_amount", defArgs (tp 26), defBody (tp 26), defScope (tp 26), [], []⟩
def dd_check_row : He.DefD := ⟨("check_row", none), "check_row", "check_row", defArgs (tp 27), defBody (tp 27), defScope (tp 27), [], []⟩
def dd_walked : He.DefD := ⟨("walked", none), "walked", "walked", defArgs (tp 28), defBody (tp 28), defScope (tp 28), [], []⟩
def dd_exchanged : He.DefD := ⟨("exchanged", none), "exchanged", "exchanged", defArgs (tp 41), defBody (tp 41), defScope (tp 41), [], []⟩
def dd_orders_of : He.DefD := ⟨("orders_of", none), "orders_of", "orders_of", defArgs (tp 42), defBody (tp 42), defScope (tp 42), [], []⟩
def dd_totals_by : He.DefD := ⟨("totals_by", none), "totals_by", "totals_by", defArgs (tp 43), defBody (tp 43), defScope (tp 43), [], []⟩
def dd_ranges : He.DefD := ⟨("ranges", none), "ranges", "ranges", defArgs (tp 44), defBody (tp 44), defScope (tp 44), [], []⟩
def dd_Orderless_shows : He.DefD := ⟨("Orderless", some "shows"), "shows", "Orderless.shows", defArgs (tc 36 2), defBody (tc 36 2), defScope (tc 36 2), [], []⟩
def dd_Ordered_shows : He.DefD := ⟨("Ordered", some "shows"), "shows", "Ordered.shows", defArgs (tc 37 3), defBody (tc 37 3), defScope (tc 37 3), [], []⟩
def dd_states_of : He.DefD := ⟨("states_of", none), "states_of", "states_of", defArgs (tp 47), defBody (tp 47), defScope (tp 47), [], []⟩
def dd_led_from : He.DefD := ⟨("led_from", none), "led_from", "led_from", defArgs (tp 48), defBody (tp 48), defScope (tp 48), [], []⟩
def dd_Settled_shows : He.DefD := ⟨("Settled", some "shows"), "shows", "Settled.shows", defArgs (tc 51 2), defBody (tc 51 2), defScope (tc 51 2), [], []⟩
def dd_Unsettled_shows : He.DefD := ⟨("Unsettled", some "shows"), "shows", "Unsettled.shows", defArgs (tc 52 2), defBody (tc 52 2), defScope (tc 52 2), [], []⟩
def dd__law_exchanged_right : He.DefD := ⟨("_law_exchanged_right", none), "_law_exchanged_right", "_law_exchanged_right", defArgs (tp 58), defBody (tp 58), defScope (tp 58), [], []⟩
def dd__law_large_right : He.DefD := ⟨("_law_large_right", none), "_law_large_right", "_law_large_right", defArgs (tp 59), defBody (tp 59), defScope (tp 59), [], []⟩
def dd__law_three : He.DefD := ⟨("_law_three", none), "_law_three", "_law_three", defArgs (tp 57), defBody (tp 57), defScope (tp 57), [], []⟩
def dd_pair_of : He.DefD := ⟨("pair_of", none), "pair_of", "pair_of", defArgs (tp 49), defBody (tp 49), defScope (tp 49), [], []⟩
def dd_merging : He.DefD := ⟨("merging", none), "merging", "merging", defArgs (tp 50), defBody (tp 50), defScope (tp 50), [], []⟩
def dd_Unsettleddd_initdd : He.DefD := ⟨("Unsettled", some "__init__"), "__init__", "Unsettled.__init__", defArgs (tc 52 0), defBody (tc 52 0), defScope (tc 52 0), [], []⟩
def dd_Settleddd_initdd : He.DefD := ⟨("Settled", some "__init__"), "__init__", "Settled.__init__", defArgs (tc 51 0), defBody (tc 51 0), defScope (tc 51 0), [], []⟩
def dd_settle : He.DefD := ⟨("settle", none), "settle", "settle", defArgs (tp 53), defBody (tp 53), defScope (tp 53), [], []⟩
def dd_does_settle : He.DefD := ⟨("does_settle", none), "does_settle", "does_settle", defArgs (tp 54), defBody (tp 54), defScope (tp 54), [], []⟩
def dd_settles : He.DefD := ⟨("settles", none), "settles", "settles", defArgs (tp 55), defBody (tp 55), defScope (tp 55), [], []⟩
def dd__law_settling_right : He.DefD := ⟨("_law_settling_right", none), "_law_settling_right", "_law_settling_right", defArgs (tp 60), defBody (tp 60), defScope (tp 60), [], []⟩
def dd_law : He.DefD := ⟨("law", none), "law", "law", defArgs (tp 61), defBody (tp 61), defScope (tp 61), [], []⟩
def wx : Wx := { fa := [.free "len", .meth "Rule" "__len__", .glo "law", .free "sum", .free "int", .mkr "Rule", .free "isinstance", .free "tuple", .int "MOST_RECEIVERS" 4, .free "bool", .int "MOST_WEIGHT" 6, .glo "is_number", .free "all", .int "MOST_WHOLE" 12, .glo "are_weights", .free "zip", .glo "are_amounts", .free "str", .glo "PICKS", .glo "is_word", .glo "WAYS", .glo "Rule", .glo "check_rule", .glo "start_of", .free "list", .free "range", .free "enumerate", .cls "Rule", .meth "Rule" "whole", .free "max", .glo "greatest_claim", .glo "picked", .free "min", .glo "done", .int "MOST_STATES" 300, .exc "TooLarge", .glo "TooLarge", .glo "reach", .glo "pairs_of", .glo "behind_both", .glo "can_exchange", .glo "first_ordered", .mkr "Ordered", .glo "Ordered", .mkr "Orderless", .glo "Orderless", .glo "order", .glo "is_orderless", .meth "Rule" "five", .cls "Ordered", .meth "Ordered" "three", .glo "Settled", .glo "Unsettled", .meth "Rule" "__eq__", .meth "Orderless" "__eq__", .meth "Ordered" "__eq__", .meth "Settled" "__eq__", .meth "Unsettled" "__eq__", .glo "soonest_order", .glo "is_amount", .glo "check_row", .exc "BadAmount", .glo "BadAmount", .glo "walked", .glo "exchanged", .int "MOST_ORDERED" 6, .glo "orders_of", .glo "totals_by", .glo "ranges", .int "MOST_SETTLED" 60, .glo "states_of", .glo "led_from", .cls "Orderless", .meth "Orderless" "shows", .meth "Ordered" "shows", .cls "Settled", .meth "Settled" "shows", .cls "Unsettled", .meth "Unsettled" "shows", .glo "_law_exchanged_right", .glo "_law_large_right", .glo "_law_three", .glo "pair_of", .glo "merging", .mkr "Unsettled", .mkr "Settled", .glo "settle", .glo "does_settle", .glo "settles", .glo "_law_settling_right"], fn := [dd_Ruledd_lendd, dd_is_number, dd_are_weights, dd_are_amounts, dd_is_word, dd_Ruledd_initdd, dd_check_rule, dd_start_of, dd_Rule_whole, dd_greatest_claim, dd_picked, dd_done, dd_reach, dd_pairs_of, dd_behind_both, dd_can_exchange, dd_first_ordered, dd_Ordereddd_initdd, dd_Orderlessdd_initdd, dd_order, dd_is_orderless, dd_Rule_five, dd_Ruledd_eqdd, dd_Orderlessdd_eqdd, dd_Ordered_three, dd_Ordereddd_eqdd, dd_Settleddd_eqdd, dd_Unsettleddd_eqdd, dd_soonest_order, dd_is_amount, dd_check_row, dd_walked, dd_exchanged, dd_orders_of, dd_totals_by, dd_ranges, dd_Orderless_shows, dd_Ordered_shows, dd_states_of, dd_led_from, dd_Settled_shows, dd_Unsettled_shows, dd__law_exchanged_right, dd__law_large_right, dd__law_three, dd_pair_of, dd_merging, dd_Unsettleddd_initdd, dd_Settleddd_initdd, dd_settle, dd_does_settle, dd_settles, dd__law_settling_right, dd_law], cs := CS, tups := [("PICKS", ["most", "over", "turn"]), ("WAYS", ["ahead", "each"])], flds := [("weights", [0]), ("amounts", [0]), ("kept", [0]), ("pick", [0]), ("way", [0]), ("row", [11, 12]), ("one", [11]), ("other", [11]), ("states", [10]), ("pairs", [13])], ext := fun K => notfB K CS && (neB K CS && (exmB K XS && (true))) }
theorem notf {K : PySem.W.Frag} {mg : Str → Option Value} (F : FX wx K mg) : NotF K CS := by
  have z : (notfB K CS && (neB K CS && (exmB K XS && (true)))) = true := F.more
  exact notfB_ok (He.ba z).1
theorem neal {K : PySem.W.Frag} {mg : Str → Option Value} (F : FX wx K mg) : NeAll K CS := by
  have z : (notfB K CS && (neB K CS && (exmB K XS && (true)))) = true := F.more
  exact neB_ok (He.ba (He.ba z).2).1
theorem exmt {K : PySem.W.Frag} {mg : Str → Option Value} (F : FX wx K mg) : MtOk K (mtX XS) := by
  have z : (notfB K CS && (neB K CS && (exmB K XS && (true)))) = true := F.more
  exact exmB_ok (He.ba (He.ba (He.ba z).2).2).1
def dp_len0 : Nat → Option FF := fun _ => none
theorem hd_len0 {P : Program} {w : World} {K : PySem.W.Frag} {mg : Str → Option Value} {base : Heap} (F : FX wx K mg) : ∀ c ff, dp_len0 c = some ff → ∃ f, Meth K (ca K c) "__len__" f ∧ ∃ fd ps, FnOk P w K mg base (L2.CX P w) 0 f fd ps (spF ⟨K, P, w⟩ 1 ff) ∧ Binds K fd ps [] := fun c ff h => nomatch h
abbrev N_Ruledd_lendd : List Str := ["self"]
def b_Ruledd_lendd : SF := (sRet (eLen dp_len0 (eFld "weights" (fun c => List.contains [0] c) (eVar 0))))
def m_Ruledd_lendd : FF := fnP (fnS 1 1 b_Ruledd_lendd)
theorem sc_Ruledd_lendd : FnScope N_Ruledd_lendd ["self"] (defScope (tc 18 2)) := ⟨by rfl, by rfl, by rfl, by decide +kernel, by rfl, by decide +kernel, by decide +kernel⟩
set_option maxHeartbeats 4000000 in
theorem bo_Ruledd_lendd {P : Program} {w : World} {K : PySem.W.Frag} {mg : Str → Option Value} {base : Heap} (F : FX wx K mg) {f : Addr} {fd : FuncData} (D : FunD K dd_Ruledd_lendd.name dd_Ruledd_lendd.qual dd_Ruledd_lendd.params dd_Ruledd_lendd.body dd_Ruledd_lendd.scope (dd_Ruledd_lendd.dvs K) (dd_Ruledd_lendd.kws K) f fd) : FnOk P w K mg base (L2.CX P w) 2 f fd ["self"] (spF ⟨K, P, w⟩ 1 m_Ruledd_lendd) :=
  fn_small (fn_sh (np := 1) (ns := 1) (k := 1) (body := b_Ruledd_lendd) D sc_Ruledd_lendd rfl rfl fun cdv A outer s H E hr =>
    (sss_one (ss_ret (se_len (hd_len0 F) (hr.mono (by decide)) rfl (F.free 0) (se_fld (ok := (fun c => List.contains [0] c)) (F.fld 0) (sv 0) rfl)))))
theorem ok_Ruledd_lendd {P : Program} {w : World} {K : PySem.W.Frag} {mg : Str → Option Value} {base : Heap} (F : FX wx K mg) : FnC P w K mg base 2 (He.fAd K ("Rule", some "__len__")) 1 m_Ruledd_lendd := by
  obtain ⟨fd, D⟩ := F.says.def_ 0 (d := dd_Ruledd_lendd) rfl
  exact ⟨⟨fd, _, bo_Ruledd_lendd F D, D.bindsN fun _ _ _ _ _ _ us hl => match us, hl with | [_], _ => rfl⟩, D.kp⟩
def dp_len : Nat → Option FF := fun c => if c = 0 then some m_Ruledd_lendd else none
theorem hd_len {P : Program} {w : World} {K : PySem.W.Frag} {mg : Str → Option Value} {base : Heap} (F : FX wx K mg) : ∀ c ff, dp_len c = some ff → ∃ f, Meth K (ca K c) "__len__" f ∧ ∃ fd ps, FnOk P w K mg base (L2.CX P w) 2 f fd ps (spF ⟨K, P, w⟩ 1 ff) ∧ Binds K fd ps [] := by
  intro c ff h
  unfold dp_len at h
  by_cases hRule : c = 0
  · rw [if_pos hRule] at h; subst hRule; cases h; exact ⟨_, F.meth 1, ((ok_Ruledd_lendd F).mono (by decide)).1⟩
  rw [if_neg hRule] at h
  cases h
abbrev N_is_number : List Str := ["thing", "low", "high"]
def b_is_number : SF := (sRet (eAnd (eIsi CS [.ty "int"] (eVar 0)) (eAnd (eNot (eIsi CS [.ty "bool"] (eVar 0))) (eChain oLe oLe (eVar 1) (eVar 0) (eVar 2)))))
def m_is_number : FF := fnP (fnS 3 3 b_is_number)
theorem sc_is_number : FnScope N_is_number ["thing", "low", "high"] (defScope (tp 14)) := ⟨by rfl, by rfl, by rfl, by decide +kernel, by rfl, by decide +kernel, by decide +kernel⟩
set_option maxHeartbeats 4000000 in
theorem bo_is_number {P : Program} {w : World} {K : PySem.W.Frag} {mg : Str → Option Value} {base : Heap} (F : FX wx K mg) {f : Addr} {fd : FuncData} (D : FunD K dd_is_number.name dd_is_number.qual dd_is_number.params dd_is_number.body dd_is_number.scope (dd_is_number.dvs K) (dd_is_number.kws K) f fd) : FnOk P w K mg base (L2.CX P w) 1 f fd ["thing", "low", "high"] (spF ⟨K, P, w⟩ 3 m_is_number) :=
  fn_small (fn_sh (np := 3) (ns := 3) (k := 0) (body := b_is_number) D sc_is_number rfl rfl fun cdv A outer s H E hr =>
    (sss_one (ss_ret (se_and (isT (cs := CS) "int" F.isi (F.free 6) (F.free 4) (sv 0)) (se_and (se_not (isT (cs := CS) "bool" F.isi (F.free 6) (F.free 9) (sv 0))) (se_one (se_chain so_le so_le (sv 1) (sv 0) (sv 2) rfl)))))))
theorem ok_is_number {P : Program} {w : World} {K : PySem.W.Frag} {mg : Str → Option Value} {base : Heap} (F : FX wx K mg) : FnC P w K mg base 1 (He.fAd K ("is_number", none)) 3 m_is_number := by
  obtain ⟨fd, D⟩ := F.says.def_ 1 (d := dd_is_number) rfl
  exact ⟨⟨fd, _, bo_is_number F D, D.bindsN fun _ _ _ _ _ _ us hl => match us, hl with | [_, _, _], _ => rfl⟩, D.kp⟩
abbrev N_are_weights : List Str := ["thing", "one"]
def b_are_weights : SF := (sSeq (sIf (tOr (tNot (tVal (eIsi CS [.ty "tuple"] (eVar 0)))) (tNot (tVal (eChain oLe oLe (eC (.int 2)) (eLen dp_len (eVar 0)) (eC (.int 4)))))) (sRet (eC (.bl false))) sSkip) (sRet (eAnd (eB (op1 (gBls fun bs => bs.all id)) (aCons (eLc (iAny (eVar 0)) true [1] [1] tYesD (eCall 3 m_is_number (aCons (eVar 1) (aCons (eC (.int 1)) (aCons (eC (.int 6)) aNil))))) aNil)) (eBin oLe (eB (op1 gSum) (aCons (eVar 0) aNil)) (eC (.int 12))))))
def m_are_weights : FF := fnP (fnS 1 2 b_are_weights)
theorem sc_are_weights : FnScope N_are_weights ["thing"] (defScope (tp 16)) := ⟨by rfl, by rfl, by rfl, by decide +kernel, by rfl, by decide +kernel, by decide +kernel⟩
set_option maxHeartbeats 4000000 in
theorem bo_are_weights {P : Program} {w : World} {K : PySem.W.Frag} {mg : Str → Option Value} {base : Heap} (F : FX wx K mg) {f : Addr} {fd : FuncData} (D : FunD K dd_are_weights.name dd_are_weights.qual dd_are_weights.params dd_are_weights.body dd_are_weights.scope (dd_are_weights.dvs K) (dd_are_weights.kws K) f fd) : FnOk P w K mg base (L2.CX P w) 4 f fd ["thing"] (spF ⟨K, P, w⟩ 1 m_are_weights) :=
  fn_small (fn_sh (np := 1) (ns := 2) (k := 3) (body := b_are_weights) D sc_are_weights rfl rfl fun cdv A outer s H E hr =>
    (sss_cons (ss_if (st_w (sw_or (st_not (st_val (isT (cs := CS) "tuple" F.isi (F.free 6) (F.free 7) (sv 0)))) (sw_or1 (st_not (st_chain so_le so_le se_int (se_len (hd_len F) (hr.mono (by decide)) rfl (F.free 0) (sv 0)) (se_gint rfl (F.int 8)) rfl))))) (sss_one (ss_ret se_bl)) sss_nil) (sss_one (ss_ret (se_and (se_callB (cl_all rfl) rfl (F.free 12) (by decide +kernel) (sa_cons (se_lcP (own := [("one", 1)]) (one := true) (is := [1]) (t := (gName 1)) rfl sc_are_weights.nd (si_any (sv 0)) (blkOk_by (own := [("one", 1)]) (by rfl)) (by decide) (fun _ _ _ _ _ => ⟨(pg_name (i := 1) sc_are_weights.nd rfl (Or.inl rfl)), sts_nil, (sC (ok_is_number F) hr (F.glo 11) tk0 (sa_cons (sv 1) (sa_cons se_int (sa_cons (se_gint rfl (F.int 10)) sa_nil))))⟩) (fun e r h => rd_one (i := 1) e r h)) sa_nil)) (se_one (se_cmp so_le (se_callB (cl_sum rfl) rfl (F.free 3) (by decide +kernel) (sa_cons (sv 0) sa_nil)) (se_gint rfl (F.int 13)) rfl)))))))
theorem ok_are_weights {P : Program} {w : World} {K : PySem.W.Frag} {mg : Str → Option Value} {base : Heap} (F : FX wx K mg) : FnC P w K mg base 4 (He.fAd K ("are_weights", none)) 1 m_are_weights := by
  obtain ⟨fd, D⟩ := F.says.def_ 2 (d := dd_are_weights) rfl
  exact ⟨⟨fd, _, bo_are_weights F D, D.bindsN fun _ _ _ _ _ _ us hl => match us, hl with | [_], _ => rfl⟩, D.kp⟩
abbrev N_are_amounts : List Str := ["whole", "thing", "one", "other"]
def b_are_amounts : SF := (sSeq (sIf (tOr (tNot (tVal (eIsi CS [.ty "tuple"] (eVar 1)))) (tOr (tVal (eBin oEq (eVar 1) (eTup aNil))) (tNot (tVal (eB (op1 (gBls fun bs => bs.all id)) (aCons (eLc (iAny (eVar 1)) true [2] [2] tYesD (eCall 3 m_is_number (aCons (eVar 2) (aCons (eC (.int 1)) (aCons (eVar 0) aNil))))) aNil)))))) (sRet (eC (.bl false))) sSkip) (sRet (eB (op1 (gBls fun bs => bs.all id)) (aCons (eLc (iZip (eVar 1) (eSl (eVar 1) (pSome (eC (.int 1))) pNone)) false [2, 3] [2, 3] tYesD (eBin oLt (eVar 2) (eVar 3))) aNil))))
def m_are_amounts : FF := fnP (fnS 2 4 b_are_amounts)
theorem sc_are_amounts : FnScope N_are_amounts ["whole", "thing"] (defScope (tp 17)) := ⟨by rfl, by rfl, by rfl, by decide +kernel, by rfl, by decide +kernel, by decide +kernel⟩
set_option maxHeartbeats 4000000 in
theorem bo_are_amounts {P : Program} {w : World} {K : PySem.W.Frag} {mg : Str → Option Value} {base : Heap} (F : FX wx K mg) {f : Addr} {fd : FuncData} (D : FunD K dd_are_amounts.name dd_are_amounts.qual dd_are_amounts.params dd_are_amounts.body dd_are_amounts.scope (dd_are_amounts.dvs K) (dd_are_amounts.kws K) f fd) : FnOk P w K mg base (L2.CX P w) 2 f fd ["whole", "thing"] (spF ⟨K, P, w⟩ 2 m_are_amounts) :=
  fn_small (fn_sh (np := 2) (ns := 4) (k := 1) (body := b_are_amounts) D sc_are_amounts rfl rfl fun cdv A outer s H E hr =>
    (sss_cons (ss_if (st_w (sw_or (st_not (st_val (isT (cs := CS) "tuple" F.isi (F.free 6) (F.free 7) (sv 1)))) (sw_or (st_cmp (so_eq (room_v hr)) (sv 1) (se_tup sa_nil) rfl) (sw_or1 (st_not (st_val (se_callB (cl_all rfl) rfl (F.free 12) (by decide +kernel) (sa_cons (se_lcP (own := [("one", 2)]) (one := true) (is := [2]) (t := (gName 2)) rfl sc_are_amounts.nd (si_any (sv 1)) (blkOk_by (own := [("one", 2)]) (by rfl)) (by decide) (fun _ _ _ _ _ => ⟨(pg_name (i := 2) sc_are_amounts.nd rfl (Or.inl rfl)), sts_nil, (sC (ok_is_number F) hr (F.glo 11) tk0 (sa_cons (sv 2) (sa_cons se_int (sa_cons (sv 0) sa_nil))))⟩) (fun e r h => rd_one (i := 2) e r h)) sa_nil)))))))) (sss_one (ss_ret se_bl)) sss_nil) (sss_one (ss_ret (se_callB (cl_all rfl) rfl (F.free 12) (by decide +kernel) (sa_cons (se_lcP (own := [("one", 2), ("other", 3)]) (one := false) (is := [2, 3]) (t := (gTup K 2 (gNs [2, 3]))) rfl sc_are_amounts.nd (si_zip rfl (F.free 15) (sv 1) (se_sl (sv 1) (so_some se_int) so_none)) (blkOk_by (own := [("one", 2), ("other", 3)]) (by rfl)) (by decide) (fun _ _ _ _ _ => ⟨(pg_tup rfl (gns_cons (i := 2) sc_are_amounts.nd rfl (Or.inl rfl) (gns_cons (i := 3) sc_are_amounts.nd rfl (Or.inl rfl) gns_nil))), sts_nil, (se_cmp so_lt (sv 2) (sv 3) rfl)⟩) (fun e r h => rd_tup (is := [2, 3]) e r h)) sa_nil))))))
theorem ok_are_amounts {P : Program} {w : World} {K : PySem.W.Frag} {mg : Str → Option Value} {base : Heap} (F : FX wx K mg) : FnC P w K mg base 2 (He.fAd K ("are_amounts", none)) 2 m_are_amounts := by
  obtain ⟨fd, D⟩ := F.says.def_ 3 (d := dd_are_amounts) rfl
  exact ⟨⟨fd, _, bo_are_amounts F D, D.bindsN fun _ _ _ _ _ _ us hl => match us, hl with | [_, _], _ => rfl⟩, D.kp⟩
abbrev N_is_word : List Str := ["thing", "words"]
def b_is_word : SF := (sRet (eAnd (eIsi CS [.ty "str"] (eVar 0)) (eBin (oIn false) (eVar 0) (eVar 1))))
def m_is_word : FF := fnP (fnS 2 2 b_is_word)
theorem sc_is_word : FnScope N_is_word ["thing", "words"] (defScope (tp 15)) := ⟨by rfl, by rfl, by rfl, by decide +kernel, by rfl, by decide +kernel, by decide +kernel⟩
set_option maxHeartbeats 4000000 in
theorem bo_is_word {P : Program} {w : World} {K : PySem.W.Frag} {mg : Str → Option Value} {base : Heap} (F : FX wx K mg) {f : Addr} {fd : FuncData} (D : FunD K dd_is_word.name dd_is_word.qual dd_is_word.params dd_is_word.body dd_is_word.scope (dd_is_word.dvs K) (dd_is_word.kws K) f fd) : FnOk P w K mg base (L2.CX P w) 1 f fd ["thing", "words"] (spF ⟨K, P, w⟩ 2 m_is_word) :=
  fn_small (fn_sh (np := 2) (ns := 2) (k := 0) (body := b_is_word) D sc_is_word rfl rfl fun cdv A outer s H E hr =>
    (sss_one (ss_ret (se_and (isT (cs := CS) "str" F.isi (F.free 6) (F.free 17) (sv 0)) (se_one (se_cmp (so_in (room_u hr)) (sv 0) (sv 1) rfl))))))
theorem ok_is_word {P : Program} {w : World} {K : PySem.W.Frag} {mg : Str → Option Value} {base : Heap} (F : FX wx K mg) : FnC P w K mg base 1 (He.fAd K ("is_word", none)) 2 m_is_word := by
  obtain ⟨fd, D⟩ := F.says.def_ 4 (d := dd_is_word) rfl
  exact ⟨⟨fd, _, bo_is_word F D, D.bindsN fun _ _ _ _ _ _ us hl => match us, hl with | [_, _], _ => rfl⟩, D.kp⟩
abbrev N_Ruledd_initdd : List Str := ["self", "weights", "amounts", "kept", "pick", "way"]
def b_Ruledd_initdd : SF := (sSeq (sIf (tNot (tVal (eCall 1 m_are_weights (aCons (eVar 1) aNil)))) sBad sSkip) (sSeq (sIf (tNot (tVal (eCall 2 m_are_amounts (aCons (eB (op1 gSum) (aCons (eVar 1) aNil)) (aCons (eVar 2) aNil))))) sBad sSkip) (sSeq (sIf (tNot (tVal (eCall 3 m_is_number (aCons (eVar 3) (aCons (eC (.int 0)) (aCons (eB (op1 gSum) (aCons (eVar 1) aNil)) aNil)))))) sBad sSkip) (sSeq (sIf (tNot (tVal (eCall 2 m_is_word (aCons (eVar 4) (aCons (eC (.tup (List.map D.str (["most", "over", "turn"] : List Str)))) aNil))))) sBad sSkip) (sSeq (sIf (tNot (tVal (eCall 2 m_is_word (aCons (eVar 5) (aCons (eC (.tup (List.map D.str (["ahead", "each"] : List Str)))) aNil))))) sBad sSkip) (sSeq (sFld "weights" (fun c => List.contains [0] c) (eVar 0) (eVar 1)) (sSeq (sFld "amounts" (fun c => List.contains [0] c) (eVar 0) (eVar 2)) (sSeq (sFld "kept" (fun c => List.contains [0] c) (eVar 0) (eVar 3)) (sSeq (sFld "pick" (fun c => List.contains [0] c) (eVar 0) (eVar 4)) (sFld "way" (fun c => List.contains [0] c) (eVar 0) (eVar 5)))))))))))
def m_Ruledd_initdd : FF := fnT 0 (fnS 6 6 b_Ruledd_initdd)
theorem sc_Ruledd_initdd : FnScope N_Ruledd_initdd ["self", "weights", "amounts", "kept", "pick", "way"] (defScope (tc 18 0)) := ⟨by rfl, by rfl, by rfl, by decide +kernel, by rfl, by decide +kernel, by decide +kernel⟩
set_option maxHeartbeats 4000000 in
theorem bo_Ruledd_initdd {P : Program} {w : World} {K : PySem.W.Frag} {mg : Str → Option Value} {base : Heap} (F : FX wx K mg) {f : Addr} {fd : FuncData} (D : FunD K dd_Ruledd_initdd.name dd_Ruledd_initdd.qual dd_Ruledd_initdd.params dd_Ruledd_initdd.body dd_Ruledd_initdd.scope (dd_Ruledd_initdd.dvs K) (dd_Ruledd_initdd.kws K) f fd) : FnOk P w K mg base (L2.CX P w) 5 f fd ["self", "weights", "amounts", "kept", "pick", "way"] (spF ⟨K, P, w⟩ 6 m_Ruledd_initdd) :=
  fn_trim (fn_sh (np := 6) (ns := 6) (k := 4) (body := b_Ruledd_initdd) D sc_Ruledd_initdd rfl rfl fun cdv A outer s H E hr =>
    (sss_cons (ss_if (st_not (st_val (sC (ok_are_weights F) hr (F.glo 14) tkF (sa_cons (sv 1) sa_nil)))) (sss_one ss_bad) sss_nil) (sss_cons (ss_if (st_not (st_val (sC (ok_are_amounts F) hr (F.glo 16) tkF (sa_cons (se_callB (cl_sum rfl) rfl (F.free 3) (by decide +kernel) (sa_cons (sv 1) sa_nil)) (sa_cons (sv 2) sa_nil))))) (sss_one ss_bad) sss_nil) (sss_cons (ss_if (st_not (st_val (sC (ok_is_number F) hr (F.glo 11) tkF (sa_cons (sv 3) (sa_cons se_int (sa_cons (se_callB (cl_sum rfl) rfl (F.free 3) (by decide +kernel) (sa_cons (sv 1) sa_nil)) sa_nil)))))) (sss_one ss_bad) sss_nil) (sss_cons (ss_if (st_not (st_val (sC (ok_is_word F) hr (F.glo 19) tkF (sa_cons (sv 4) (sa_cons (se_gtup rfl (F.glo 18) (F.tup 0)) sa_nil))))) (sss_one ss_bad) sss_nil) (sss_cons (ss_if (st_not (st_val (sC (ok_is_word F) hr (F.glo 19) tkF (sa_cons (sv 5) (sa_cons (se_gtup rfl (F.glo 20) (F.tup 1)) sa_nil))))) (sss_one ss_bad) sss_nil) (sss_cons (ss_fld (ok := (fun c => List.contains [0] c)) (F.fld 0) (sv 0) (sv 1) rfl) (sss_cons (ss_fld (ok := (fun c => List.contains [0] c)) (F.fld 1) (sv 0) (sv 2) rfl) (sss_cons (ss_fld (ok := (fun c => List.contains [0] c)) (F.fld 2) (sv 0) (sv 3) rfl) (sss_cons (ss_fld (ok := (fun c => List.contains [0] c)) (F.fld 3) (sv 0) (sv 4) rfl) (sss_one (ss_fld (ok := (fun c => List.contains [0] c)) (F.fld 4) (sv 0) (sv 5) rfl))))))))))))
theorem okk_Ruledd_initdd_kept {P : Program} {w : World} {K : PySem.W.Frag} {mg : Str → Option Value} {base : Heap} (F : FX wx K mg) : FnKC P w K mg base 5 (He.fAd K ("Rule", some "__init__")) 3 ["kept"] 6 (gKw 0 [.str "most", .str "ahead"]) m_Ruledd_initdd := by
  obtain ⟨fd, D⟩ := F.says.def_ 5 (d := dd_Ruledd_initdd) rfl
  exact ⟨fd, _, bo_Ruledd_initdd F D, bd_kw (FunD.kbinds0 D 3 ["kept"] [("pick", V.str "most"), ("way", V.str "ahead")] (fun us mv ws => us ++ (mv.take 0 ++ (ws ++ mv.drop 0))) (List.cons_ne_nil _ _) (fun q hq => (List.Sublist.cons _ (List.Sublist.cons₂ _ (List.Sublist.cons₂ _ List.Sublist.slnil))).subset hq) (fun r1 r2 r3 => vals_kw r1 r2 r3) fun Dk doc pm an cdv ct us mv ws h1 h2 h3 => match us, mv, ws, h1, h2, h3 with | [u0, u1, u2], [v0, v1], [w0], _, _, _ => ⟨_, _, _, _, _, _, rfl, rfl, ⟨_, _, _, _, _, _, rfl, rfl, rfl⟩⟩) (by intro ι H; simp [Reps, Rep, He.Dv.v])⟩
abbrev N_check_rule : List Str := ["rule"]
def b_check_rule : SF := (sIf (tNot (tVal (eIsi CS [.cls 0] (eVar 0)))) sBad sSkip)
def m_check_rule : FF := fnP (fnS 1 1 b_check_rule)
theorem sc_check_rule : FnScope N_check_rule ["rule"] (defScope (tp 19)) := ⟨by rfl, by rfl, by rfl, by decide +kernel, by rfl, by decide +kernel, by decide +kernel⟩
set_option maxHeartbeats 4000000 in
theorem bo_check_rule {P : Program} {w : World} {K : PySem.W.Frag} {mg : Str → Option Value} {base : Heap} (F : FX wx K mg) {f : Addr} {fd : FuncData} (D : FunD K dd_check_rule.name dd_check_rule.qual dd_check_rule.params dd_check_rule.body dd_check_rule.scope (dd_check_rule.dvs K) (dd_check_rule.kws K) f fd) : FnOk P w K mg base (L2.CX P w) 1 f fd ["rule"] (spF ⟨K, P, w⟩ 1 m_check_rule) :=
  fn_small (fn_sh (np := 1) (ns := 1) (k := 0) (body := b_check_rule) D sc_check_rule rfl rfl fun cdv A outer s H E hr =>
    (sss_one (ss_if (st_not (st_val (isC (cs := CS) 0 F.isi (F.free 6) (F.glo 21) (sv 0)))) (sss_one ss_bad) sss_nil)))
theorem ok_check_rule {P : Program} {w : World} {K : PySem.W.Frag} {mg : Str → Option Value} {base : Heap} (F : FX wx K mg) : FnC P w K mg base 1 (He.fAd K ("check_rule", none)) 1 m_check_rule := by
  obtain ⟨fd, D⟩ := F.says.def_ 6 (d := dd_check_rule) rfl
  exact ⟨⟨fd, _, bo_check_rule F D, D.bindsN fun _ _ _ _ _ _ us hl => match us, hl with | [_], _ => rfl⟩, D.kp⟩
abbrev N_start_of : List Str := ["rule"]
def b_start_of : SF := (sRet (eTup (aCons (eBin oMul (eTup (aCons (eC (.int 0)) aNil)) (eLen dp_len (eVar 0))) (aCons (eBin oSub (eLen dp_len (eVar 0)) (eC (.int 1))) aNil))))
def m_start_of : FF := fnP (fnS 1 1 b_start_of)
theorem sc_start_of : FnScope N_start_of ["rule"] (defScope (tp 22)) := ⟨by rfl, by rfl, by rfl, by decide +kernel, by rfl, by decide +kernel, by decide +kernel⟩
set_option maxHeartbeats 4000000 in
theorem bo_start_of {P : Program} {w : World} {K : PySem.W.Frag} {mg : Str → Option Value} {base : Heap} (F : FX wx K mg) {f : Addr} {fd : FuncData} (D : FunD K dd_start_of.name dd_start_of.qual dd_start_of.params dd_start_of.body dd_start_of.scope (dd_start_of.dvs K) (dd_start_of.kws K) f fd) : FnOk P w K mg base (L2.CX P w) 4 f fd ["rule"] (spF ⟨K, P, w⟩ 1 m_start_of) :=
  fn_small (fn_sh (np := 1) (ns := 1) (k := 3) (body := b_start_of) D sc_start_of rfl rfl fun cdv A outer s H E hr =>
    (sss_one (ss_ret (se_tup (sa_cons (se_bin so_mul (se_tup (sa_cons se_int sa_nil)) (se_len (hd_len F) (hr.mono (by decide)) rfl (F.free 0) (sv 0))) (sa_cons (se_bin so_sub (se_len (hd_len F) (hr.mono (by decide)) rfl (F.free 0) (sv 0)) se_int) sa_nil))))))
theorem ok_start_of {P : Program} {w : World} {K : PySem.W.Frag} {mg : Str → Option Value} {base : Heap} (F : FX wx K mg) : FnC P w K mg base 4 (He.fAd K ("start_of", none)) 1 m_start_of := by
  obtain ⟨fd, D⟩ := F.says.def_ 7 (d := dd_start_of) rfl
  exact ⟨⟨fd, _, bo_start_of F D, D.bindsN fun _ _ _ _ _ _ us hl => match us, hl with | [_], _ => rfl⟩, D.kp⟩
abbrev N_Rule_whole : List Str := ["self"]
def b_Rule_whole : SF := (sRet (eB (op1 gSum) (aCons (eFld "weights" (fun c => List.contains [0] c) (eVar 0)) aNil)))
def m_Rule_whole : FF := fnP (fnS 1 1 b_Rule_whole)
theorem sc_Rule_whole : FnScope N_Rule_whole ["self"] (defScope (tc 18 7)) := ⟨by rfl, by rfl, by rfl, by decide +kernel, by rfl, by decide +kernel, by decide +kernel⟩
set_option maxHeartbeats 4000000 in
theorem bo_Rule_whole {P : Program} {w : World} {K : PySem.W.Frag} {mg : Str → Option Value} {base : Heap} (F : FX wx K mg) {f : Addr} {fd : FuncData} (D : FunD K dd_Rule_whole.name dd_Rule_whole.qual dd_Rule_whole.params dd_Rule_whole.body dd_Rule_whole.scope (dd_Rule_whole.dvs K) (dd_Rule_whole.kws K) f fd) : FnOk P w K mg base (L2.CX P w) 1 f fd ["self"] (spF ⟨K, P, w⟩ 1 m_Rule_whole) :=
  fn_small (fn_sh (np := 1) (ns := 1) (k := 0) (body := b_Rule_whole) D sc_Rule_whole rfl rfl fun cdv A outer s H E hr =>
    (sss_one (ss_ret (se_callB (cl_sum rfl) rfl (F.free 3) (by decide +kernel) (sa_cons (se_fld (ok := (fun c => List.contains [0] c)) (F.fld 0) (sv 0) rfl) sa_nil)))))
theorem ok_Rule_whole {P : Program} {w : World} {K : PySem.W.Frag} {mg : Str → Option Value} {base : Heap} (F : FX wx K mg) : FnC P w K mg base 1 (He.fAd K ("Rule", some "whole")) 1 m_Rule_whole := by
  obtain ⟨fd, D⟩ := F.says.def_ 8 (d := dd_Rule_whole) rfl
  exact ⟨⟨fd, _, bo_Rule_whole F D, D.bindsN fun _ _ _ _ _ _ us hl => match us, hl with | [_], _ => rfl⟩, D.kp⟩
def dp_whole : Nat → Option (Nat × FF) := fun c => if c = 0 then some (1, m_Rule_whole) else none
theorem hd_whole {P : Program} {w : World} {K : PySem.W.Frag} {mg : Str → Option Value} {base : Heap} (F : FX wx K mg) : ∀ c n ff, dp_whole c = some (n, ff) → Cls K (ca K c) ∧ ∃ f, Meth K (ca K c) "whole" f ∧ ∃ fd ps, FnOk P w K mg base (L2.CX P w) 1 f fd ps (spF ⟨K, P, w⟩ n ff) ∧ Binds K fd ps [] := by
  intro c n ff h
  unfold dp_whole at h
  by_cases hRule : c = 0
  · rw [if_pos hRule] at h; subst hRule; cases h; exact ⟨F.cls 27, _, F.meth 28, ((ok_Rule_whole F).mono (by decide)).1⟩
  rw [if_neg hRule] at h
  cases h
abbrev N_greatest_claim : List Str := ["claims"]
def b_greatest_claim : SF := (sRet (eMt "list" oIndex (eVar 0) (aCons (eB opMax (aCons (eVar 0) aNil)) aNil)))
def m_greatest_claim : FF := fnP (fnS 1 1 b_greatest_claim)
theorem sc_greatest_claim : FnScope N_greatest_claim ["claims"] (defScope (tp 23)) := ⟨by rfl, by rfl, by rfl, by decide +kernel, by rfl, by decide +kernel, by decide +kernel⟩
set_option maxHeartbeats 4000000 in
theorem bo_greatest_claim {P : Program} {w : World} {K : PySem.W.Frag} {mg : Str → Option Value} {base : Heap} (F : FX wx K mg) {f : Addr} {fd : FuncData} (D : FunD K dd_greatest_claim.name dd_greatest_claim.qual dd_greatest_claim.params dd_greatest_claim.body dd_greatest_claim.scope (dd_greatest_claim.dvs K) (dd_greatest_claim.kws K) f fd) : FnOk P w K mg base (L2.CX P w) 1 f fd ["claims"] (spF ⟨K, P, w⟩ 1 m_greatest_claim) :=
  fn_small (fn_sh (np := 1) (ns := 1) (k := 0) (body := b_greatest_claim) D sc_greatest_claim rfl rfl fun cdv A outer s H E hr =>
    (sss_one (ss_ret (se_mt PySem.F.plainAttrs_list PySem.F.slot_list_index PySem.F.type_list_index (mt_idx (room_u hr)) (sv 0) (sa_cons (se_callB (cl_max rfl) rfl (F.free 29) (by decide +kernel) (sa_cons (sv 0) sa_nil)) sa_nil)))))
theorem ok_greatest_claim {P : Program} {w : World} {K : PySem.W.Frag} {mg : Str → Option Value} {base : Heap} (F : FX wx K mg) : FnC P w K mg base 1 (He.fAd K ("greatest_claim", none)) 1 m_greatest_claim := by
  obtain ⟨fd, D⟩ := F.says.def_ 9 (d := dd_greatest_claim) rfl
  exact ⟨⟨fd, _, bo_greatest_claim F D, D.bindsN fun _ _ _ _ _ _ us hl => match us, hl with | [_], _ => rfl⟩, D.kp⟩
abbrev N_picked : List Str := ["rule", "claims", "turn", "some", "order", "number", "claim", "step"]
def b_picked : SF := (sSeq (sIf (tVal (eBin oEq (eFld "pick" (fun c => List.contains [0] c) (eVar 0)) (eC (.str "over")))) (sSet 3 (eLc (iEnum (eVar 1)) false [5, 6] [5, 6] (tVal (eBin oGe (eVar 6) (eMeth "whole" dp_whole (eVar 0) aNil))) (eVar 5))) (sIf (tVal (eBin oEq (eFld "pick" (fun c => List.contains [0] c) (eVar 0)) (eC (.str "turn")))) (sSeq (sSet 4 (eLc (iRng1 (eLen dp_len (eVar 1))) true [7] [7] tYesD (eBin oMod (eBin oAdd (eBin oAdd (eVar 2) (eC (.int 1))) (eVar 7)) (eLen dp_len (eVar 1))))) (sSet 3 (eLc (iAny (eVar 4)) true [5] [5] (tVal (eBin oGt (eBin oIx (eVar 1) (eVar 5)) (eC (.int 0)))) (eVar 5)))) (sSet 3 (eLst aNil)))) (sRet (eIf (tVal (eBin oNe (eVar 3) (eLst aNil))) (eBin oIx (eVar 3) (eC (.int 0))) (eCall 1 m_greatest_claim (aCons (eVar 1) aNil)))))
def m_picked : FF := fnP (fnS 3 8 b_picked)
theorem sc_picked : FnScope N_picked ["rule", "claims", "turn"] (defScope (tp 24)) := ⟨by rfl, by rfl, by rfl, by decide +kernel, by rfl, by decide +kernel, by decide +kernel⟩
set_option maxHeartbeats 4000000 in
theorem bo_picked {P : Program} {w : World} {K : PySem.W.Frag} {mg : Str → Option Value} {base : Heap} (F : FX wx K mg) {f : Addr} {fd : FuncData} (D : FunD K dd_picked.name dd_picked.qual dd_picked.params dd_picked.body dd_picked.scope (dd_picked.dvs K) (dd_picked.kws K) f fd) : FnOk P w K mg base (L2.CX P w) 4 f fd ["rule", "claims", "turn"] (spF ⟨K, P, w⟩ 3 m_picked) :=
  fn_small (fn_sh (np := 3) (ns := 8) (k := 3) (body := b_picked) D sc_picked rfl rfl fun cdv A outer s H E hr =>
    (sss_cons (ss_if (st_cmp (so_eq (room_v hr)) (se_fld (ok := (fun c => List.contains [0] c)) (F.fld 3) (sv 0) rfl) se_str rfl) (sss_one (ss_setLcP (i := 3) (own := [("number", 5), ("claim", 6)]) (one := false) (is := [5, 6]) (t := (gTup K 2 (gNs [5, 6]))) rfl sc_picked.nd rfl rfl (sw_true rfl rfl rfl (by decide +kernel)) (si_enum rfl (F.free 26) (sv 1)) (blkOk_by (own := [("number", 5), ("claim", 6)]) (by rfl)) (by decide) (fun _ _ _ _ _ => ⟨(pg_tup rfl (gns_cons (i := 5) sc_picked.nd rfl (Or.inl rfl) (gns_cons (i := 6) sc_picked.nd rfl (Or.inl rfl) gns_nil))), (sts_one (st_cmp so_ge (sv 6) (se_meth0 (sv 0) (hd_whole F) (hr.mono (by decide)) tk0) rfl)), (sv 5)⟩) (fun e r h => rd_tup (is := [5, 6]) e r h))) (sss_one (ss_if (st_cmp (so_eq (room_v hr)) (se_fld (ok := (fun c => List.contains [0] c)) (F.fld 3) (sv 0) rfl) se_str rfl) (sss_cons (ss_setLcP (i := 4) (own := [("step", 7)]) (one := true) (is := [7]) (t := (gName 7)) rfl sc_picked.nd rfl rfl (sw_true rfl rfl rfl (by decide +kernel)) (si_rng1 rfl (F.free 25) (se_len (hd_len F) (hr.mono (by decide)) rfl (F.free 0) (sv 1))) (blkOk_by (own := [("step", 7)]) (by rfl)) (by decide) (fun _ _ _ _ _ => ⟨(pg_name (i := 7) sc_picked.nd rfl (Or.inl rfl)), sts_nil, (se_bin so_mod (se_bin so_add (se_bin so_add (sv 2) se_int) (sv 7)) (se_len (hd_len F) (hr.mono (by decide)) rfl (F.free 0) (sv 1)))⟩) (fun e r h => rd_one (i := 7) e r h)) (sss_one (ss_setLcP (i := 3) (own := [("number", 5)]) (one := true) (is := [5]) (t := (gName 5)) rfl sc_picked.nd rfl rfl (sw_true rfl rfl rfl (by decide +kernel)) (si_any (sv 4)) (blkOk_by (own := [("number", 5)]) (by rfl)) (by decide) (fun _ _ _ _ _ => ⟨(pg_name (i := 5) sc_picked.nd rfl (Or.inl rfl)), (sts_one (st_cmp so_gt (se_ix (ix_all (room_v hr)) (sv 1) (sv 5) (fun _ _ => rfl)) se_int rfl)), (sv 5)⟩) (fun e r h => rd_one (i := 5) e r h)))) (sss_one (sset 3 sc_picked.nd (se_lst sa_nil)))))) (sss_one (ss_ret (se_if (st_cmp (so_ne (room_v hr)) (sv 3) (se_lst sa_nil) rfl) (se_ix (ix_all (room_v hr)) (sv 3) se_int (fun _ _ => rfl)) (sC (ok_greatest_claim F) hr (F.glo 30) tkF (sa_cons (sv 1) sa_nil)))))))
theorem ok_picked {P : Program} {w : World} {K : PySem.W.Frag} {mg : Str → Option Value} {base : Heap} (F : FX wx K mg) : FnC P w K mg base 4 (He.fAd K ("picked", none)) 3 m_picked := by
  obtain ⟨fd, D⟩ := F.says.def_ 10 (d := dd_picked) rfl
  exact ⟨⟨fd, _, bo_picked F D, D.bindsN fun _ _ _ _ _ _ us hl => match us, hl with | [_, _, _], _ => rfl⟩, D.kp⟩
abbrev N_done : List Str := ["rule", "state", "amount", "unit", "rests", "claims", "turn", "gets", "many", "number", "claim"]
def b_done : SF := (sSeq (sAsg (eTup (aCons (eB (op1 gListA) (aCons (eBin oIx (eVar 1) (eC (.int 0))) aNil)) (aCons (eBin oIx (eVar 1) (eC (.int 1))) aNil))) (gTu 2 (gsCons (gNm 5) (gsCons (gNm 6) gsNil)))) (sSeq (sPar [7, 8] (aCons (eBin oMul (eLst (aCons (eC (.int 0)) aNil)) (eLen dp_len (eVar 5))) (aCons (eLRg1 (eLen dp_len (eVar 5))) aNil))) (sSeq (sIf (tVal (eBin oEq (eFld "way" (fun c => List.contains [0] c) (eVar 0)) (eC (.str "ahead")))) (sSet 5 (eLc (iAny (eVar 8)) true [9] [9] tYesD (eBin oAdd (eBin oIx (eVar 5) (eVar 9)) (eBin oMul (eBin oIx (eFld "weights" (fun c => List.contains [0] c) (eVar 0)) (eVar 9)) (eVar 2))))) sSkip) (sSeq (sFor (iRng1 (eVar 2)) (gNm 3) (sSeq (sIf (tVal (eBin oEq (eFld "way" (fun c => List.contains [0] c) (eVar 0)) (eC (.str "each")))) (sSet 5 (eLc (iAny (eVar 8)) true [9] [9] tYesD (eBin oAdd (eBin oIx (eVar 5) (eVar 9)) (eBin oIx (eFld "weights" (fun c => List.contains [0] c) (eVar 0)) (eVar 9))))) sSkip) (sSeq (sSet 6 (eCall 3 m_picked (aCons (eVar 0) (aCons (eVar 5) (aCons (eVar 6) aNil))))) (sSeq (sAugS oGet oSub oSet (eVar 5) (eVar 6) (eMeth "whole" dp_whole (eVar 0) aNil)) (sAugS oGet (oII tt2 fun i j => .int (i + j)) oSet (eVar 7) (eVar 6) (eC (.int 1))))))) (sSeq (sSet 4 (eB (op1 gTuple) (aCons (eLc (iAny (eVar 5)) true [10] [10] tYesD (eB opMax (aCons (eBin oSub (eC (.int 0)) (eFld "kept" (fun c => List.contains [0] c) (eVar 0))) (aCons (eB opMin (aCons (eFld "kept" (fun c => List.contains [0] c) (eVar 0)) (aCons (eVar 10) aNil))) aNil)))) aNil))) (sRet (eTup (aCons (eTup (aCons (eVar 4) (aCons (eVar 6) aNil))) (aCons (eB (op1 gTuple) (aCons (eVar 7) aNil)) aNil)))))))))
def m_done : FF := fnP (fnS 3 11 b_done)
theorem sc_done : FnScope N_done ["rule", "state", "amount"] (defScope (tp 25)) := ⟨by rfl, by rfl, by rfl, by decide +kernel, by rfl, by decide +kernel, by decide +kernel⟩
set_option maxHeartbeats 4000000 in
theorem bo_done {P : Program} {w : World} {K : PySem.W.Frag} {mg : Str → Option Value} {base : Heap} (F : FX wx K mg) {f : Addr} {fd : FuncData} (D : FunD K dd_done.name dd_done.qual dd_done.params dd_done.body dd_done.scope (dd_done.dvs K) (dd_done.kws K) f fd) : FnOk P w K mg base (L2.CX P w) 5 f fd ["rule", "state", "amount"] (spF ⟨K, P, w⟩ 3 m_done) :=
  fn_small (fn_sh (np := 3) (ns := 11) (k := 4) (body := b_done) D sc_done rfl rfl fun cdv A outer s H E hr =>
    (sss_cons (ss_asg (se_tup (sa_cons (se_callTy (cl_listA rfl) rfl (F.free 24) (by decide +kernel) (sa_cons (se_ix (ix_all (room_v hr)) (sv 1) se_int (fun _ _ => rfl)) sa_nil)) (sa_cons (se_ix (ix_all (room_v hr)) (sv 1) se_int (fun _ _ => rfl)) sa_nil))) (sg_tu rfl (sgs_cons (gnm 5 sc_done.nd) (sgs_cons (gnm 6 sc_done.nd) sgs_nil)))) (sss_cons (ss_par2 (i := 7) (j := 8) rfl sc_done.nd rfl rfl (by decide) rfl rfl (sa_cons (se_bin so_mul (se_lst (sa_cons se_int sa_nil)) (se_len (hd_len F) (hr.mono (by decide)) rfl (F.free 0) (sv 5))) (sa_cons (se_listRg1 rfl rfl (F.free 24) rfl (F.free 25) (se_len (hd_len F) (hr.mono (by decide)) rfl (F.free 0) (sv 5))) sa_nil)) rfl) (sss_cons (ss_if (st_cmp (so_eq (room_v hr)) (se_fld (ok := (fun c => List.contains [0] c)) (F.fld 4) (sv 0) rfl) se_str rfl) (sss_one (sset 5 sc_done.nd (se_lcP (own := [("number", 9)]) (one := true) (is := [9]) (t := (gName 9)) rfl sc_done.nd (si_any (sv 8)) (blkOk_by (own := [("number", 9)]) (by rfl)) (by decide) (fun _ _ _ _ _ => ⟨(pg_name (i := 9) sc_done.nd rfl (Or.inl rfl)), sts_nil, (se_bin so_add (se_ix (ix_all (room_v hr)) (sv 5) (sv 9) (fun _ _ => rfl)) (se_bin so_mul (se_ix (ix_all (room_v hr)) (se_fld (ok := (fun c => List.contains [0] c)) (F.fld 0) (sv 0) rfl) (sv 9) (fun _ _ => rfl)) (sv 2)))⟩) (fun e r h => rd_one (i := 9) e r h)))) sss_nil) (sss_cons (ss_for ownF rfl (si_rng1 rfl (F.free 25) (sv 2)) (gnm 3 sc_done.nd) (sss_cons (ss_if (st_cmp (so_eq (room_v hr)) (se_fld (ok := (fun c => List.contains [0] c)) (F.fld 4) (sv 0) rfl) se_str rfl) (sss_one (sset 5 sc_done.nd (se_lcP (own := [("number", 9)]) (one := true) (is := [9]) (t := (gName 9)) rfl sc_done.nd (si_any (sv 8)) (blkOk_by (own := [("number", 9)]) (by rfl)) (by decide) (fun _ _ _ _ _ => ⟨(pg_name (i := 9) sc_done.nd rfl (Or.inl rfl)), sts_nil, (se_bin so_add (se_ix (ix_all (room_v hr)) (sv 5) (sv 9) (fun _ _ => rfl)) (se_ix (ix_all (room_v hr)) (se_fld (ok := (fun c => List.contains [0] c)) (F.fld 0) (sv 0) rfl) (sv 9) (fun _ _ => rfl)))⟩) (fun e r h => rd_one (i := 9) e r h)))) sss_nil) (sss_cons (sset 6 sc_done.nd (sC (ok_picked F) hr (F.glo 31) tkF (sa_cons (sv 0) (sa_cons (sv 5) (sa_cons (sv 6) sa_nil))))) (sss_cons (ss_augS (sv 5) (sv 6) (pget_all (room_v hr)) (se_meth0 (sv 0) (hd_whole F) (hr.mono (by decide)) tkF) so_isub (set_all (room_v hr))) (sss_one (ss_augS (sv 7) (sv 6) (pget_all (room_v hr)) se_int so_iadd (set_all (room_v hr)))))))) (sss_cons (sset 4 sc_done.nd (se_callTy cl_tuple rfl (F.free 7) (by decide +kernel) (sa_cons (se_lcP (own := [("claim", 10)]) (one := true) (is := [10]) (t := (gName 10)) rfl sc_done.nd (si_any (sv 5)) (blkOk_by (own := [("claim", 10)]) (by rfl)) (by decide) (fun _ _ _ _ _ => ⟨(pg_name (i := 10) sc_done.nd rfl (Or.inl rfl)), sts_nil, (se_callB (cl_max rfl) rfl (F.free 29) (by decide +kernel) (sa_cons (se_bin so_sub se_int (se_fld (ok := (fun c => List.contains [0] c)) (F.fld 2) (sv 0) rfl)) (sa_cons (se_callB (cl_min rfl) rfl (F.free 32) (by decide +kernel) (sa_cons (se_fld (ok := (fun c => List.contains [0] c)) (F.fld 2) (sv 0) rfl) (sa_cons (sv 10) sa_nil))) sa_nil)))⟩) (fun e r h => rd_one (i := 10) e r h)) sa_nil))) (sss_one (ss_ret (se_tup (sa_cons (se_tup (sa_cons (sv 4) (sa_cons (sv 6) sa_nil))) (sa_cons (se_callTy cl_tuple rfl (F.free 7) (by decide +kernel) (sa_cons (sv 7) sa_nil)) sa_nil)))))))))))
theorem ok_done {P : Program} {w : World} {K : PySem.W.Frag} {mg : Str → Option Value} {base : Heap} (F : FX wx K mg) : FnC P w K mg base 5 (He.fAd K ("done", none)) 3 m_done := by
  obtain ⟨fd, D⟩ := F.says.def_ 11 (d := dd_done) rfl
  exact ⟨⟨fd, _, bo_done F D, D.bindsN fun _ _ _ _ _ _ us hl => match us, hl with | [_, _, _], _ => rfl⟩, D.kp⟩
abbrev N_reach : List Str := ["rule", "start", "found", "line", "state", "amount", "late"]
def b_reach : SF := (sSeq (sSet 1 (eCall 1 m_start_of (aCons (eVar 0) aNil))) (sSeq (sPar [2, 3] (aCons (eDisp [((eVar 1), (eTup aNil))]) (aCons (eLst (aCons (eVar 1) aNil)) aNil))) (sSeq (sWhile 2000 (tVal (eBin oNe (eVar 3) (eLst aNil))) (sSeq (sSet 4 (eMt "list" (oLst gPop) (eVar 3) (aCons (eC (.int 0)) aNil))) (sFor (iAny (eFld "amounts" (fun c => List.contains [0] c) (eVar 0))) (gNm 5) (sSeq (sSet 6 (eBin oIx (eCall 3 m_done (aCons (eVar 0) (aCons (eVar 4) (aCons (eVar 5) aNil)))) (eC (.int 0)))) (sIf (tVal (eBin (oIn true) (eVar 6) (eVar 2))) (sSeq (sIf (tVal (eBin oEq (eLen dp_len (eVar 2)) (eC (.int 300)))) (sRaise 19) sSkip) (sSeq (sStore oSet (eTup (aStar (eBin oIx (eVar 2) (eVar 4)) (aCons (eVar 5) aNil))) (eVar 2) (eVar 6)) (sExpr (eMt "list" (oLst gApp) (eVar 3) (aCons (eVar 6) aNil))))) sSkip))))) (sRet (eVar 2)))))
def m_reach : FF := fnP (fnS 1 7 b_reach)
theorem sc_reach : FnScope N_reach ["rule"] (defScope (tp 29)) := ⟨by rfl, by rfl, by rfl, by decide +kernel, by rfl, by decide +kernel, by decide +kernel⟩
set_option maxHeartbeats 4000000 in
theorem bo_reach {P : Program} {w : World} {K : PySem.W.Frag} {mg : Str → Option Value} {base : Heap} (F : FX wx K mg) {f : Addr} {fd : FuncData} (D : FunD K dd_reach.name dd_reach.qual dd_reach.params dd_reach.body dd_reach.scope (dd_reach.dvs K) (dd_reach.kws K) f fd) : FnOk P w K mg base (L2.CX P w) 6 f fd ["rule"] (spF ⟨K, P, w⟩ 1 m_reach) :=
  fn_small (fn_sh (np := 1) (ns := 7) (k := 5) (body := b_reach) D sc_reach rfl rfl fun cdv A outer s H E hr =>
    (sss_cons (sset 1 sc_reach.nd (sC (ok_start_of F) hr (F.glo 23) tkF (sa_cons (sv 0) sa_nil))) (sss_cons (ss_par2 (i := 2) (j := 3) rfl sc_reach.nd rfl rfl (by decide) rfl rfl (sa_cons (se_disp (ps := [((eVar 1), (eTup aNil))]) (room_v hr) (pps_cons (sv 1) (se_tup sa_nil) pps_nil) rfl rfl (by simp) (by decide)) (sa_cons (se_lst (sa_cons (sv 1) sa_nil)) sa_nil)) rfl) (sss_cons (ss_while (n := 2000) ownF (st_cmp (so_ne (room_v hr)) (sv 3) (se_lst sa_nil) rfl) (sss_cons (sset 4 sc_reach.nd (se_mt PySem.F.plainAttrs_list PySem.F.slot_list_pop PySem.F.type_list_pop mt_popAll (sv 3) (sa_cons se_int sa_nil))) (sss_one (ss_for ownF rfl (si_any (se_fld (ok := (fun c => List.contains [0] c)) (F.fld 1) (sv 0) rfl)) (gnm 5 sc_reach.nd) (sss_cons (sset 6 sc_reach.nd (se_ix (ix_all (room_v hr)) (sC (ok_done F) hr (F.glo 33) tkF (sa_cons (sv 0) (sa_cons (sv 4) (sa_cons (sv 5) sa_nil)))) se_int (fun _ _ => rfl))) (sss_one (ss_if (st_cmp (so_notIn (room_u hr)) (sv 6) (sv 2) rfl) (sss_cons (ss_if (st_cmp (so_eq (room_v hr)) (se_len (hd_len F) (hr.mono (by decide)) rfl (F.free 0) (sv 2)) (se_gint rfl (F.int 34)) rfl) (sss_one (ss_raise 19 (F.says.fact 35 rfl) (F.glo 36) tkF)) sss_nil) (sss_cons (ss_store (sv 2) (sv 6) (set_all (room_v hr)) (se_tup (sa_star (se_ix (ix_all (room_v hr)) (sv 2) (sv 4) (fun _ _ => rfl)) (sa_cons (sv 5) sa_nil))) rfl) (sss_one (ss_expr (se_mt PySem.F.plainAttrs_list PySem.F.slot_list_append PySem.F.type_list_append mt_app (sv 3) (sa_cons (sv 6) sa_nil)))))) sss_nil))))))) (sss_one (ss_ret (sv 2)))))))
theorem ok_reach {P : Program} {w : World} {K : PySem.W.Frag} {mg : Str → Option Value} {base : Heap} (F : FX wx K mg) : FnC P w K mg base 6 (He.fAd K ("reach", none)) 1 m_reach := by
  obtain ⟨fd, D⟩ := F.says.def_ 12 (d := dd_reach) rfl
  exact ⟨⟨fd, _, bo_reach F D, D.bindsN fun _ _ _ _ _ _ us hl => match us, hl with | [_], _ => rfl⟩, D.kp⟩
abbrev N_pairs_of : List Str := ["rule", "one", "other"]
def b_pairs_of : SF := (sRet (eLcN (iAny (eFld "amounts" (fun c => List.contains [0] c) (eVar 0))) true [1] [1, 2] tYesD (nLv (iAny (eFld "amounts" (fun c => List.contains [0] c) (eVar 0))) true [2] [2] (tVal (eBin oLt (eVar 1) (eVar 2))) (nEmL (eTup (aCons (eVar 1) (aCons (eVar 2) aNil)))))))
def m_pairs_of : FF := fnP (fnS 1 3 b_pairs_of)
theorem sc_pairs_of : FnScope N_pairs_of ["rule"] (defScope (tp 34)) := ⟨by rfl, by rfl, by rfl, by decide +kernel, by rfl, by decide +kernel, by decide +kernel⟩
set_option maxHeartbeats 4000000 in
theorem bo_pairs_of {P : Program} {w : World} {K : PySem.W.Frag} {mg : Str → Option Value} {base : Heap} (F : FX wx K mg) {f : Addr} {fd : FuncData} (D : FunD K dd_pairs_of.name dd_pairs_of.qual dd_pairs_of.params dd_pairs_of.body dd_pairs_of.scope (dd_pairs_of.dvs K) (dd_pairs_of.kws K) f fd) : FnOk P w K mg base (L2.CX P w) 1 f fd ["rule"] (spF ⟨K, P, w⟩ 1 m_pairs_of) :=
  fn_small (fn_sh (np := 1) (ns := 3) (k := 0) (body := b_pairs_of) D sc_pairs_of rfl rfl fun cdv A outer s H E hr =>
    (sss_one (ss_ret (se_lcN (own := [("one", 1), ("other", 2)]) (one := true) (is := [1]) (t := (gName 1)) rfl sc_pairs_of.nd (si_any (se_fld (ok := (fun c => List.contains [0] c)) (F.fld 1) (sv 0) rfl)) (blkOk_by (own := [("one", 1), ("other", 2)]) (by rfl)) (by decide) (by decide) (as_some rfl rfl) (fun _ _ _ _ _ => ⟨(pg_name (i := 1) sc_pairs_of.nd rfl (Or.inl rfl)), sts_nil⟩) (inn_lv (one := true) (is := [2]) (vs := [2]) (t := (gName 2)) (fun _ => acL_ok) rfl IsC.lst rfl (as_none rfl) (fun _ _ _ _ _ => ⟨(si_any (se_fld (ok := (fun c => List.contains [0] c)) (F.fld 1) (sv 0) rfl)), (pg_name (i := 2) sc_pairs_of.nd rfl (Or.inl rfl)), (sts_one (st_cmp so_lt (sv 1) (sv 2) rfl))⟩) (inn_emL rfl (fun _ _ _ _ _ => (se_tup (sa_cons (sv 1) (sa_cons (sv 2) sa_nil))))) (by decide) (by decide) (fun e r h => rd_one (i := 2) e r h)) (fun e r h => rd_one (i := 1) e r h)))))
theorem ok_pairs_of {P : Program} {w : World} {K : PySem.W.Frag} {mg : Str → Option Value} {base : Heap} (F : FX wx K mg) : FnC P w K mg base 1 (He.fAd K ("pairs_of", none)) 1 m_pairs_of := by
  obtain ⟨fd, D⟩ := F.says.def_ 13 (d := dd_pairs_of) rfl
  exact ⟨⟨fd, _, bo_pairs_of F D, D.bindsN fun _ _ _ _ _ _ us hl => match us, hl with | [_], _ => rfl⟩, D.kp⟩
abbrev N_behind_both : List Str := ["rule", "state", "pair", "one", "other", "first", "second"]
def b_behind_both : SF := (sSeq (sAsg (eCall 3 m_done (aCons (eVar 0) (aCons (eVar 1) (aCons (eBin oIx (eVar 2) (eC (.int 0))) aNil)))) (gTu 2 (gsCons (gNm 1) (gsCons (gNm 3) gsNil)))) (sSeq (sAsg (eCall 3 m_done (aCons (eVar 0) (aCons (eVar 1) (aCons (eBin oIx (eVar 2) (eC (.int 1))) aNil)))) (gTu 2 (gsCons (gNm 1) (gsCons (gNm 4) gsNil)))) (sRet (eTup (aCons (eVar 1) (aCons (eLc (iZip (eVar 3) (eVar 4)) false [5, 6] [5, 6] tYesD (eBin oAdd (eVar 5) (eVar 6))) aNil))))))
def m_behind_both : FF := fnP (fnS 3 7 b_behind_both)
theorem sc_behind_both : FnScope N_behind_both ["rule", "state", "pair"] (defScope (tp 32)) := ⟨by rfl, by rfl, by rfl, by decide +kernel, by rfl, by decide +kernel, by decide +kernel⟩
set_option maxHeartbeats 4000000 in
theorem bo_behind_both {P : Program} {w : World} {K : PySem.W.Frag} {mg : Str → Option Value} {base : Heap} (F : FX wx K mg) {f : Addr} {fd : FuncData} (D : FunD K dd_behind_both.name dd_behind_both.qual dd_behind_both.params dd_behind_both.body dd_behind_both.scope (dd_behind_both.dvs K) (dd_behind_both.kws K) f fd) : FnOk P w K mg base (L2.CX P w) 6 f fd ["rule", "state", "pair"] (spF ⟨K, P, w⟩ 3 m_behind_both) :=
  fn_small (fn_sh (np := 3) (ns := 7) (k := 5) (body := b_behind_both) D sc_behind_both rfl rfl fun cdv A outer s H E hr =>
    (sss_cons (ss_asg (sC (ok_done F) hr (F.glo 33) tkF (sa_cons (sv 0) (sa_cons (sv 1) (sa_cons (se_ix (ix_all (room_v hr)) (sv 2) se_int (fun _ _ => rfl)) sa_nil)))) (sg_tu rfl (sgs_cons (gnm 1 sc_behind_both.nd) (sgs_cons (gnm 3 sc_behind_both.nd) sgs_nil)))) (sss_cons (ss_asg (sC (ok_done F) hr (F.glo 33) tkF (sa_cons (sv 0) (sa_cons (sv 1) (sa_cons (se_ix (ix_all (room_v hr)) (sv 2) se_int (fun _ _ => rfl)) sa_nil)))) (sg_tu rfl (sgs_cons (gnm 1 sc_behind_both.nd) (sgs_cons (gnm 4 sc_behind_both.nd) sgs_nil)))) (sss_one (ss_ret (se_tup (sa_cons (sv 1) (sa_cons (se_lcP (own := [("first", 5), ("second", 6)]) (one := false) (is := [5, 6]) (t := (gTup K 2 (gNs [5, 6]))) rfl sc_behind_both.nd (si_zip rfl (F.free 15) (sv 3) (sv 4)) (blkOk_by (own := [("first", 5), ("second", 6)]) (by rfl)) (by decide) (fun _ _ _ _ _ => ⟨(pg_tup rfl (gns_cons (i := 5) sc_behind_both.nd rfl (Or.inl rfl) (gns_cons (i := 6) sc_behind_both.nd rfl (Or.inl rfl) gns_nil))), sts_nil, (se_bin so_add (sv 5) (sv 6))⟩) (fun e r h => rd_tup (is := [5, 6]) e r h)) sa_nil))))))))
theorem ok_behind_both {P : Program} {w : World} {K : PySem.W.Frag} {mg : Str → Option Value} {base : Heap} (F : FX wx K mg) : FnC P w K mg base 6 (He.fAd K ("behind_both", none)) 3 m_behind_both := by
  obtain ⟨fd, D⟩ := F.says.def_ 14 (d := dd_behind_both) rfl
  exact ⟨⟨fd, _, bo_behind_both F D, D.bindsN fun _ _ _ _ _ _ us hl => match us, hl with | [_, _, _], _ => rfl⟩, D.kp⟩
abbrev N_can_exchange : List Str := ["rule", "state", "pair", "one", "gets", "other", "more"]
def b_can_exchange : SF := (sSeq (sAsg (eCall 3 m_behind_both (aCons (eVar 0) (aCons (eVar 1) (aCons (eVar 2) aNil)))) (gTu 2 (gsCons (gNm 3) (gsCons (gNm 4) gsNil)))) (sSeq (sAsg (eCall 3 m_behind_both (aCons (eVar 0) (aCons (eVar 1) (aCons (eRev (eVar 2)) aNil)))) (gTu 2 (gsCons (gNm 5) (gsCons (gNm 6) gsNil)))) (sRet (eAnd (eBin oEq (eBin oIx (eVar 3) (eC (.int 0))) (eBin oIx (eVar 5) (eC (.int 0)))) (eAnd (eBin oEq (eVar 4) (eVar 6)) (eOr (eBin oNe (eFld "pick" (fun c => List.contains [0] c) (eVar 0)) (eC (.str "turn"))) (eBin oEq (eBin oIx (eVar 3) (eC (.int 1))) (eBin oIx (eVar 5) (eC (.int 1))))))))))
def m_can_exchange : FF := fnP (fnS 3 7 b_can_exchange)
theorem sc_can_exchange : FnScope N_can_exchange ["rule", "state", "pair"] (defScope (tp 33)) := ⟨by rfl, by rfl, by rfl, by decide +kernel, by rfl, by decide +kernel, by decide +kernel⟩
set_option maxHeartbeats 4000000 in
theorem bo_can_exchange {P : Program} {w : World} {K : PySem.W.Frag} {mg : Str → Option Value} {base : Heap} (F : FX wx K mg) {f : Addr} {fd : FuncData} (D : FunD K dd_can_exchange.name dd_can_exchange.qual dd_can_exchange.params dd_can_exchange.body dd_can_exchange.scope (dd_can_exchange.dvs K) (dd_can_exchange.kws K) f fd) : FnOk P w K mg base (L2.CX P w) 7 f fd ["rule", "state", "pair"] (spF ⟨K, P, w⟩ 3 m_can_exchange) :=
  fn_small (fn_sh (np := 3) (ns := 7) (k := 6) (body := b_can_exchange) D sc_can_exchange rfl rfl fun cdv A outer s H E hr =>
    (sss_cons (ss_asg (sC (ok_behind_both F) hr (F.glo 39) tkF (sa_cons (sv 0) (sa_cons (sv 1) (sa_cons (sv 2) sa_nil)))) (sg_tu rfl (sgs_cons (gnm 3 sc_can_exchange.nd) (sgs_cons (gnm 4 sc_can_exchange.nd) sgs_nil)))) (sss_cons (ss_asg (sC (ok_behind_both F) hr (F.glo 39) tkF (sa_cons (sv 0) (sa_cons (sv 1) (sa_cons (se_rev (sv 2)) sa_nil)))) (sg_tu rfl (sgs_cons (gnm 5 sc_can_exchange.nd) (sgs_cons (gnm 6 sc_can_exchange.nd) sgs_nil)))) (sss_one (ss_ret (se_and (se_cmp (so_eq (room_v hr)) (se_ix (ix_all (room_v hr)) (sv 3) se_int (fun _ _ => rfl)) (se_ix (ix_all (room_v hr)) (sv 5) se_int (fun _ _ => rfl)) rfl) (se_and (se_cmp (so_eq (room_v hr)) (sv 4) (sv 6) rfl) (se_one (se_or (se_cmp (so_ne (room_v hr)) (se_fld (ok := (fun c => List.contains [0] c)) (F.fld 3) (sv 0) rfl) se_str rfl) (se_one (se_cmp (so_eq (room_v hr)) (se_ix (ix_all (room_v hr)) (sv 3) se_int (fun _ _ => rfl)) (se_ix (ix_all (room_v hr)) (sv 5) se_int (fun _ _ => rfl)) rfl)))))))))))
theorem ok_can_exchange {P : Program} {w : World} {K : PySem.W.Frag} {mg : Str → Option Value} {base : Heap} (F : FX wx K mg) : FnC P w K mg base 7 (He.fAd K ("can_exchange", none)) 3 m_can_exchange := by
  obtain ⟨fd, D⟩ := F.says.def_ 15 (d := dd_can_exchange) rfl
  exact ⟨⟨fd, _, bo_can_exchange F D, D.bindsN fun _ _ _ _ _ _ us hl => match us, hl with | [_, _, _], _ => rfl⟩, D.kp⟩
abbrev N_first_ordered : List Str := ["rule", "state", "some", "pair"]
def b_first_ordered : SF := (sSeq (sSet 2 (eLc (iAny (eCall 1 m_pairs_of (aCons (eVar 0) aNil))) true [3] [3] (tNot (tVal (eCall 3 m_can_exchange (aCons (eVar 0) (aCons (eVar 1) (aCons (eVar 3) aNil)))))) (eVar 3))) (sRet (eIf (tVal (eBin oNe (eVar 2) (eLst aNil))) (eBin oIx (eVar 2) (eC (.int 0))) (eC .non))))
def m_first_ordered : FF := fnP (fnS 2 4 b_first_ordered)
theorem sc_first_ordered : FnScope N_first_ordered ["rule", "state"] (defScope (tp 35)) := ⟨by rfl, by rfl, by rfl, by decide +kernel, by rfl, by decide +kernel, by decide +kernel⟩
set_option maxHeartbeats 4000000 in
theorem bo_first_ordered {P : Program} {w : World} {K : PySem.W.Frag} {mg : Str → Option Value} {base : Heap} (F : FX wx K mg) {f : Addr} {fd : FuncData} (D : FunD K dd_first_ordered.name dd_first_ordered.qual dd_first_ordered.params dd_first_ordered.body dd_first_ordered.scope (dd_first_ordered.dvs K) (dd_first_ordered.kws K) f fd) : FnOk P w K mg base (L2.CX P w) 8 f fd ["rule", "state"] (spF ⟨K, P, w⟩ 2 m_first_ordered) :=
  fn_small (fn_sh (np := 2) (ns := 4) (k := 7) (body := b_first_ordered) D sc_first_ordered rfl rfl fun cdv A outer s H E hr =>
    (sss_cons (ss_setLcP (i := 2) (own := [("pair", 3)]) (one := true) (is := [3]) (t := (gName 3)) rfl sc_first_ordered.nd rfl rfl (sw_true rfl rfl rfl (by decide +kernel)) (si_any (sC (ok_pairs_of F) hr (F.glo 38) tkF (sa_cons (sv 0) sa_nil))) (blkOk_by (own := [("pair", 3)]) (by rfl)) (by decide) (fun _ _ _ _ _ => ⟨(pg_name (i := 3) sc_first_ordered.nd rfl (Or.inl rfl)), (sts_one (st_not (st_val (sC (ok_can_exchange F) hr (F.glo 40) tk0 (sa_cons (sv 0) (sa_cons (sv 1) (sa_cons (sv 3) sa_nil))))))), (sv 3)⟩) (fun e r h => rd_one (i := 3) e r h)) (sss_one (ss_ret (se_if (st_cmp (so_ne (room_v hr)) (sv 2) (se_lst sa_nil) rfl) (se_ix (ix_all (room_v hr)) (sv 2) se_int (fun _ _ => rfl)) se_non)))))
theorem ok_first_ordered {P : Program} {w : World} {K : PySem.W.Frag} {mg : Str → Option Value} {base : Heap} (F : FX wx K mg) : FnC P w K mg base 8 (He.fAd K ("first_ordered", none)) 2 m_first_ordered := by
  obtain ⟨fd, D⟩ := F.says.def_ 16 (d := dd_first_ordered) rfl
  exact ⟨⟨fd, _, bo_first_ordered F D, D.bindsN fun _ _ _ _ _ _ us hl => match us, hl with | [_, _], _ => rfl⟩, D.kp⟩
abbrev N_Ordereddd_initdd : List Str := ["self", "row", "one", "other"]
def b_Ordereddd_initdd : SF := (sSeq (sFld "row" (fun c => List.contains [11, 12] c) (eVar 0) (eB (op1 gTuple) (aCons (eVar 1) aNil))) (sSeq (sFld "one" (fun c => List.contains [11] c) (eVar 0) (eVar 2)) (sFld "other" (fun c => List.contains [11] c) (eVar 0) (eVar 3))))
def m_Ordereddd_initdd : FF := fnT 0 (fnS 4 4 b_Ordereddd_initdd)
theorem sc_Ordereddd_initdd : FnScope N_Ordereddd_initdd ["self", "row", "one", "other"] (defScope (tc 37 0)) := ⟨by rfl, by rfl, by rfl, by decide +kernel, by rfl, by decide +kernel, by decide +kernel⟩
set_option maxHeartbeats 4000000 in
theorem bo_Ordereddd_initdd {P : Program} {w : World} {K : PySem.W.Frag} {mg : Str → Option Value} {base : Heap} (F : FX wx K mg) {f : Addr} {fd : FuncData} (D : FunD K dd_Ordereddd_initdd.name dd_Ordereddd_initdd.qual dd_Ordereddd_initdd.params dd_Ordereddd_initdd.body dd_Ordereddd_initdd.scope (dd_Ordereddd_initdd.dvs K) (dd_Ordereddd_initdd.kws K) f fd) : FnOk P w K mg base (L2.CX P w) 1 f fd ["self", "row", "one", "other"] (spF ⟨K, P, w⟩ 4 m_Ordereddd_initdd) :=
  fn_trim (fn_sh (np := 4) (ns := 4) (k := 0) (body := b_Ordereddd_initdd) D sc_Ordereddd_initdd rfl rfl fun cdv A outer s H E hr =>
    (sss_cons (ss_fld (ok := (fun c => List.contains [11, 12] c)) (F.fld 5) (sv 0) (se_callTy cl_tuple rfl (F.free 7) (by decide +kernel) (sa_cons (sv 1) sa_nil)) rfl) (sss_cons (ss_fld (ok := (fun c => List.contains [11] c)) (F.fld 6) (sv 0) (sv 2) rfl) (sss_one (ss_fld (ok := (fun c => List.contains [11] c)) (F.fld 7) (sv 0) (sv 3) rfl)))))
theorem ok_Ordereddd_initdd {P : Program} {w : World} {K : PySem.W.Frag} {mg : Str → Option Value} {base : Heap} (F : FX wx K mg) : FnC P w K mg base 1 (He.fAd K ("Ordered", some "__init__")) 4 m_Ordereddd_initdd := by
  obtain ⟨fd, D⟩ := F.says.def_ 17 (d := dd_Ordereddd_initdd) rfl
  exact ⟨⟨fd, _, bo_Ordereddd_initdd F D, D.bindsN fun _ _ _ _ _ _ us hl => match us, hl with | [_, _, _, _], _ => rfl⟩, D.kp⟩
theorem okK_Ordereddd_initdd {P : Program} {w : World} {K : PySem.W.Frag} {mg : Str → Option Value} {base : Heap} (F : FX wx K mg) : FnKC P w K mg base 1 (He.fAd K ("Ordered", some "__init__")) 4 [] 4 gId m_Ordereddd_initdd := by
  obtain ⟨fd, D⟩ := F.says.def_ 17 (d := dd_Ordereddd_initdd) rfl
  exact ⟨fd, _, bo_Ordereddd_initdd F D, bd_of (D.bindsN fun _ _ _ _ _ _ us hl => match us, hl with | [_, _, _, _], _ => rfl) rfl⟩
abbrev N_Orderlessdd_initdd : List Str := ["self", "states"]
def b_Orderlessdd_initdd : SF := (sFld "states" (fun c => List.contains [10] c) (eVar 0) (eB (op1 gListA) (aCons (eVar 1) aNil)))
def m_Orderlessdd_initdd : FF := fnT 0 (fnS 2 2 b_Orderlessdd_initdd)
theorem sc_Orderlessdd_initdd : FnScope N_Orderlessdd_initdd ["self", "states"] (defScope (tc 36 0)) := ⟨by rfl, by rfl, by rfl, by decide +kernel, by rfl, by decide +kernel, by decide +kernel⟩
set_option maxHeartbeats 4000000 in
theorem bo_Orderlessdd_initdd {P : Program} {w : World} {K : PySem.W.Frag} {mg : Str → Option Value} {base : Heap} (F : FX wx K mg) {f : Addr} {fd : FuncData} (D : FunD K dd_Orderlessdd_initdd.name dd_Orderlessdd_initdd.qual dd_Orderlessdd_initdd.params dd_Orderlessdd_initdd.body dd_Orderlessdd_initdd.scope (dd_Orderlessdd_initdd.dvs K) (dd_Orderlessdd_initdd.kws K) f fd) : FnOk P w K mg base (L2.CX P w) 1 f fd ["self", "states"] (spF ⟨K, P, w⟩ 2 m_Orderlessdd_initdd) :=
  fn_trim (fn_sh (np := 2) (ns := 2) (k := 0) (body := b_Orderlessdd_initdd) D sc_Orderlessdd_initdd rfl rfl fun cdv A outer s H E hr =>
    (sss_one (ss_fld (ok := (fun c => List.contains [10] c)) (F.fld 8) (sv 0) (se_callTy (cl_listA rfl) rfl (F.free 24) (by decide +kernel) (sa_cons (sv 1) sa_nil)) rfl)))
theorem ok_Orderlessdd_initdd {P : Program} {w : World} {K : PySem.W.Frag} {mg : Str → Option Value} {base : Heap} (F : FX wx K mg) : FnC P w K mg base 1 (He.fAd K ("Orderless", some "__init__")) 2 m_Orderlessdd_initdd := by
  obtain ⟨fd, D⟩ := F.says.def_ 18 (d := dd_Orderlessdd_initdd) rfl
  exact ⟨⟨fd, _, bo_Orderlessdd_initdd F D, D.bindsN fun _ _ _ _ _ _ us hl => match us, hl with | [_, _], _ => rfl⟩, D.kp⟩
theorem okK_Orderlessdd_initdd {P : Program} {w : World} {K : PySem.W.Frag} {mg : Str → Option Value} {base : Heap} (F : FX wx K mg) : FnKC P w K mg base 1 (He.fAd K ("Orderless", some "__init__")) 2 [] 2 gId m_Orderlessdd_initdd := by
  obtain ⟨fd, D⟩ := F.says.def_ 18 (d := dd_Orderlessdd_initdd) rfl
  exact ⟨fd, _, bo_Orderlessdd_initdd F D, bd_of (D.bindsN fun _ _ _ _ _ _ us hl => match us, hl with | [_, _], _ => rfl) rfl⟩
abbrev N_order : List Str := ["rule", "found", "state", "row", "pair"]
def b_order : SF := (sSeq (sExpr (eCall 1 m_check_rule (aCons (eVar 0) aNil))) (sSeq (sSet 1 (eCall 1 m_reach (aCons (eVar 0) aNil))) (sSeq (sFree (sFor (iItm (eVar 1)) (gTu 2 (gsCons (gNm 2) (gsCons (gNm 3) gsNil))) (sSeq (sSet 4 (eCall 2 m_first_ordered (aCons (eVar 0) (aCons (eVar 2) aNil)))) (sIf (tVal (eBin (oIs true) (eVar 4) (eC .non))) (sRet (eMake 11 3 0 4 gId m_Ordereddd_initdd (aCons (eVar 3) (aCons (eBin oIx (eVar 4) (eC (.int 0))) (aCons (eBin oIx (eVar 4) (eC (.int 1))) aNil))) aNil)) sSkip)))) (sRet (eMake 10 1 0 2 gId m_Orderlessdd_initdd (aCons (eVar 1) aNil) aNil)))))
def m_order : FF := fnP (fnS 1 5 b_order)
theorem sc_order : FnScope N_order ["rule"] (defScope (tp 38)) := ⟨by rfl, by rfl, by rfl, by decide +kernel, by rfl, by decide +kernel, by decide +kernel⟩
set_option maxHeartbeats 4000000 in
theorem bo_order {P : Program} {w : World} {K : PySem.W.Frag} {mg : Str → Option Value} {base : Heap} (F : FX wx K mg) {f : Addr} {fd : FuncData} (D : FunD K dd_order.name dd_order.qual dd_order.params dd_order.body dd_order.scope (dd_order.dvs K) (dd_order.kws K) f fd) : FnOk P w K mg base (L2.CX P w) 9 f fd ["rule"] (spF ⟨K, P, w⟩ 1 m_order) :=
  fn_small (fn_sh (np := 1) (ns := 5) (k := 8) (body := b_order) D sc_order rfl rfl fun cdv A outer s H E hr =>
    (sss_cons (ss_expr (sC (ok_check_rule F) hr (F.glo 22) tkF (sa_cons (sv 0) sa_nil))) (sss_cons (sset 1 sc_order.nd (sC (ok_reach F) hr (F.glo 37) tkF (sa_cons (sv 0) sa_nil))) (sss_cons (ss_free (ss_for ownF rfl (si_items (sv 1)) (sg_tu rfl (sgs_cons (gnm 2 sc_order.nd) (sgs_cons (gnm 3 sc_order.nd) sgs_nil))) (sss_cons (sset 4 sc_order.nd (sC (ok_first_ordered F) hr (F.glo 41) tkF (sa_cons (sv 0) (sa_cons (sv 2) sa_nil)))) (sss_one (ss_if (st_cmp so_isNot (sv 4) se_non rfl) (sss_one (ss_ret (se_make (n := 3) (c := 11) (F.mkr 42) (okK_Ordereddd_initdd F) (hr.mono (by decide)) rfl (F.glo 43) tkF (sa_cons (sv 3) (sa_cons (se_ix (ix_all (room_v hr)) (sv 4) se_int (fun _ _ => rfl)) (sa_cons (se_ix (ix_all (room_v hr)) (sv 4) se_int (fun _ _ => rfl)) sa_nil)))))) sss_nil))))) (sss_one (ss_ret (se_make (n := 1) (c := 10) (F.mkr 44) (okK_Orderlessdd_initdd F) (hr.mono (by decide)) rfl (F.glo 45) tkF (sa_cons (sv 1) sa_nil))))))))
theorem ok_order {P : Program} {w : World} {K : PySem.W.Frag} {mg : Str → Option Value} {base : Heap} (F : FX wx K mg) : FnC P w K mg base 9 (He.fAd K ("order", none)) 1 m_order := by
  obtain ⟨fd, D⟩ := F.says.def_ 19 (d := dd_order) rfl
  exact ⟨⟨fd, _, bo_order F D, D.bindsN fun _ _ _ _ _ _ us hl => match us, hl with | [_], _ => rfl⟩, D.kp⟩
abbrev N_is_orderless : List Str := ["rule"]
def b_is_orderless : SF := (sRet (eIsi CS [.cls 10] (eCall 1 m_order (aCons (eVar 0) aNil))))
def m_is_orderless : FF := fnP (fnS 1 1 b_is_orderless)
theorem sc_is_orderless : FnScope N_is_orderless ["rule"] (defScope (tp 39)) := ⟨by rfl, by rfl, by rfl, by decide +kernel, by rfl, by decide +kernel, by decide +kernel⟩
set_option maxHeartbeats 4000000 in
theorem bo_is_orderless {P : Program} {w : World} {K : PySem.W.Frag} {mg : Str → Option Value} {base : Heap} (F : FX wx K mg) {f : Addr} {fd : FuncData} (D : FunD K dd_is_orderless.name dd_is_orderless.qual dd_is_orderless.params dd_is_orderless.body dd_is_orderless.scope (dd_is_orderless.dvs K) (dd_is_orderless.kws K) f fd) : FnOk P w K mg base (L2.CX P w) 10 f fd ["rule"] (spF ⟨K, P, w⟩ 1 m_is_orderless) :=
  fn_small (fn_sh (np := 1) (ns := 1) (k := 9) (body := b_is_orderless) D sc_is_orderless rfl rfl fun cdv A outer s H E hr =>
    (sss_one (ss_ret (isC (cs := CS) 10 F.isi (F.free 6) (F.glo 45) (sC (ok_order F) hr (F.glo 46) tkF (sa_cons (sv 0) sa_nil))))))
theorem ok_is_orderless {P : Program} {w : World} {K : PySem.W.Frag} {mg : Str → Option Value} {base : Heap} (F : FX wx K mg) : FnC P w K mg base 10 (He.fAd K ("is_orderless", none)) 1 m_is_orderless := by
  obtain ⟨fd, D⟩ := F.says.def_ 20 (d := dd_is_orderless) rfl
  exact ⟨⟨fd, _, bo_is_orderless F D, D.bindsN fun _ _ _ _ _ _ us hl => match us, hl with | [_], _ => rfl⟩, D.kp⟩
abbrev N_Rule_five : List Str := ["self"]
def b_Rule_five : SF := (sRet (eTup (aCons (eFld "weights" (fun c => List.contains [0] c) (eVar 0)) (aCons (eFld "amounts" (fun c => List.contains [0] c) (eVar 0)) (aCons (eFld "kept" (fun c => List.contains [0] c) (eVar 0)) (aCons (eFld "pick" (fun c => List.contains [0] c) (eVar 0)) (aCons (eFld "way" (fun c => List.contains [0] c) (eVar 0)) aNil)))))))
def m_Rule_five : FF := fnP (fnS 1 1 b_Rule_five)
theorem sc_Rule_five : FnScope N_Rule_five ["self"] (defScope (tc 18 1)) := ⟨by rfl, by rfl, by rfl, by decide +kernel, by rfl, by decide +kernel, by decide +kernel⟩
set_option maxHeartbeats 4000000 in
theorem bo_Rule_five {P : Program} {w : World} {K : PySem.W.Frag} {mg : Str → Option Value} {base : Heap} (F : FX wx K mg) {f : Addr} {fd : FuncData} (D : FunD K dd_Rule_five.name dd_Rule_five.qual dd_Rule_five.params dd_Rule_five.body dd_Rule_five.scope (dd_Rule_five.dvs K) (dd_Rule_five.kws K) f fd) : FnOk P w K mg base (L2.CX P w) 1 f fd ["self"] (spF ⟨K, P, w⟩ 1 m_Rule_five) :=
  fn_small (fn_sh (np := 1) (ns := 1) (k := 0) (body := b_Rule_five) D sc_Rule_five rfl rfl fun cdv A outer s H E hr =>
    (sss_one (ss_ret (se_tup (sa_cons (se_fld (ok := (fun c => List.contains [0] c)) (F.fld 0) (sv 0) rfl) (sa_cons (se_fld (ok := (fun c => List.contains [0] c)) (F.fld 1) (sv 0) rfl) (sa_cons (se_fld (ok := (fun c => List.contains [0] c)) (F.fld 2) (sv 0) rfl) (sa_cons (se_fld (ok := (fun c => List.contains [0] c)) (F.fld 3) (sv 0) rfl) (sa_cons (se_fld (ok := (fun c => List.contains [0] c)) (F.fld 4) (sv 0) rfl) sa_nil)))))))))
theorem ok_Rule_five {P : Program} {w : World} {K : PySem.W.Frag} {mg : Str → Option Value} {base : Heap} (F : FX wx K mg) : FnC P w K mg base 1 (He.fAd K ("Rule", some "five")) 1 m_Rule_five := by
  obtain ⟨fd, D⟩ := F.says.def_ 21 (d := dd_Rule_five) rfl
  exact ⟨⟨fd, _, bo_Rule_five F D, D.bindsN fun _ _ _ _ _ _ us hl => match us, hl with | [_], _ => rfl⟩, D.kp⟩
def dp_five : Nat → Option (Nat × FF) := fun c => if c = 0 then some (1, m_Rule_five) else none
theorem hd_five {P : Program} {w : World} {K : PySem.W.Frag} {mg : Str → Option Value} {base : Heap} (F : FX wx K mg) : ∀ c n ff, dp_five c = some (n, ff) → Cls K (ca K c) ∧ ∃ f, Meth K (ca K c) "five" f ∧ ∃ fd ps, FnOk P w K mg base (L2.CX P w) 1 f fd ps (spF ⟨K, P, w⟩ n ff) ∧ Binds K fd ps [] := by
  intro c n ff h
  unfold dp_five at h
  by_cases hRule : c = 0
  · rw [if_pos hRule] at h; subst hRule; cases h; exact ⟨F.cls 27, _, F.meth 48, ((ok_Rule_five F).mono (by decide)).1⟩
  rw [if_neg hRule] at h
  cases h
abbrev N_Ruledd_eqdd : List Str := ["self", "other"]
def b_Ruledd_eqdd : SF := (sRet (eAnd (eIsi CS [.cls 0] (eVar 1)) (eBin oEqG (eMeth "five" dp_five (eVar 0) aNil) (eMeth "five" dp_five (eVar 1) aNil))))
def m_Ruledd_eqdd : FF := fnP (fnS 2 2 b_Ruledd_eqdd)
theorem sc_Ruledd_eqdd : FnScope N_Ruledd_eqdd ["self", "other"] (defScope (tc 18 5)) := ⟨by rfl, by rfl, by rfl, by decide +kernel, by rfl, by decide +kernel, by decide +kernel⟩
set_option maxHeartbeats 4000000 in
theorem bo_Ruledd_eqdd {P : Program} {w : World} {K : PySem.W.Frag} {mg : Str → Option Value} {base : Heap} (F : FX wx K mg) {f : Addr} {fd : FuncData} (D : FunD K dd_Ruledd_eqdd.name dd_Ruledd_eqdd.qual dd_Ruledd_eqdd.params dd_Ruledd_eqdd.body dd_Ruledd_eqdd.scope (dd_Ruledd_eqdd.dvs K) (dd_Ruledd_eqdd.kws K) f fd) : FnOk P w K mg base (L2.CX P w) 2 f fd ["self", "other"] (spF ⟨K, P, w⟩ 2 m_Ruledd_eqdd) :=
  fn_small (fn_sh (np := 2) (ns := 2) (k := 1) (body := b_Ruledd_eqdd) D sc_Ruledd_eqdd rfl rfl fun cdv A outer s H E hr =>
    (sss_one (ss_ret (se_and (isC (cs := CS) 0 F.isi (F.free 6) (F.glo 21) (sv 1)) (se_one (se_cmp (so_eqG (room_w hr)) (se_meth0 (sv 0) (hd_five F) (hr.mono (by decide)) tkF) (se_meth0 (sv 1) (hd_five F) (hr.mono (by decide)) tkF) rfl))))))
theorem ok_Ruledd_eqdd {P : Program} {w : World} {K : PySem.W.Frag} {mg : Str → Option Value} {base : Heap} (F : FX wx K mg) : FnC P w K mg base 2 (He.fAd K ("Rule", some "__eq__")) 2 m_Ruledd_eqdd := by
  obtain ⟨fd, D⟩ := F.says.def_ 22 (d := dd_Ruledd_eqdd) rfl
  exact ⟨⟨fd, _, bo_Ruledd_eqdd F D, D.bindsN fun _ _ _ _ _ _ us hl => match us, hl with | [_, _], _ => rfl⟩, D.kp⟩
abbrev N_Orderlessdd_eqdd : List Str := ["self", "other"]
def b_Orderlessdd_eqdd : SF := (sRet (eAnd (eIsi CS [.cls 10] (eVar 1)) (eBin oEqG (eFld "states" (fun c => List.contains [10] c) (eVar 0)) (eFld "states" (fun c => List.contains [10] c) (eVar 1)))))
def m_Orderlessdd_eqdd : FF := fnP (fnS 2 2 b_Orderlessdd_eqdd)
theorem sc_Orderlessdd_eqdd : FnScope N_Orderlessdd_eqdd ["self", "other"] (defScope (tc 36 1)) := ⟨by rfl, by rfl, by rfl, by decide +kernel, by rfl, by decide +kernel, by decide +kernel⟩
set_option maxHeartbeats 4000000 in
theorem bo_Orderlessdd_eqdd {P : Program} {w : World} {K : PySem.W.Frag} {mg : Str → Option Value} {base : Heap} (F : FX wx K mg) {f : Addr} {fd : FuncData} (D : FunD K dd_Orderlessdd_eqdd.name dd_Orderlessdd_eqdd.qual dd_Orderlessdd_eqdd.params dd_Orderlessdd_eqdd.body dd_Orderlessdd_eqdd.scope (dd_Orderlessdd_eqdd.dvs K) (dd_Orderlessdd_eqdd.kws K) f fd) : FnOk P w K mg base (L2.CX P w) 1 f fd ["self", "other"] (spF ⟨K, P, w⟩ 2 m_Orderlessdd_eqdd) :=
  fn_small (fn_sh (np := 2) (ns := 2) (k := 0) (body := b_Orderlessdd_eqdd) D sc_Orderlessdd_eqdd rfl rfl fun cdv A outer s H E hr =>
    (sss_one (ss_ret (se_and (isC (cs := CS) 10 F.isi (F.free 6) (F.glo 45) (sv 1)) (se_one (se_cmp (so_eqG (room_w hr)) (se_fld (ok := (fun c => List.contains [10] c)) (F.fld 8) (sv 0) rfl) (se_fld (ok := (fun c => List.contains [10] c)) (F.fld 8) (sv 1) rfl) rfl))))))
theorem ok_Orderlessdd_eqdd {P : Program} {w : World} {K : PySem.W.Frag} {mg : Str → Option Value} {base : Heap} (F : FX wx K mg) : FnC P w K mg base 1 (He.fAd K ("Orderless", some "__eq__")) 2 m_Orderlessdd_eqdd := by
  obtain ⟨fd, D⟩ := F.says.def_ 23 (d := dd_Orderlessdd_eqdd) rfl
  exact ⟨⟨fd, _, bo_Orderlessdd_eqdd F D, D.bindsN fun _ _ _ _ _ _ us hl => match us, hl with | [_, _], _ => rfl⟩, D.kp⟩
abbrev N_Ordered_three : List Str := ["self"]
def b_Ordered_three : SF := (sRet (eTup (aCons (eFld "row" (fun c => List.contains [11, 12] c) (eVar 0)) (aCons (eFld "one" (fun c => List.contains [11] c) (eVar 0)) (aCons (eFld "other" (fun c => List.contains [11] c) (eVar 0)) aNil)))))
def m_Ordered_three : FF := fnP (fnS 1 1 b_Ordered_three)
theorem sc_Ordered_three : FnScope N_Ordered_three ["self"] (defScope (tc 37 1)) := ⟨by rfl, by rfl, by rfl, by decide +kernel, by rfl, by decide +kernel, by decide +kernel⟩
set_option maxHeartbeats 4000000 in
theorem bo_Ordered_three {P : Program} {w : World} {K : PySem.W.Frag} {mg : Str → Option Value} {base : Heap} (F : FX wx K mg) {f : Addr} {fd : FuncData} (D : FunD K dd_Ordered_three.name dd_Ordered_three.qual dd_Ordered_three.params dd_Ordered_three.body dd_Ordered_three.scope (dd_Ordered_three.dvs K) (dd_Ordered_three.kws K) f fd) : FnOk P w K mg base (L2.CX P w) 1 f fd ["self"] (spF ⟨K, P, w⟩ 1 m_Ordered_three) :=
  fn_small (fn_sh (np := 1) (ns := 1) (k := 0) (body := b_Ordered_three) D sc_Ordered_three rfl rfl fun cdv A outer s H E hr =>
    (sss_one (ss_ret (se_tup (sa_cons (se_fld (ok := (fun c => List.contains [11, 12] c)) (F.fld 5) (sv 0) rfl) (sa_cons (se_fld (ok := (fun c => List.contains [11] c)) (F.fld 6) (sv 0) rfl) (sa_cons (se_fld (ok := (fun c => List.contains [11] c)) (F.fld 7) (sv 0) rfl) sa_nil)))))))
theorem ok_Ordered_three {P : Program} {w : World} {K : PySem.W.Frag} {mg : Str → Option Value} {base : Heap} (F : FX wx K mg) : FnC P w K mg base 1 (He.fAd K ("Ordered", some "three")) 1 m_Ordered_three := by
  obtain ⟨fd, D⟩ := F.says.def_ 24 (d := dd_Ordered_three) rfl
  exact ⟨⟨fd, _, bo_Ordered_three F D, D.bindsN fun _ _ _ _ _ _ us hl => match us, hl with | [_], _ => rfl⟩, D.kp⟩
def dp_three : Nat → Option (Nat × FF) := fun c => if c = 11 then some (1, m_Ordered_three) else none
theorem hd_three {P : Program} {w : World} {K : PySem.W.Frag} {mg : Str → Option Value} {base : Heap} (F : FX wx K mg) : ∀ c n ff, dp_three c = some (n, ff) → Cls K (ca K c) ∧ ∃ f, Meth K (ca K c) "three" f ∧ ∃ fd ps, FnOk P w K mg base (L2.CX P w) 1 f fd ps (spF ⟨K, P, w⟩ n ff) ∧ Binds K fd ps [] := by
  intro c n ff h
  unfold dp_three at h
  by_cases hOrdered : c = 11
  · rw [if_pos hOrdered] at h; subst hOrdered; cases h; exact ⟨F.cls 49, _, F.meth 50, ((ok_Ordered_three F).mono (by decide)).1⟩
  rw [if_neg hOrdered] at h
  cases h
abbrev N_Ordereddd_eqdd : List Str := ["self", "other"]
def b_Ordereddd_eqdd : SF := (sRet (eAnd (eIsi CS [.cls 11] (eVar 1)) (eBin oEqG (eMeth "three" dp_three (eVar 0) aNil) (eMeth "three" dp_three (eVar 1) aNil))))
def m_Ordereddd_eqdd : FF := fnP (fnS 2 2 b_Ordereddd_eqdd)
theorem sc_Ordereddd_eqdd : FnScope N_Ordereddd_eqdd ["self", "other"] (defScope (tc 37 2)) := ⟨by rfl, by rfl, by rfl, by decide +kernel, by rfl, by decide +kernel, by decide +kernel⟩
set_option maxHeartbeats 4000000 in
theorem bo_Ordereddd_eqdd {P : Program} {w : World} {K : PySem.W.Frag} {mg : Str → Option Value} {base : Heap} (F : FX wx K mg) {f : Addr} {fd : FuncData} (D : FunD K dd_Ordereddd_eqdd.name dd_Ordereddd_eqdd.qual dd_Ordereddd_eqdd.params dd_Ordereddd_eqdd.body dd_Ordereddd_eqdd.scope (dd_Ordereddd_eqdd.dvs K) (dd_Ordereddd_eqdd.kws K) f fd) : FnOk P w K mg base (L2.CX P w) 2 f fd ["self", "other"] (spF ⟨K, P, w⟩ 2 m_Ordereddd_eqdd) :=
  fn_small (fn_sh (np := 2) (ns := 2) (k := 1) (body := b_Ordereddd_eqdd) D sc_Ordereddd_eqdd rfl rfl fun cdv A outer s H E hr =>
    (sss_one (ss_ret (se_and (isC (cs := CS) 11 F.isi (F.free 6) (F.glo 43) (sv 1)) (se_one (se_cmp (so_eqG (room_w hr)) (se_meth0 (sv 0) (hd_three F) (hr.mono (by decide)) tkF) (se_meth0 (sv 1) (hd_three F) (hr.mono (by decide)) tkF) rfl))))))
theorem ok_Ordereddd_eqdd {P : Program} {w : World} {K : PySem.W.Frag} {mg : Str → Option Value} {base : Heap} (F : FX wx K mg) : FnC P w K mg base 2 (He.fAd K ("Ordered", some "__eq__")) 2 m_Ordereddd_eqdd := by
  obtain ⟨fd, D⟩ := F.says.def_ 25 (d := dd_Ordereddd_eqdd) rfl
  exact ⟨⟨fd, _, bo_Ordereddd_eqdd F D, D.bindsN fun _ _ _ _ _ _ us hl => match us, hl with | [_, _], _ => rfl⟩, D.kp⟩
abbrev N_Settleddd_eqdd : List Str := ["self", "other"]
def b_Settleddd_eqdd : SF := (sRet (eAnd (eIsi CS [.cls 12] (eVar 1)) (eBin oEqG (eFld "row" (fun c => List.contains [11, 12] c) (eVar 0)) (eFld "row" (fun c => List.contains [11, 12] c) (eVar 1)))))
def m_Settleddd_eqdd : FF := fnP (fnS 2 2 b_Settleddd_eqdd)
theorem sc_Settleddd_eqdd : FnScope N_Settleddd_eqdd ["self", "other"] (defScope (tc 51 1)) := ⟨by rfl, by rfl, by rfl, by decide +kernel, by rfl, by decide +kernel, by decide +kernel⟩
set_option maxHeartbeats 4000000 in
theorem bo_Settleddd_eqdd {P : Program} {w : World} {K : PySem.W.Frag} {mg : Str → Option Value} {base : Heap} (F : FX wx K mg) {f : Addr} {fd : FuncData} (D : FunD K dd_Settleddd_eqdd.name dd_Settleddd_eqdd.qual dd_Settleddd_eqdd.params dd_Settleddd_eqdd.body dd_Settleddd_eqdd.scope (dd_Settleddd_eqdd.dvs K) (dd_Settleddd_eqdd.kws K) f fd) : FnOk P w K mg base (L2.CX P w) 1 f fd ["self", "other"] (spF ⟨K, P, w⟩ 2 m_Settleddd_eqdd) :=
  fn_small (fn_sh (np := 2) (ns := 2) (k := 0) (body := b_Settleddd_eqdd) D sc_Settleddd_eqdd rfl rfl fun cdv A outer s H E hr =>
    (sss_one (ss_ret (se_and (isC (cs := CS) 12 F.isi (F.free 6) (F.glo 51) (sv 1)) (se_one (se_cmp (so_eqG (room_w hr)) (se_fld (ok := (fun c => List.contains [11, 12] c)) (F.fld 5) (sv 0) rfl) (se_fld (ok := (fun c => List.contains [11, 12] c)) (F.fld 5) (sv 1) rfl) rfl))))))
theorem ok_Settleddd_eqdd {P : Program} {w : World} {K : PySem.W.Frag} {mg : Str → Option Value} {base : Heap} (F : FX wx K mg) : FnC P w K mg base 1 (He.fAd K ("Settled", some "__eq__")) 2 m_Settleddd_eqdd := by
  obtain ⟨fd, D⟩ := F.says.def_ 26 (d := dd_Settleddd_eqdd) rfl
  exact ⟨⟨fd, _, bo_Settleddd_eqdd F D, D.bindsN fun _ _ _ _ _ _ us hl => match us, hl with | [_, _], _ => rfl⟩, D.kp⟩
abbrev N_Unsettleddd_eqdd : List Str := ["self", "other"]
def b_Unsettleddd_eqdd : SF := (sRet (eAnd (eIsi CS [.cls 13] (eVar 1)) (eBin oEqG (eFld "pairs" (fun c => List.contains [13] c) (eVar 0)) (eFld "pairs" (fun c => List.contains [13] c) (eVar 1)))))
def m_Unsettleddd_eqdd : FF := fnP (fnS 2 2 b_Unsettleddd_eqdd)
theorem sc_Unsettleddd_eqdd : FnScope N_Unsettleddd_eqdd ["self", "other"] (defScope (tc 52 1)) := ⟨by rfl, by rfl, by rfl, by decide +kernel, by rfl, by decide +kernel, by decide +kernel⟩
set_option maxHeartbeats 4000000 in
theorem bo_Unsettleddd_eqdd {P : Program} {w : World} {K : PySem.W.Frag} {mg : Str → Option Value} {base : Heap} (F : FX wx K mg) {f : Addr} {fd : FuncData} (D : FunD K dd_Unsettleddd_eqdd.name dd_Unsettleddd_eqdd.qual dd_Unsettleddd_eqdd.params dd_Unsettleddd_eqdd.body dd_Unsettleddd_eqdd.scope (dd_Unsettleddd_eqdd.dvs K) (dd_Unsettleddd_eqdd.kws K) f fd) : FnOk P w K mg base (L2.CX P w) 1 f fd ["self", "other"] (spF ⟨K, P, w⟩ 2 m_Unsettleddd_eqdd) :=
  fn_small (fn_sh (np := 2) (ns := 2) (k := 0) (body := b_Unsettleddd_eqdd) D sc_Unsettleddd_eqdd rfl rfl fun cdv A outer s H E hr =>
    (sss_one (ss_ret (se_and (isC (cs := CS) 13 F.isi (F.free 6) (F.glo 52) (sv 1)) (se_one (se_cmp (so_eqG (room_w hr)) (se_fld (ok := (fun c => List.contains [13] c)) (F.fld 9) (sv 0) rfl) (se_fld (ok := (fun c => List.contains [13] c)) (F.fld 9) (sv 1) rfl) rfl))))))
theorem ok_Unsettleddd_eqdd {P : Program} {w : World} {K : PySem.W.Frag} {mg : Str → Option Value} {base : Heap} (F : FX wx K mg) : FnC P w K mg base 1 (He.fAd K ("Unsettled", some "__eq__")) 2 m_Unsettleddd_eqdd := by
  obtain ⟨fd, D⟩ := F.says.def_ 27 (d := dd_Unsettleddd_eqdd) rfl
  exact ⟨⟨fd, _, bo_Unsettleddd_eqdd F D, D.bindsN fun _ _ _ _ _ _ us hl => match us, hl with | [_, _], _ => rfl⟩, D.kp⟩
def dp_eq : Nat → Option FF := fun c => if c = 0 then some m_Ruledd_eqdd else if c = 10 then some m_Orderlessdd_eqdd else if c = 11 then some m_Ordereddd_eqdd else if c = 12 then some m_Settleddd_eqdd else if c = 13 then some m_Unsettleddd_eqdd else none
theorem hd_eq {P : Program} {w : World} {K : PySem.W.Frag} {mg : Str → Option Value} {base : Heap} (F : FX wx K mg) : ∀ c ff, dp_eq c = some ff → ∃ f, Meth K (ca K c) "__eq__" f ∧ ∃ fd ps, FnOk P w K mg base (L2.CX P w) 2 f fd ps (spF ⟨K, P, w⟩ 2 ff) ∧ Binds K fd ps [] := by
  intro c ff h
  unfold dp_eq at h
  by_cases hRule : c = 0
  · rw [if_pos hRule] at h; subst hRule; cases h; exact ⟨_, F.meth 53, ((ok_Ruledd_eqdd F).mono (by decide)).1⟩
  rw [if_neg hRule] at h
  by_cases hOrderless : c = 10
  · rw [if_pos hOrderless] at h; subst hOrderless; cases h; exact ⟨_, F.meth 54, ((ok_Orderlessdd_eqdd F).mono (by decide)).1⟩
  rw [if_neg hOrderless] at h
  by_cases hOrdered : c = 11
  · rw [if_pos hOrdered] at h; subst hOrdered; cases h; exact ⟨_, F.meth 55, ((ok_Ordereddd_eqdd F).mono (by decide)).1⟩
  rw [if_neg hOrdered] at h
  by_cases hSettled : c = 12
  · rw [if_pos hSettled] at h; subst hSettled; cases h; exact ⟨_, F.meth 56, ((ok_Settleddd_eqdd F).mono (by decide)).1⟩
  rw [if_neg hSettled] at h
  by_cases hUnsettled : c = 13
  · rw [if_pos hUnsettled] at h; subst hUnsettled; cases h; exact ⟨_, F.meth 57, ((ok_Unsettleddd_eqdd F).mono (by decide)).1⟩
  rw [if_neg hUnsettled] at h
  cases h
abbrev N_soonest_order : List Str := ["rule", "found"]
def b_soonest_order : SF := (sSeq (sSet 1 (eCall 1 m_order (aCons (eVar 0) aNil))) (sRet (eIf (tVal (eIsi CS [.cls 11] (eVar 1))) (eLen dp_len (eFld "row" (fun c => List.contains [11, 12] c) (eVar 1))) (eC .non))))
def m_soonest_order : FF := fnP (fnS 1 2 b_soonest_order)
theorem sc_soonest_order : FnScope N_soonest_order ["rule"] (defScope (tp 40)) := ⟨by rfl, by rfl, by rfl, by decide +kernel, by rfl, by decide +kernel, by decide +kernel⟩
set_option maxHeartbeats 4000000 in
theorem bo_soonest_order {P : Program} {w : World} {K : PySem.W.Frag} {mg : Str → Option Value} {base : Heap} (F : FX wx K mg) {f : Addr} {fd : FuncData} (D : FunD K dd_soonest_order.name dd_soonest_order.qual dd_soonest_order.params dd_soonest_order.body dd_soonest_order.scope (dd_soonest_order.dvs K) (dd_soonest_order.kws K) f fd) : FnOk P w K mg base (L2.CX P w) 10 f fd ["rule"] (spF ⟨K, P, w⟩ 1 m_soonest_order) :=
  fn_small (fn_sh (np := 1) (ns := 2) (k := 9) (body := b_soonest_order) D sc_soonest_order rfl rfl fun cdv A outer s H E hr =>
    (sss_cons (sset 1 sc_soonest_order.nd (sC (ok_order F) hr (F.glo 46) tkF (sa_cons (sv 0) sa_nil))) (sss_one (ss_ret (se_if (st_val (isC (cs := CS) 11 F.isi (F.free 6) (F.glo 43) (sv 1))) (se_len (hd_len F) (hr.mono (by decide)) rfl (F.free 0) (se_fld (ok := (fun c => List.contains [11, 12] c)) (F.fld 5) (sv 1) rfl)) se_non)))))
theorem ok_soonest_order {P : Program} {w : World} {K : PySem.W.Frag} {mg : Str → Option Value} {base : Heap} (F : FX wx K mg) : FnC P w K mg base 10 (He.fAd K ("soonest_order", none)) 1 m_soonest_order := by
  obtain ⟨fd, D⟩ := F.says.def_ 28 (d := dd_soonest_order) rfl
  exact ⟨⟨fd, _, bo_soonest_order F D, D.bindsN fun _ _ _ _ _ _ us hl => match us, hl with | [_], _ => rfl⟩, D.kp⟩
abbrev N_is_amount : List Str := ["rule", "thing"]
def b_is_amount : SF := (sRet (eAnd (eCall 3 m_is_number (aCons (eVar 1) (aCons (eC (.int 1)) (aCons (eMeth "whole" dp_whole (eVar 0) aNil) aNil)))) (eBin (oIn false) (eVar 1) (eFld "amounts" (fun c => List.contains [0] c) (eVar 0)))))
def m_is_amount : FF := fnP (fnS 2 2 b_is_amount)
theorem sc_is_amount : FnScope N_is_amount ["rule", "thing"] (defScope (tp 26)) := ⟨by rfl, by rfl, by rfl, by decide +kernel, by rfl, by decide +kernel, by decide +kernel⟩
set_option maxHeartbeats 4000000 in
theorem bo_is_amount {P : Program} {w : World} {K : PySem.W.Frag} {mg : Str → Option Value} {base : Heap} (F : FX wx K mg) {f : Addr} {fd : FuncData} (D : FunD K dd_is_amount.name dd_is_amount.qual dd_is_amount.params dd_is_amount.body dd_is_amount.scope (dd_is_amount.dvs K) (dd_is_amount.kws K) f fd) : FnOk P w K mg base (L2.CX P w) 2 f fd ["rule", "thing"] (spF ⟨K, P, w⟩ 2 m_is_amount) :=
  fn_small (fn_sh (np := 2) (ns := 2) (k := 1) (body := b_is_amount) D sc_is_amount rfl rfl fun cdv A outer s H E hr =>
    (sss_one (ss_ret (se_and (sC (ok_is_number F) hr (F.glo 11) tkF (sa_cons (sv 1) (sa_cons se_int (sa_cons (se_meth0 (sv 0) (hd_whole F) (hr.mono (by decide)) tkF) sa_nil)))) (se_one (se_cmp (so_in (room_u hr)) (sv 1) (se_fld (ok := (fun c => List.contains [0] c)) (F.fld 1) (sv 0) rfl) rfl))))))
theorem ok_is_amount {P : Program} {w : World} {K : PySem.W.Frag} {mg : Str → Option Value} {base : Heap} (F : FX wx K mg) : FnC P w K mg base 2 (He.fAd K ("is_amount", none)) 2 m_is_amount := by
  obtain ⟨fd, D⟩ := F.says.def_ 29 (d := dd_is_amount) rfl
  exact ⟨⟨fd, _, bo_is_amount F D, D.bindsN fun _ _ _ _ _ _ us hl => match us, hl with | [_, _], _ => rfl⟩, D.kp⟩
abbrev N_check_row : List Str := ["rule", "row", "index", "amount"]
def b_check_row : SF := (sSeq (sExpr (eCall 1 m_check_rule (aCons (eVar 0) aNil))) (sSeq (sIf (tNot (tVal (eIsi CS [.ty "list", .ty "tuple"] (eVar 1)))) sBad sSkip) (sFor (iEnum (eVar 1)) (gTu 2 (gsCons (gNm 2) (gsCons (gNm 3) gsNil))) (sIf (tNot (tVal (eCall 2 m_is_amount (aCons (eVar 0) (aCons (eVar 3) aNil))))) sBad sSkip))))
def m_check_row : FF := fnP (fnS 2 4 b_check_row)
theorem sc_check_row : FnScope N_check_row ["rule", "row"] (defScope (tp 27)) := ⟨by rfl, by rfl, by rfl, by decide +kernel, by rfl, by decide +kernel, by decide +kernel⟩
set_option maxHeartbeats 4000000 in
theorem bo_check_row {P : Program} {w : World} {K : PySem.W.Frag} {mg : Str → Option Value} {base : Heap} (F : FX wx K mg) {f : Addr} {fd : FuncData} (D : FunD K dd_check_row.name dd_check_row.qual dd_check_row.params dd_check_row.body dd_check_row.scope (dd_check_row.dvs K) (dd_check_row.kws K) f fd) : FnOk P w K mg base (L2.CX P w) 3 f fd ["rule", "row"] (spF ⟨K, P, w⟩ 2 m_check_row) :=
  fn_small (fn_sh (np := 2) (ns := 4) (k := 2) (body := b_check_row) D sc_check_row rfl rfl fun cdv A outer s H E hr =>
    (sss_cons (ss_expr (sC (ok_check_rule F) hr (F.glo 22) tkF (sa_cons (sv 0) sa_nil))) (sss_cons (ss_if (st_not (st_val (se_isiT (cs := CS) (ts := [.ty "list", .ty "tuple"]) F.isi rfl (F.free 6) (sv 1) (by decide) (pa_cons (pe_bltn rfl (F.free 24) (by decide +kernel) rfl) (pa_cons (pe_bltn rfl (F.free 7) (by decide +kernel) rfl) pa_nil)) (pe_tup (pa_cons (pe_bltn rfl (F.free 24) (by decide +kernel) rfl) (pa_cons (pe_bltn rfl (F.free 7) (by decide +kernel) rfl) pa_nil)))))) (sss_one ss_bad) sss_nil) (sss_one (ss_for ownF rfl (si_enum rfl (F.free 26) (sv 1)) (sg_tu rfl (sgs_cons (gnm 2 sc_check_row.nd) (sgs_cons (gnm 3 sc_check_row.nd) sgs_nil))) (sss_one (ss_if (st_not (st_val (sC (ok_is_amount F) hr (F.glo 59) tkF (sa_cons (sv 0) (sa_cons (sv 3) sa_nil))))) (sss_one ss_bad) sss_nil)))))))
theorem ok_check_row {P : Program} {w : World} {K : PySem.W.Frag} {mg : Str → Option Value} {base : Heap} (F : FX wx K mg) : FnC P w K mg base 3 (He.fAd K ("check_row", none)) 2 m_check_row := by
  obtain ⟨fd, D⟩ := F.says.def_ 30 (d := dd_check_row) rfl
  exact ⟨⟨fd, _, bo_check_row F D, D.bindsN fun _ _ _ _ _ _ us hl => match us, hl with | [_, _], _ => rfl⟩, D.kp⟩
abbrev N_walked : List Str := ["rule", "row", "amount", "state", "found", "gets"]
def b_walked : SF := (sSeq (sPar [3, 4] (aCons (eCall 1 m_start_of (aCons (eVar 0) aNil)) (aCons (eLst aNil) aNil))) (sSeq (sFor (iAny (eVar 1)) (gNm 2) (sSeq (sAsg (eCall 3 m_done (aCons (eVar 0) (aCons (eVar 3) (aCons (eVar 2) aNil)))) (gTu 2 (gsCons (gNm 3) (gsCons (gNm 5) gsNil)))) (sExpr (eMt "list" (oLst gApp) (eVar 4) (aCons (eVar 5) aNil))))) (sRet (eTup (aCons (eVar 3) (aCons (eVar 4) aNil))))))
def m_walked : FF := fnP (fnS 2 6 b_walked)
theorem sc_walked : FnScope N_walked ["rule", "row"] (defScope (tp 28)) := ⟨by rfl, by rfl, by rfl, by decide +kernel, by rfl, by decide +kernel, by decide +kernel⟩
set_option maxHeartbeats 4000000 in
theorem bo_walked {P : Program} {w : World} {K : PySem.W.Frag} {mg : Str → Option Value} {base : Heap} (F : FX wx K mg) {f : Addr} {fd : FuncData} (D : FunD K dd_walked.name dd_walked.qual dd_walked.params dd_walked.body dd_walked.scope (dd_walked.dvs K) (dd_walked.kws K) f fd) : FnOk P w K mg base (L2.CX P w) 6 f fd ["rule", "row"] (spF ⟨K, P, w⟩ 2 m_walked) :=
  fn_small (fn_sh (np := 2) (ns := 6) (k := 5) (body := b_walked) D sc_walked rfl rfl fun cdv A outer s H E hr =>
    (sss_cons (ss_par2 (i := 3) (j := 4) rfl sc_walked.nd rfl rfl (by decide) rfl rfl (sa_cons (sC (ok_start_of F) hr (F.glo 23) tkF (sa_cons (sv 0) sa_nil)) (sa_cons (se_lst sa_nil) sa_nil)) rfl) (sss_cons (ss_for ownF rfl (si_any (sv 1)) (gnm 2 sc_walked.nd) (sss_cons (ss_asg (sC (ok_done F) hr (F.glo 33) tkF (sa_cons (sv 0) (sa_cons (sv 3) (sa_cons (sv 2) sa_nil)))) (sg_tu rfl (sgs_cons (gnm 3 sc_walked.nd) (sgs_cons (gnm 5 sc_walked.nd) sgs_nil)))) (sss_one (ss_expr (se_mt PySem.F.plainAttrs_list PySem.F.slot_list_append PySem.F.type_list_append mt_app (sv 4) (sa_cons (sv 5) sa_nil)))))) (sss_one (ss_ret (se_tup (sa_cons (sv 3) (sa_cons (sv 4) sa_nil))))))))
theorem ok_walked {P : Program} {w : World} {K : PySem.W.Frag} {mg : Str → Option Value} {base : Heap} (F : FX wx K mg) : FnC P w K mg base 6 (He.fAd K ("walked", none)) 2 m_walked := by
  obtain ⟨fd, D⟩ := F.says.def_ 31 (d := dd_walked) rfl
  exact ⟨⟨fd, _, bo_walked F D, D.bindsN fun _ _ _ _ _ _ us hl => match us, hl with | [_, _], _ => rfl⟩, D.kp⟩
abbrev N_exchanged : List Str := ["rule", "row", "one", "other"]
def b_exchanged : SF := (sSeq (sExpr (eCall 2 m_check_row (aCons (eVar 0) (aCons (eVar 1) aNil)))) (sSeq (sIf (tOr (tNot (tVal (eCall 2 m_is_amount (aCons (eVar 0) (aCons (eVar 2) aNil))))) (tNot (tVal (eCall 2 m_is_amount (aCons (eVar 0) (aCons (eVar 3) aNil)))))) (sRaise 24) sSkip) (sRet (eCall 3 m_can_exchange (aCons (eVar 0) (aCons (eBin oIx (eCall 2 m_walked (aCons (eVar 0) (aCons (eVar 1) aNil))) (eC (.int 0))) (aCons (eTup (aCons (eVar 2) (aCons (eVar 3) aNil))) aNil)))))))
def m_exchanged : FF := fnP (fnS 4 4 b_exchanged)
theorem sc_exchanged : FnScope N_exchanged ["rule", "row", "one", "other"] (defScope (tp 41)) := ⟨by rfl, by rfl, by rfl, by decide +kernel, by rfl, by decide +kernel, by decide +kernel⟩
set_option maxHeartbeats 4000000 in
theorem bo_exchanged {P : Program} {w : World} {K : PySem.W.Frag} {mg : Str → Option Value} {base : Heap} (F : FX wx K mg) {f : Addr} {fd : FuncData} (D : FunD K dd_exchanged.name dd_exchanged.qual dd_exchanged.params dd_exchanged.body dd_exchanged.scope (dd_exchanged.dvs K) (dd_exchanged.kws K) f fd) : FnOk P w K mg base (L2.CX P w) 8 f fd ["rule", "row", "one", "other"] (spF ⟨K, P, w⟩ 4 m_exchanged) :=
  fn_small (fn_sh (np := 4) (ns := 4) (k := 7) (body := b_exchanged) D sc_exchanged rfl rfl fun cdv A outer s H E hr =>
    (sss_cons (ss_expr (sC (ok_check_row F) hr (F.glo 60) tkF (sa_cons (sv 0) (sa_cons (sv 1) sa_nil)))) (sss_cons (ss_if (st_w (sw_or (st_not (st_val (sC (ok_is_amount F) hr (F.glo 59) tkF (sa_cons (sv 0) (sa_cons (sv 2) sa_nil))))) (sw_or1 (st_not (st_val (sC (ok_is_amount F) hr (F.glo 59) tkF (sa_cons (sv 0) (sa_cons (sv 3) sa_nil)))))))) (sss_one (ss_raise 24 (F.says.fact 61 rfl) (F.glo 62) tkF)) sss_nil) (sss_one (ss_ret (sC (ok_can_exchange F) hr (F.glo 40) tkF (sa_cons (sv 0) (sa_cons (se_ix (ix_all (room_v hr)) (sC (ok_walked F) hr (F.glo 63) tkF (sa_cons (sv 0) (sa_cons (sv 1) sa_nil))) se_int (fun _ _ => rfl)) (sa_cons (se_tup (sa_cons (sv 2) (sa_cons (sv 3) sa_nil))) sa_nil)))))))))
theorem ok_exchanged {P : Program} {w : World} {K : PySem.W.Frag} {mg : Str → Option Value} {base : Heap} (F : FX wx K mg) : FnC P w K mg base 8 (He.fAd K ("exchanged", none)) 4 m_exchanged := by
  obtain ⟨fd, D⟩ := F.says.def_ 32 (d := dd_exchanged) rfl
  exact ⟨⟨fd, _, bo_exchanged F D, D.bindsN fun _ _ _ _ _ _ us hl => match us, hl with | [_, _, _, _], _ => rfl⟩, D.kp⟩
abbrev N_orders_of : List Str := ["row", "found", "amount", "some", "at"]
def b_orders_of : SF := (sSeq (sSet 1 (eDisp [((eTup aNil), (eC (.bl true)))])) (sSeq (sFor (iAny (eVar 0)) (gNm 2) (sSet 1 (eDcN (iAny (eVar 1)) true [3] [3, 4] tYesD (nLv (iRng1 (eBin oAdd (eLen dp_len (eVar 3)) (eC (.int 1)))) true [4] [4] tYesD (nEmD (eTup (aStar (eSl (eVar 3) pNone (pSome (eVar 4))) (aCons (eVar 2) (aStar (eSl (eVar 3) (pSome (eVar 4)) pNone) aNil)))) (eC (.bl true))))))) (sRet (eB (op1 gListA) (aCons (eVar 1) aNil)))))
def m_orders_of : FF := fnP (fnS 1 5 b_orders_of)
theorem sc_orders_of : FnScope N_orders_of ["row"] (defScope (tp 42)) := ⟨by rfl, by rfl, by rfl, by decide +kernel, by rfl, by decide +kernel, by decide +kernel⟩
set_option maxHeartbeats 4000000 in
theorem bo_orders_of {P : Program} {w : World} {K : PySem.W.Frag} {mg : Str → Option Value} {base : Heap} (F : FX wx K mg) {f : Addr} {fd : FuncData} (D : FunD K dd_orders_of.name dd_orders_of.qual dd_orders_of.params dd_orders_of.body dd_orders_of.scope (dd_orders_of.dvs K) (dd_orders_of.kws K) f fd) : FnOk P w K mg base (L2.CX P w) 4 f fd ["row"] (spF ⟨K, P, w⟩ 1 m_orders_of) :=
  fn_small (fn_sh (np := 1) (ns := 5) (k := 3) (body := b_orders_of) D sc_orders_of rfl rfl fun cdv A outer s H E hr =>
    (sss_cons (sset 1 sc_orders_of.nd (se_disp (ps := [((eTup aNil), (eC (.bl true)))]) (room_v hr) (pps_cons (se_tup sa_nil) se_bl pps_nil) rfl rfl (by simp) (by decide))) (sss_cons (ss_for ownF rfl (si_any (sv 0)) (gnm 2 sc_orders_of.nd) (sss_one (ss_setDcN (i := 1) (own := [("some", 3), ("at", 4)]) (one := true) (is := [3]) (t := (gName 3)) rfl sc_orders_of.nd rfl rfl (sw_trueD rfl rfl rfl (by decide +kernel)) (si_any (sv 1)) (blkOk_by (own := [("some", 3), ("at", 4)]) (by rfl)) (by decide) (by decide) (as_some rfl rfl) (fun _ _ _ _ _ => ⟨(pg_name (i := 3) sc_orders_of.nd rfl (Or.inl rfl)), sts_nil⟩) (inn_lv (one := true) (is := [4]) (vs := [4]) (t := (gName 4)) (fun _ => acD_ok) rfl IsC.dct rfl (as_none rfl) (fun _ _ _ _ _ => ⟨(si_rng1 rfl (F.free 25) (se_bin so_add (se_len (hd_len F) (hr.mono (by decide)) rfl (F.free 0) (sv 3)) se_int)), (pg_name (i := 4) sc_orders_of.nd rfl (Or.inl rfl)), sts_nil⟩) (inn_emD (room_v hr) rfl (fun _ _ _ _ _ => ⟨(se_tup (sa_star (se_sl (sv 3) so_none (so_some (sv 4))) (sa_cons (sv 2) (sa_star (se_sl (sv 3) (so_some (sv 4)) so_none) sa_nil)))), se_bl⟩)) (by decide) (by decide) (fun e r h => rd_one (i := 4) e r h)) (fun e r h => rd_one (i := 3) e r h)))) (sss_one (ss_ret (se_callTy (cl_listA rfl) rfl (F.free 24) (by decide +kernel) (sa_cons (sv 1) sa_nil)))))))
theorem ok_orders_of {P : Program} {w : World} {K : PySem.W.Frag} {mg : Str → Option Value} {base : Heap} (F : FX wx K mg) : FnC P w K mg base 4 (He.fAd K ("orders_of", none)) 1 m_orders_of := by
  obtain ⟨fd, D⟩ := F.says.def_ 33 (d := dd_orders_of) rfl
  exact ⟨⟨fd, _, bo_orders_of F D, D.bindsN fun _ _ _ _ _ _ us hl => match us, hl with | [_], _ => rfl⟩, D.kp⟩
abbrev N_totals_by : List Str := ["rule", "row", "found", "gets", "one", "other"]
def b_totals_by : SF := (sSeq (sSet 2 (eBin oMul (eLst (aCons (eC (.int 0)) aNil)) (eLen dp_len (eVar 0)))) (sSeq (sFor (iAny (eBin oIx (eCall 2 m_walked (aCons (eVar 0) (aCons (eVar 1) aNil))) (eC (.int 1)))) (gNm 3) (sSet 2 (eLc (iZip (eVar 2) (eVar 3)) false [4, 5] [4, 5] tYesD (eBin oAdd (eVar 4) (eVar 5))))) (sRet (eVar 2))))
def m_totals_by : FF := fnP (fnS 2 6 b_totals_by)
theorem sc_totals_by : FnScope N_totals_by ["rule", "row"] (defScope (tp 43)) := ⟨by rfl, by rfl, by rfl, by decide +kernel, by rfl, by decide +kernel, by decide +kernel⟩
set_option maxHeartbeats 4000000 in
theorem bo_totals_by {P : Program} {w : World} {K : PySem.W.Frag} {mg : Str → Option Value} {base : Heap} (F : FX wx K mg) {f : Addr} {fd : FuncData} (D : FunD K dd_totals_by.name dd_totals_by.qual dd_totals_by.params dd_totals_by.body dd_totals_by.scope (dd_totals_by.dvs K) (dd_totals_by.kws K) f fd) : FnOk P w K mg base (L2.CX P w) 7 f fd ["rule", "row"] (spF ⟨K, P, w⟩ 2 m_totals_by) :=
  fn_small (fn_sh (np := 2) (ns := 6) (k := 6) (body := b_totals_by) D sc_totals_by rfl rfl fun cdv A outer s H E hr =>
    (sss_cons (sset 2 sc_totals_by.nd (se_bin so_mul (se_lst (sa_cons se_int sa_nil)) (se_len (hd_len F) (hr.mono (by decide)) rfl (F.free 0) (sv 0)))) (sss_cons (ss_for ownF rfl (si_any (se_ix (ix_all (room_v hr)) (sC (ok_walked F) hr (F.glo 63) tkF (sa_cons (sv 0) (sa_cons (sv 1) sa_nil))) se_int (fun _ _ => rfl))) (gnm 3 sc_totals_by.nd) (sss_one (ss_setLcP (i := 2) (own := [("one", 4), ("other", 5)]) (one := false) (is := [4, 5]) (t := (gTup K 2 (gNs [4, 5]))) rfl sc_totals_by.nd rfl rfl (sw_true rfl rfl rfl (by decide +kernel)) (si_zip rfl (F.free 15) (sv 2) (sv 3)) (blkOk_by (own := [("one", 4), ("other", 5)]) (by rfl)) (by decide) (fun _ _ _ _ _ => ⟨(pg_tup rfl (gns_cons (i := 4) sc_totals_by.nd rfl (Or.inl rfl) (gns_cons (i := 5) sc_totals_by.nd rfl (Or.inl rfl) gns_nil))), sts_nil, (se_bin so_add (sv 4) (sv 5))⟩) (fun e r h => rd_tup (is := [4, 5]) e r h)))) (sss_one (ss_ret (sv 2))))))
theorem ok_totals_by {P : Program} {w : World} {K : PySem.W.Frag} {mg : Str → Option Value} {base : Heap} (F : FX wx K mg) : FnC P w K mg base 7 (He.fAd K ("totals_by", none)) 2 m_totals_by := by
  obtain ⟨fd, D⟩ := F.says.def_ 34 (d := dd_totals_by) rfl
  exact ⟨⟨fd, _, bo_totals_by F D, D.bindsN fun _ _ _ _ _ _ us hl => match us, hl with | [_, _], _ => rfl⟩, D.kp⟩
abbrev N_ranges : List Str := ["rule", "row", "totals", "some"]
def b_ranges : SF := (sSeq (sExpr (eCall 2 m_check_row (aCons (eVar 0) (aCons (eVar 1) aNil)))) (sSeq (sIf (tVal (eBin oGt (eLen dp_len (eVar 1)) (eC (.int 6)))) (sRaise 19) sSkip) (sSeq (sSet 2 (eLc (iAny (eCall 1 m_orders_of (aCons (eVar 1) aNil))) true [3] [3] tYesD (eCall 2 m_totals_by (aCons (eVar 0) (aCons (eVar 3) aNil))))) (sRet (eLc (iZipS (eVar 2)) true [3] [3] tYesD (eTup (aCons (eB opMinG (aCons (eVar 3) aNil)) (aCons (eB opMaxG (aCons (eVar 3) aNil)) aNil))))))))
def m_ranges : FF := fnP (fnS 2 4 b_ranges)
theorem sc_ranges : FnScope N_ranges ["rule", "row"] (defScope (tp 44)) := ⟨by rfl, by rfl, by rfl, by decide +kernel, by rfl, by decide +kernel, by decide +kernel⟩
set_option maxHeartbeats 4000000 in
theorem bo_ranges {P : Program} {w : World} {K : PySem.W.Frag} {mg : Str → Option Value} {base : Heap} (F : FX wx K mg) {f : Addr} {fd : FuncData} (D : FunD K dd_ranges.name dd_ranges.qual dd_ranges.params dd_ranges.body dd_ranges.scope (dd_ranges.dvs K) (dd_ranges.kws K) f fd) : FnOk P w K mg base (L2.CX P w) 8 f fd ["rule", "row"] (spF ⟨K, P, w⟩ 2 m_ranges) :=
  fn_small (fn_sh (np := 2) (ns := 4) (k := 7) (body := b_ranges) D sc_ranges rfl rfl fun cdv A outer s H E hr =>
    (sss_cons (ss_expr (sC (ok_check_row F) hr (F.glo 60) tkF (sa_cons (sv 0) (sa_cons (sv 1) sa_nil)))) (sss_cons (ss_if (st_cmp so_gt (se_len (hd_len F) (hr.mono (by decide)) rfl (F.free 0) (sv 1)) (se_gint rfl (F.int 65)) rfl) (sss_one (ss_raise 19 (F.says.fact 35 rfl) (F.glo 36) tkF)) sss_nil) (sss_cons (ss_setLcP (i := 2) (own := [("some", 3)]) (one := true) (is := [3]) (t := (gName 3)) rfl sc_ranges.nd rfl rfl (sw_true rfl rfl rfl (by decide +kernel)) (si_any (sC (ok_orders_of F) hr (F.glo 66) tkF (sa_cons (sv 1) sa_nil))) (blkOk_by (own := [("some", 3)]) (by rfl)) (by decide) (fun _ _ _ _ _ => ⟨(pg_name (i := 3) sc_ranges.nd rfl (Or.inl rfl)), sts_nil, (sC (ok_totals_by F) hr (F.glo 67) tk0 (sa_cons (sv 0) (sa_cons (sv 3) sa_nil)))⟩) (fun e r h => rd_one (i := 3) e r h)) (sss_one (ss_ret (se_lcP (own := [("some", 3)]) (one := true) (is := [3]) (t := (gName 3)) rfl sc_ranges.nd (si_zipS rfl (F.free 15) (sv 2)) (blkOk_by (own := [("some", 3)]) (by rfl)) (by decide) (fun _ _ _ _ _ => ⟨(pg_name (i := 3) sc_ranges.nd rfl (Or.inl rfl)), sts_nil, (se_tup (sa_cons (se_callB (cl_minG (room_v hr) rfl) rfl (F.free 32) (by decide +kernel) (sa_cons (sv 3) sa_nil)) (sa_cons (se_callB (cl_maxG (room_v hr) rfl) rfl (F.free 29) (by decide +kernel) (sa_cons (sv 3) sa_nil)) sa_nil)))⟩) (fun e r h => rd_one (i := 3) e r h))))))))
theorem ok_ranges {P : Program} {w : World} {K : PySem.W.Frag} {mg : Str → Option Value} {base : Heap} (F : FX wx K mg) : FnC P w K mg base 8 (He.fAd K ("ranges", none)) 2 m_ranges := by
  obtain ⟨fd, D⟩ := F.says.def_ 35 (d := dd_ranges) rfl
  exact ⟨⟨fd, _, bo_ranges F D, D.bindsN fun _ _ _ _ _ _ us hl => match us, hl with | [_, _], _ => rfl⟩, D.kp⟩
abbrev N_Orderless_shows : List Str := ["self", "rule", "known", "state", "amount"]
def b_Orderless_shows : SF := (sSeq (sExpr (eCall 1 m_check_rule (aCons (eVar 1) aNil))) (sSeq (sSet 2 (eDc (iAny (eFld "states" (fun c => List.contains [10] c) (eVar 0))) true [3] [3] tYesD (eVar 3) (eC (.bl true)))) (sSeq (sIf (tVal (eBin (oIn true) (eCall 1 m_start_of (aCons (eVar 1) aNil)) (eVar 2))) (sRet (eC (.bl false))) sSkip) (sSeq (sFor (iAny (eVar 2)) (gNm 3) (sSeq (sIf (tVal (eBin (oIs true) (eCall 2 m_first_ordered (aCons (eVar 1) (aCons (eVar 3) aNil))) (eC .non))) (sRet (eC (.bl false))) sSkip) (sIf (tNot (tVal (eB (op1 (gBls fun bs => bs.all id)) (aCons (eLc (iAny (eFld "amounts" (fun c => List.contains [0] c) (eVar 1))) true [4] [4] tYesD (eBin (oIn false) (eBin oIx (eCall 3 m_done (aCons (eVar 1) (aCons (eVar 3) (aCons (eVar 4) aNil)))) (eC (.int 0))) (eVar 2))) aNil)))) (sRet (eC (.bl false))) sSkip))) (sRet (eC (.bl true)))))))
def m_Orderless_shows : FF := fnP (fnS 2 5 b_Orderless_shows)
theorem sc_Orderless_shows : FnScope N_Orderless_shows ["self", "rule"] (defScope (tc 36 2)) := ⟨by rfl, by rfl, by rfl, by decide +kernel, by rfl, by decide +kernel, by decide +kernel⟩
set_option maxHeartbeats 4000000 in
theorem bo_Orderless_shows {P : Program} {w : World} {K : PySem.W.Frag} {mg : Str → Option Value} {base : Heap} (F : FX wx K mg) {f : Addr} {fd : FuncData} (D : FunD K dd_Orderless_shows.name dd_Orderless_shows.qual dd_Orderless_shows.params dd_Orderless_shows.body dd_Orderless_shows.scope (dd_Orderless_shows.dvs K) (dd_Orderless_shows.kws K) f fd) : FnOk P w K mg base (L2.CX P w) 9 f fd ["self", "rule"] (spF ⟨K, P, w⟩ 2 m_Orderless_shows) :=
  fn_small (fn_sh (np := 2) (ns := 5) (k := 8) (body := b_Orderless_shows) D sc_Orderless_shows rfl rfl fun cdv A outer s H E hr =>
    (sss_cons (ss_expr (sC (ok_check_rule F) hr (F.glo 22) tkF (sa_cons (sv 1) sa_nil))) (sss_cons (sset 2 sc_Orderless_shows.nd (se_dc (own := [("state", 3)]) (one := true) (is := [3]) (t := (gName 3)) rfl sc_Orderless_shows.nd (room_v hr) (si_any (se_fld (ok := (fun c => List.contains [10] c)) (F.fld 8) (sv 0) rfl)) (blkOk_by (own := [("state", 3)]) (by rfl)) (by decide) (fun _ _ _ _ _ => ⟨(pg_name (i := 3) sc_Orderless_shows.nd rfl (Or.inl rfl)), sts_nil, (sv 3), se_bl⟩) (fun e r h => rd_one (i := 3) e r h))) (sss_cons (ss_if (st_cmp (so_notIn (room_u hr)) (sC (ok_start_of F) hr (F.glo 23) tkF (sa_cons (sv 1) sa_nil)) (sv 2) rfl) (sss_one (ss_ret se_bl)) sss_nil) (sss_cons (ss_for ownF rfl (si_any (sv 2)) (gnm 3 sc_Orderless_shows.nd) (sss_cons (ss_if (st_cmp so_isNot (sC (ok_first_ordered F) hr (F.glo 41) tkF (sa_cons (sv 1) (sa_cons (sv 3) sa_nil))) se_non rfl) (sss_one (ss_ret se_bl)) sss_nil) (sss_one (ss_if (st_not (st_val (se_callB (cl_all rfl) rfl (F.free 12) (by decide +kernel) (sa_cons (se_lcP (own := [("amount", 4)]) (one := true) (is := [4]) (t := (gName 4)) rfl sc_Orderless_shows.nd (si_any (se_fld (ok := (fun c => List.contains [0] c)) (F.fld 1) (sv 1) rfl)) (blkOk_by (own := [("amount", 4)]) (by rfl)) (by decide) (fun _ _ _ _ _ => ⟨(pg_name (i := 4) sc_Orderless_shows.nd rfl (Or.inl rfl)), sts_nil, (se_cmp (so_in (room_u hr)) (se_ix (ix_all (room_v hr)) (sC (ok_done F) hr (F.glo 33) tk0 (sa_cons (sv 1) (sa_cons (sv 3) (sa_cons (sv 4) sa_nil)))) se_int (fun _ _ => rfl)) (sv 2) rfl)⟩) (fun e r h => rd_one (i := 4) e r h)) sa_nil)))) (sss_one (ss_ret se_bl)) sss_nil)))) (sss_one (ss_ret se_bl)))))))
theorem ok_Orderless_shows {P : Program} {w : World} {K : PySem.W.Frag} {mg : Str → Option Value} {base : Heap} (F : FX wx K mg) : FnC P w K mg base 9 (He.fAd K ("Orderless", some "shows")) 2 m_Orderless_shows := by
  obtain ⟨fd, D⟩ := F.says.def_ 36 (d := dd_Orderless_shows) rfl
  exact ⟨⟨fd, _, bo_Orderless_shows F D, D.bindsN fun _ _ _ _ _ _ us hl => match us, hl with | [_, _], _ => rfl⟩, D.kp⟩
abbrev N_Ordered_shows : List Str := ["self", "rule", "amount"]
def b_Ordered_shows : SF := (sSeq (sExpr (eCall 1 m_check_rule (aCons (eVar 1) aNil))) (sSeq (sIf (tNot (tVal (eB (op1 (gBls fun bs => bs.all id)) (aCons (eLc (iAny (eTup (aStar (eFld "row" (fun c => List.contains [11, 12] c) (eVar 0)) (aCons (eFld "one" (fun c => List.contains [11] c) (eVar 0)) (aCons (eFld "other" (fun c => List.contains [11] c) (eVar 0)) aNil))))) true [2] [2] tYesD (eCall 2 m_is_amount (aCons (eVar 1) (aCons (eVar 2) aNil)))) aNil)))) (sRet (eC (.bl false))) sSkip) (sRet (eNot (eCall 3 m_can_exchange (aCons (eVar 1) (aCons (eBin oIx (eCall 2 m_walked (aCons (eVar 1) (aCons (eFld "row" (fun c => List.contains [11, 12] c) (eVar 0)) aNil))) (eC (.int 0))) (aCons (eTup (aCons (eFld "one" (fun c => List.contains [11] c) (eVar 0)) (aCons (eFld "other" (fun c => List.contains [11] c) (eVar 0)) aNil))) aNil))))))))
def m_Ordered_shows : FF := fnP (fnS 2 3 b_Ordered_shows)
theorem sc_Ordered_shows : FnScope N_Ordered_shows ["self", "rule"] (defScope (tc 37 3)) := ⟨by rfl, by rfl, by rfl, by decide +kernel, by rfl, by decide +kernel, by decide +kernel⟩
set_option maxHeartbeats 4000000 in
theorem bo_Ordered_shows {P : Program} {w : World} {K : PySem.W.Frag} {mg : Str → Option Value} {base : Heap} (F : FX wx K mg) {f : Addr} {fd : FuncData} (D : FunD K dd_Ordered_shows.name dd_Ordered_shows.qual dd_Ordered_shows.params dd_Ordered_shows.body dd_Ordered_shows.scope (dd_Ordered_shows.dvs K) (dd_Ordered_shows.kws K) f fd) : FnOk P w K mg base (L2.CX P w) 8 f fd ["self", "rule"] (spF ⟨K, P, w⟩ 2 m_Ordered_shows) :=
  fn_small (fn_sh (np := 2) (ns := 3) (k := 7) (body := b_Ordered_shows) D sc_Ordered_shows rfl rfl fun cdv A outer s H E hr =>
    (sss_cons (ss_expr (sC (ok_check_rule F) hr (F.glo 22) tkF (sa_cons (sv 1) sa_nil))) (sss_cons (ss_if (st_not (st_val (se_callB (cl_all rfl) rfl (F.free 12) (by decide +kernel) (sa_cons (se_lcP (own := [("amount", 2)]) (one := true) (is := [2]) (t := (gName 2)) rfl sc_Ordered_shows.nd (si_any (se_tup (sa_star (se_fld (ok := (fun c => List.contains [11, 12] c)) (F.fld 5) (sv 0) rfl) (sa_cons (se_fld (ok := (fun c => List.contains [11] c)) (F.fld 6) (sv 0) rfl) (sa_cons (se_fld (ok := (fun c => List.contains [11] c)) (F.fld 7) (sv 0) rfl) sa_nil))))) (blkOk_by (own := [("amount", 2)]) (by rfl)) (by decide) (fun _ _ _ _ _ => ⟨(pg_name (i := 2) sc_Ordered_shows.nd rfl (Or.inl rfl)), sts_nil, (sC (ok_is_amount F) hr (F.glo 59) tk0 (sa_cons (sv 1) (sa_cons (sv 2) sa_nil)))⟩) (fun e r h => rd_one (i := 2) e r h)) sa_nil)))) (sss_one (ss_ret se_bl)) sss_nil) (sss_one (ss_ret (se_not (sC (ok_can_exchange F) hr (F.glo 40) tkF (sa_cons (sv 1) (sa_cons (se_ix (ix_all (room_v hr)) (sC (ok_walked F) hr (F.glo 63) tkF (sa_cons (sv 1) (sa_cons (se_fld (ok := (fun c => List.contains [11, 12] c)) (F.fld 5) (sv 0) rfl) sa_nil))) se_int (fun _ _ => rfl)) (sa_cons (se_tup (sa_cons (se_fld (ok := (fun c => List.contains [11] c)) (F.fld 6) (sv 0) rfl) (sa_cons (se_fld (ok := (fun c => List.contains [11] c)) (F.fld 7) (sv 0) rfl) sa_nil))) sa_nil))))))))))
theorem ok_Ordered_shows {P : Program} {w : World} {K : PySem.W.Frag} {mg : Str → Option Value} {base : Heap} (F : FX wx K mg) : FnC P w K mg base 8 (He.fAd K ("Ordered", some "shows")) 2 m_Ordered_shows := by
  obtain ⟨fd, D⟩ := F.says.def_ 37 (d := dd_Ordered_shows) rfl
  exact ⟨⟨fd, _, bo_Ordered_shows F D, D.bindsN fun _ _ _ _ _ _ us hl => match us, hl with | [_, _], _ => rfl⟩, D.kp⟩
abbrev N_states_of : List Str := ["rule", "found"]
def b_states_of : SF := (sSeq (sSet 1 (eB (op1 gListA) (aCons (eCall 1 m_reach (aCons (eVar 0) aNil)) aNil))) (sSeq (sIf (tVal (eBin oGt (eLen dp_len (eVar 1)) (eC (.int 60)))) (sRaise 19) sSkip) (sRet (eVar 1))))
def m_states_of : FF := fnP (fnS 1 2 b_states_of)
theorem sc_states_of : FnScope N_states_of ["rule"] (defScope (tp 47)) := ⟨by rfl, by rfl, by rfl, by decide +kernel, by rfl, by decide +kernel, by decide +kernel⟩
set_option maxHeartbeats 4000000 in
theorem bo_states_of {P : Program} {w : World} {K : PySem.W.Frag} {mg : Str → Option Value} {base : Heap} (F : FX wx K mg) {f : Addr} {fd : FuncData} (D : FunD K dd_states_of.name dd_states_of.qual dd_states_of.params dd_states_of.body dd_states_of.scope (dd_states_of.dvs K) (dd_states_of.kws K) f fd) : FnOk P w K mg base (L2.CX P w) 7 f fd ["rule"] (spF ⟨K, P, w⟩ 1 m_states_of) :=
  fn_small (fn_sh (np := 1) (ns := 2) (k := 6) (body := b_states_of) D sc_states_of rfl rfl fun cdv A outer s H E hr =>
    (sss_cons (sset 1 sc_states_of.nd (se_callTy (cl_listA rfl) rfl (F.free 24) (by decide +kernel) (sa_cons (sC (ok_reach F) hr (F.glo 37) tkF (sa_cons (sv 0) sa_nil)) sa_nil))) (sss_cons (ss_if (st_cmp so_gt (se_len (hd_len F) (hr.mono (by decide)) rfl (F.free 0) (sv 1)) (se_gint rfl (F.int 69)) rfl) (sss_one (ss_raise 19 (F.says.fact 35 rfl) (F.glo 36) tkF)) sss_nil) (sss_one (ss_ret (sv 1))))))
theorem ok_states_of {P : Program} {w : World} {K : PySem.W.Frag} {mg : Str → Option Value} {base : Heap} (F : FX wx K mg) : FnC P w K mg base 7 (He.fAd K ("states_of", none)) 1 m_states_of := by
  obtain ⟨fd, D⟩ := F.says.def_ 38 (d := dd_states_of) rfl
  exact ⟨⟨fd, _, bo_states_of F D, D.bindsN fun _ _ _ _ _ _ us hl => match us, hl with | [_], _ => rfl⟩, D.kp⟩
abbrev N_led_from : List Str := ["rule", "states", "row", "amount", "state"]
def b_led_from : SF := (sSeq (sFor (iAny (eVar 2)) (gNm 3) (sSet 1 (eB (op1 gListA) (aCons (eDc (iAny (eVar 1)) true [4] [4] tYesD (eBin oIx (eCall 3 m_done (aCons (eVar 0) (aCons (eVar 4) (aCons (eVar 3) aNil)))) (eC (.int 0))) (eC (.bl true))) aNil)))) (sRet (eVar 1)))
def m_led_from : FF := fnP (fnS 3 5 b_led_from)
theorem sc_led_from : FnScope N_led_from ["rule", "states", "row"] (defScope (tp 48)) := ⟨by rfl, by rfl, by rfl, by decide +kernel, by rfl, by decide +kernel, by decide +kernel⟩
set_option maxHeartbeats 4000000 in
theorem bo_led_from {P : Program} {w : World} {K : PySem.W.Frag} {mg : Str → Option Value} {base : Heap} (F : FX wx K mg) {f : Addr} {fd : FuncData} (D : FunD K dd_led_from.name dd_led_from.qual dd_led_from.params dd_led_from.body dd_led_from.scope (dd_led_from.dvs K) (dd_led_from.kws K) f fd) : FnOk P w K mg base (L2.CX P w) 6 f fd ["rule", "states", "row"] (spF ⟨K, P, w⟩ 3 m_led_from) :=
  fn_small (fn_sh (np := 3) (ns := 5) (k := 5) (body := b_led_from) D sc_led_from rfl rfl fun cdv A outer s H E hr =>
    (sss_cons (ss_for ownF rfl (si_any (sv 2)) (gnm 3 sc_led_from.nd) (sss_one (sset 1 sc_led_from.nd (se_callTy (cl_listA rfl) rfl (F.free 24) (by decide +kernel) (sa_cons (se_dc (own := [("state", 4)]) (one := true) (is := [4]) (t := (gName 4)) rfl sc_led_from.nd (room_v hr) (si_any (sv 1)) (blkOk_by (own := [("state", 4)]) (by rfl)) (by decide) (fun _ _ _ _ _ => ⟨(pg_name (i := 4) sc_led_from.nd rfl (Or.inl rfl)), sts_nil, (se_ix (ix_all (room_v hr)) (sC (ok_done F) hr (F.glo 33) tk0 (sa_cons (sv 0) (sa_cons (sv 4) (sa_cons (sv 3) sa_nil)))) se_int (fun _ _ => rfl)), se_bl⟩) (fun e r h => rd_one (i := 4) e r h)) sa_nil))))) (sss_one (ss_ret (sv 1)))))
theorem ok_led_from {P : Program} {w : World} {K : PySem.W.Frag} {mg : Str → Option Value} {base : Heap} (F : FX wx K mg) : FnC P w K mg base 6 (He.fAd K ("led_from", none)) 3 m_led_from := by
  obtain ⟨fd, D⟩ := F.says.def_ 39 (d := dd_led_from) rfl
  exact ⟨⟨fd, _, bo_led_from F D, D.bindsN fun _ _ _ _ _ _ us hl => match us, hl with | [_, _, _], _ => rfl⟩, D.kp⟩
abbrev N_Settled_shows : List Str := ["self", "rule", "states", "amount"]
def b_Settled_shows : SF := (sSeq (sExpr (eCall 1 m_check_rule (aCons (eVar 1) aNil))) (sSeq (sSet 2 (eCall 1 m_states_of (aCons (eVar 1) aNil))) (sRet (eAnd (eB (op1 (gBls fun bs => bs.all id)) (aCons (eLc (iAny (eFld "row" (fun c => List.contains [11, 12] c) (eVar 0))) true [3] [3] tYesD (eCall 2 m_is_amount (aCons (eVar 1) (aCons (eVar 3) aNil)))) aNil)) (eBin oEq (eLen dp_len (eCall 3 m_led_from (aCons (eVar 1) (aCons (eVar 2) (aCons (eFld "row" (fun c => List.contains [11, 12] c) (eVar 0)) aNil))))) (eC (.int 1)))))))
def m_Settled_shows : FF := fnP (fnS 2 4 b_Settled_shows)
theorem sc_Settled_shows : FnScope N_Settled_shows ["self", "rule"] (defScope (tc 51 2)) := ⟨by rfl, by rfl, by rfl, by decide +kernel, by rfl, by decide +kernel, by decide +kernel⟩
set_option maxHeartbeats 4000000 in
theorem bo_Settled_shows {P : Program} {w : World} {K : PySem.W.Frag} {mg : Str → Option Value} {base : Heap} (F : FX wx K mg) {f : Addr} {fd : FuncData} (D : FunD K dd_Settled_shows.name dd_Settled_shows.qual dd_Settled_shows.params dd_Settled_shows.body dd_Settled_shows.scope (dd_Settled_shows.dvs K) (dd_Settled_shows.kws K) f fd) : FnOk P w K mg base (L2.CX P w) 8 f fd ["self", "rule"] (spF ⟨K, P, w⟩ 2 m_Settled_shows) :=
  fn_small (fn_sh (np := 2) (ns := 4) (k := 7) (body := b_Settled_shows) D sc_Settled_shows rfl rfl fun cdv A outer s H E hr =>
    (sss_cons (ss_expr (sC (ok_check_rule F) hr (F.glo 22) tkF (sa_cons (sv 1) sa_nil))) (sss_cons (sset 2 sc_Settled_shows.nd (sC (ok_states_of F) hr (F.glo 70) tkF (sa_cons (sv 1) sa_nil))) (sss_one (ss_ret (se_and (se_callB (cl_all rfl) rfl (F.free 12) (by decide +kernel) (sa_cons (se_lcP (own := [("amount", 3)]) (one := true) (is := [3]) (t := (gName 3)) rfl sc_Settled_shows.nd (si_any (se_fld (ok := (fun c => List.contains [11, 12] c)) (F.fld 5) (sv 0) rfl)) (blkOk_by (own := [("amount", 3)]) (by rfl)) (by decide) (fun _ _ _ _ _ => ⟨(pg_name (i := 3) sc_Settled_shows.nd rfl (Or.inl rfl)), sts_nil, (sC (ok_is_amount F) hr (F.glo 59) tk0 (sa_cons (sv 1) (sa_cons (sv 3) sa_nil)))⟩) (fun e r h => rd_one (i := 3) e r h)) sa_nil)) (se_one (se_cmp (so_eq (room_v hr)) (se_len (hd_len F) (hr.mono (by decide)) rfl (F.free 0) (sC (ok_led_from F) hr (F.glo 71) tkF (sa_cons (sv 1) (sa_cons (sv 2) (sa_cons (se_fld (ok := (fun c => List.contains [11, 12] c)) (F.fld 5) (sv 0) rfl) sa_nil))))) se_int rfl))))))))
theorem ok_Settled_shows {P : Program} {w : World} {K : PySem.W.Frag} {mg : Str → Option Value} {base : Heap} (F : FX wx K mg) : FnC P w K mg base 8 (He.fAd K ("Settled", some "shows")) 2 m_Settled_shows := by
  obtain ⟨fd, D⟩ := F.says.def_ 40 (d := dd_Settled_shows) rfl
  exact ⟨⟨fd, _, bo_Settled_shows F D, D.bindsN fun _ _ _ _ _ _ us hl => match us, hl with | [_, _], _ => rfl⟩, D.kp⟩
abbrev N_Unsettled_shows : List Str := ["self", "rule", "known", "one", "other", "amount", "pair", "late"]
def b_Unsettled_shows : SF := (sSeq (sExpr (eCall 1 m_check_rule (aCons (eVar 1) aNil))) (sSeq (sExpr (eCall 1 m_states_of (aCons (eVar 1) aNil))) (sSeq (sSet 2 (eDcN (iAny (eFld "pairs" (fun c => List.contains [13] c) (eVar 0))) true [6] [6] tYesD (nEmD (eVar 6) (eC (.bl true))))) (sSeq (sIf (tVal (eBin oEqG (eVar 2) eDNew)) (sRet (eC (.bl false))) sSkip) (sSeq (sFor (iAny (eVar 2)) (gTu 2 (gsCons (gNm 3) (gsCons (gNm 4) gsNil))) (sSeq (sIf (tVal (eBin oEq (eVar 3) (eVar 4))) (sRet (eC (.bl false))) sSkip) (sFor (iAny (eFld "amounts" (fun c => List.contains [0] c) (eVar 1))) (gNm 5) (sSeq (sSet 7 (eTup (aCons (eBin oIx (eCall 3 m_done (aCons (eVar 1) (aCons (eVar 3) (aCons (eVar 5) aNil)))) (eC (.int 0))) (aCons (eBin oIx (eCall 3 m_done (aCons (eVar 1) (aCons (eVar 4) (aCons (eVar 5) aNil)))) (eC (.int 0))) aNil)))) (sIf (tAnd (tVal (eBin (oIn true) (eVar 7) (eVar 2))) (tVal (eBin (oIn true) (eRev (eVar 7)) (eVar 2)))) (sRet (eC (.bl false))) sSkip))))) (sRet (eC (.bl true))))))))
def m_Unsettled_shows : FF := fnP (fnS 2 8 b_Unsettled_shows)
theorem sc_Unsettled_shows : FnScope N_Unsettled_shows ["self", "rule"] (defScope (tc 52 2)) := ⟨by rfl, by rfl, by rfl, by decide +kernel, by rfl, by decide +kernel, by decide +kernel⟩
set_option maxHeartbeats 4000000 in
theorem bo_Unsettled_shows {P : Program} {w : World} {K : PySem.W.Frag} {mg : Str → Option Value} {base : Heap} (F : FX wx K mg) {f : Addr} {fd : FuncData} (D : FunD K dd_Unsettled_shows.name dd_Unsettled_shows.qual dd_Unsettled_shows.params dd_Unsettled_shows.body dd_Unsettled_shows.scope (dd_Unsettled_shows.dvs K) (dd_Unsettled_shows.kws K) f fd) : FnOk P w K mg base (L2.CX P w) 8 f fd ["self", "rule"] (spF ⟨K, P, w⟩ 2 m_Unsettled_shows) :=
  fn_small (fn_sh (np := 2) (ns := 8) (k := 7) (body := b_Unsettled_shows) D sc_Unsettled_shows rfl rfl fun cdv A outer s H E hr =>
    (sss_cons (ss_expr (sC (ok_check_rule F) hr (F.glo 22) tkF (sa_cons (sv 1) sa_nil))) (sss_cons (ss_expr (sC (ok_states_of F) hr (F.glo 70) tkF (sa_cons (sv 1) sa_nil))) (sss_cons (ss_setDcN (i := 2) (own := [("pair", 6)]) (one := true) (is := [6]) (t := (gName 6)) rfl sc_Unsettled_shows.nd rfl rfl (sw_trueD rfl rfl rfl (by decide +kernel)) (si_any (se_fld (ok := (fun c => List.contains [13] c)) (F.fld 9) (sv 0) rfl)) (blkOk_by (own := [("pair", 6)]) (by rfl)) (by decide) (by decide) (as_none rfl) (fun _ _ _ _ _ => ⟨(pg_name (i := 6) sc_Unsettled_shows.nd rfl (Or.inl rfl)), sts_nil⟩) (inn_emD (room_v hr) rfl (fun _ _ _ _ _ => ⟨(sv 6), se_bl⟩)) (fun e r h => rd_one (i := 6) e r h)) (sss_cons (ss_if (st_cmp (so_eqG (room_w hr)) (sv 2) se_dnew rfl) (sss_one (ss_ret se_bl)) sss_nil) (sss_cons (ss_for ownF rfl (si_any (sv 2)) (sg_tu rfl (sgs_cons (gnm 3 sc_Unsettled_shows.nd) (sgs_cons (gnm 4 sc_Unsettled_shows.nd) sgs_nil))) (sss_cons (ss_if (st_cmp (so_eq (room_v hr)) (sv 3) (sv 4) rfl) (sss_one (ss_ret se_bl)) sss_nil) (sss_one (ss_for ownF rfl (si_any (se_fld (ok := (fun c => List.contains [0] c)) (F.fld 1) (sv 1) rfl)) (gnm 5 sc_Unsettled_shows.nd) (sss_cons (sset 7 sc_Unsettled_shows.nd (se_tup (sa_cons (se_ix (ix_all (room_v hr)) (sC (ok_done F) hr (F.glo 33) tkF (sa_cons (sv 1) (sa_cons (sv 3) (sa_cons (sv 5) sa_nil)))) se_int (fun _ _ => rfl)) (sa_cons (se_ix (ix_all (room_v hr)) (sC (ok_done F) hr (F.glo 33) tkF (sa_cons (sv 1) (sa_cons (sv 4) (sa_cons (sv 5) sa_nil)))) se_int (fun _ _ => rfl)) sa_nil)))) (sss_one (ss_if (st_w (sw_and (st_cmp (so_notIn (room_u hr)) (sv 7) (sv 2) rfl) (sw_and1 (st_cmp (so_notIn (room_u hr)) (se_rev (sv 7)) (sv 2) rfl)))) (sss_one (ss_ret se_bl)) sss_nil))))))) (sss_one (ss_ret se_bl))))))))
theorem ok_Unsettled_shows {P : Program} {w : World} {K : PySem.W.Frag} {mg : Str → Option Value} {base : Heap} (F : FX wx K mg) : FnC P w K mg base 8 (He.fAd K ("Unsettled", some "shows")) 2 m_Unsettled_shows := by
  obtain ⟨fd, D⟩ := F.says.def_ 41 (d := dd_Unsettled_shows) rfl
  exact ⟨⟨fd, _, bo_Unsettled_shows F D, D.bindsN fun _ _ _ _ _ _ us hl => match us, hl with | [_, _], _ => rfl⟩, D.kp⟩
def dp_shows : Nat → Option (Nat × FF) := fun c => if c = 10 then some (2, m_Orderless_shows) else if c = 11 then some (2, m_Ordered_shows) else if c = 12 then some (2, m_Settled_shows) else if c = 13 then some (2, m_Unsettled_shows) else none
theorem hd_shows {P : Program} {w : World} {K : PySem.W.Frag} {mg : Str → Option Value} {base : Heap} (F : FX wx K mg) : ∀ c n ff, dp_shows c = some (n, ff) → Cls K (ca K c) ∧ ∃ f, Meth K (ca K c) "shows" f ∧ ∃ fd ps, FnOk P w K mg base (L2.CX P w) 9 f fd ps (spF ⟨K, P, w⟩ n ff) ∧ Binds K fd ps [] := by
  intro c n ff h
  unfold dp_shows at h
  by_cases hOrderless : c = 10
  · rw [if_pos hOrderless] at h; subst hOrderless; cases h; exact ⟨F.cls 72, _, F.meth 73, ((ok_Orderless_shows F).mono (by decide)).1⟩
  rw [if_neg hOrderless] at h
  by_cases hOrdered : c = 11
  · rw [if_pos hOrdered] at h; subst hOrdered; cases h; exact ⟨F.cls 49, _, F.meth 74, ((ok_Ordered_shows F).mono (by decide)).1⟩
  rw [if_neg hOrdered] at h
  by_cases hSettled : c = 12
  · rw [if_pos hSettled] at h; subst hSettled; cases h; exact ⟨F.cls 75, _, F.meth 76, ((ok_Settled_shows F).mono (by decide)).1⟩
  rw [if_neg hSettled] at h
  by_cases hUnsettled : c = 13
  · rw [if_pos hUnsettled] at h; subst hUnsettled; cases h; exact ⟨F.cls 77, _, F.meth 78, ((ok_Unsettled_shows F).mono (by decide)).1⟩
  rw [if_neg hUnsettled] at h
  cases h
def st__law_exchanged_right_0 : SF := (sAsg (eLc (iAny (eTup (aCons (eC (.int 1)) (aCons (eC (.int 5)) (aCons (eC (.int 0)) aNil))))) true [6] [6] tYesD (eMake 0 2 1 6 (gKw 0 [.str "most", .str "ahead"]) m_Ruledd_initdd (aCons (eTup (aCons (eC (.int 1)) (aCons (eC (.int 4)) aNil))) (aCons (eTup (aCons (eC (.int 1)) (aCons (eC (.int 2)) aNil))) aNil)) (aCons (eVar 6) aNil))) (gTu 3 (gsCons (gNm 3) (gsCons (gNm 4) (gsCons (gNm 5) gsNil)))))
def st__law_exchanged_right_1 : SF := (sGc 8 (sIf (tVal (eBin (oNeO CS dp_eq) (eLc (iAny (eTup (aCons (eVar 3) (aCons (eVar 4) (aCons (eVar 5) (aCons (eMake 0 2 1 6 (gKw 0 [.str "most", .str "ahead"]) m_Ruledd_initdd (aCons (eTup (aCons (eC (.int 1)) (aCons (eC (.int 2)) aNil))) (aCons (eTup (aCons (eC (.int 1)) aNil)) aNil)) (aCons (eC (.int 3)) aNil)) aNil)))))) true [7] [7] tYesD (eCall 1 m_is_orderless (aCons (eVar 7) aNil))) (eLst (aCons (eC (.bl false)) (aCons (eC (.bl true)) (aCons (eC (.bl true)) (aCons (eC (.bl true)) aNil))))))) (sRet (eC (.bl false))) sSkip))
def st__law_exchanged_right_2 : SF := (sGc 8 (sIf (tOr (tVal (eBin (oNeO CS dp_eq) (eLc (iAny (eTup (aCons (eVar 3) (aCons (eVar 4) aNil)))) true [7] [7] tYesD (eCall 1 m_soonest_order (aCons (eVar 7) aNil))) (eLst (aCons (eC (.int 0)) (aCons (eC .non) aNil))))) (tOr (tVal (eCall 4 m_exchanged (aCons (eVar 3) (aCons (eLst aNil) (aCons (eC (.int 1)) (aCons (eC (.int 2)) aNil)))))) (tNot (tVal (eCall 4 m_exchanged (aCons (eVar 3) (aCons (eLst aNil) (aCons (eC (.int 2)) (aCons (eC (.int 2)) aNil))))))))) (sRet (eC (.bl false))) sSkip))
def st__law_exchanged_right_3 : SF := (sGc 8 (sIf (tOr (tVal (eBin (oIs true) (eCall 4 m_exchanged (aCons (eVar 4) (aCons (eTup (aCons (eC (.int 1)) (aCons (eC (.int 2)) aNil))) (aCons (eC (.int 2)) (aCons (eC (.int 1)) aNil))))) (eC (.bl true)))) (tOr (tVal (eBin (oNeO CS dp_eq) (eCall 2 m_ranges (aCons (eVar 3) (aCons (eLst (aCons (eC (.int 2)) (aCons (eC (.int 1)) aNil))) aNil))) (eLst (aCons (eTup (aCons (eC (.int 0)) (aCons (eC (.int 1)) aNil))) (aCons (eTup (aCons (eC (.int 2)) (aCons (eC (.int 3)) aNil))) aNil))))) (tVal (eBin (oNeO CS dp_eq) (eCall 2 m_ranges (aCons (eVar 3) (aCons (eLst aNil) aNil))) (eLst (aCons (eTup (aCons (eC (.int 0)) (aCons (eC (.int 0)) aNil))) (aCons (eTup (aCons (eC (.int 0)) (aCons (eC (.int 0)) aNil))) aNil))))))) (sRet (eC (.bl false))) sSkip))
def st__law_exchanged_right_4 : SF := (sGc 8 (sIf (tOr (tVal (eBin (oNeO CS dp_eq) (eCall 2 m_ranges (aCons (eVar 4) (aCons (eLst (aCons (eC (.int 2)) (aCons (eC (.int 1)) aNil))) aNil))) (eLst (aCons (eTup (aCons (eC (.int 1)) (aCons (eC (.int 1)) aNil))) (aCons (eTup (aCons (eC (.int 2)) (aCons (eC (.int 2)) aNil))) aNil))))) (tVal (eBin (oNeO CS dp_eq) (eCall 2 m_ranges (aCons (eVar 3) (aCons (eTup (aCons (eC (.int 1)) aNil)) aNil))) (eLst (aCons (eTup (aCons (eC (.int 0)) (aCons (eC (.int 0)) aNil))) (aCons (eTup (aCons (eC (.int 1)) (aCons (eC (.int 1)) aNil))) aNil)))))) (sRet (eC (.bl false))) sSkip))
def st__law_exchanged_right_5 : SF := (sGc 8 (sIf (tOr (tNot (tVal (eMeth "shows" dp_shows (eMake 11 3 0 4 gId m_Ordereddd_initdd (aCons (eLst aNil) (aCons (eC (.int 1)) (aCons (eC (.int 2)) aNil))) aNil) (aCons (eVar 3) aNil)))) (tOr (tNot (tVal (eMeth "shows" dp_shows (eMake 11 3 0 4 gId m_Ordereddd_initdd (aCons (eLst aNil) (aCons (eC (.int 2)) (aCons (eC (.int 1)) aNil))) aNil) (aCons (eVar 3) aNil)))) (tVal (eMeth "shows" dp_shows (eMake 11 3 0 4 gId m_Ordereddd_initdd (aCons (eLst aNil) (aCons (eC (.int 1)) (aCons (eC (.int 1)) aNil))) aNil) (aCons (eVar 3) aNil))))) (sRet (eC (.bl false))) sSkip))
def st__law_exchanged_right_6 : SF := (sGc 8 (sIf (tOr (tVal (eMeth "shows" dp_shows (eMake 11 3 0 4 gId m_Ordereddd_initdd (aCons (eLst aNil) (aCons (eC (.int 1)) (aCons (eC (.int 2)) aNil))) aNil) (aCons (eVar 4) aNil))) (tOr (tVal (eMeth "shows" dp_shows (eMake 11 3 0 4 gId m_Ordereddd_initdd (aCons (eLst (aCons (eC (.int 3)) aNil)) (aCons (eC (.int 1)) (aCons (eC (.int 2)) aNil))) aNil) (aCons (eVar 3) aNil))) (tVal (eMeth "shows" dp_shows (eMake 11 3 0 4 gId m_Ordereddd_initdd (aCons (eLst aNil) (aCons (eC (.int 1)) (aCons (eC (.int 3)) aNil))) aNil) (aCons (eVar 3) aNil))))) (sRet (eC (.bl false))) sSkip))
def st__law_exchanged_right_7 : SF := (sSet 0 (eLst (aCons (eTup (aCons (eTup (aCons (eC (.int 0)) (aCons (eC (.int 0)) aNil))) (aCons (eC (.int 1)) aNil))) (aCons (eTup (aCons (eTup (aCons (eC (.int 1)) (aCons (eUn oNeg (eC (.int 1))) aNil))) (aCons (eC (.int 1)) aNil))) (aCons (eTup (aCons (eTup (aCons (eC (.int 2)) (aCons (eUn oNeg (eC (.int 2))) aNil))) (aCons (eC (.int 1)) aNil))) (aCons (eTup (aCons (eTup (aCons (eUn oNeg (eC (.int 2))) (aCons (eC (.int 2)) aNil))) (aCons (eC (.int 0)) aNil))) (aCons (eTup (aCons (eTup (aCons (eUn oNeg (eC (.int 1))) (aCons (eC (.int 1)) aNil))) (aCons (eC (.int 0)) aNil))) (aCons (eTup (aCons (eTup (aCons (eUn oNeg (eC (.int 1))) (aCons (eC (.int 1)) aNil))) (aCons (eC (.int 1)) aNil))) aNil))))))))
def st__law_exchanged_right_8 : SF := (sSet 1 (eMake 10 1 0 2 gId m_Orderlessdd_initdd (aCons (eVar 0) aNil) aNil))
def st__law_exchanged_right_9 : SF := (sGc 8 (sIf (tOr (tNot (tVal (eMeth "shows" dp_shows (eVar 1) (aCons (eVar 4) aNil)))) (tOr (tVal (eMeth "shows" dp_shows (eMake 10 1 0 2 gId m_Orderlessdd_initdd (aCons (eSl (eVar 0) (pSome (eC (.int 2))) pNone) aNil) aNil) (aCons (eVar 4) aNil))) (tVal (eMeth "shows" dp_shows (eMake 10 1 0 2 gId m_Orderlessdd_initdd (aCons (eLst aNil) aNil) aNil) (aCons (eVar 4) aNil))))) (sRet (eC (.bl false))) sSkip))
def st__law_exchanged_right_10 : SF := (sExpr (eClr (eVar 0)))
def st__law_exchanged_right_11 : SF := (sSet 2 (eCall 1 m_order (aCons (eVar 4) aNil)))
def st__law_exchanged_right_12 : SF := (sExpr (eClr (eFld "states" (fun c => List.contains [10] c) (eVar 2))))
def st__law_exchanged_right_13 : SF := (sExpr (eClr (eCall 2 m_ranges (aCons (eVar 4) (aCons (eLst (aCons (eC (.int 1)) aNil)) aNil)))))
def st__law_exchanged_right_14 : SF := (sGc 8 (sIf (tOr (tVal (eMeth "shows" dp_shows (eVar 2) (aCons (eVar 4) aNil))) (tOr (tVal (eBin (oIs true) (eMeth "shows" dp_shows (eVar 1) (aCons (eVar 4) aNil)) (eC (.bl true)))) (tVal (eBin (oEqO CS dp_eq) (eVar 1) (eMake 10 1 0 2 gId m_Orderlessdd_initdd (aCons (eLst aNil) aNil) aNil))))) (sRet (eC (.bl false))) sSkip))
def st__law_exchanged_right_15 : SF := (sRet (eAnd (eBin (oIs false) (eMeth "shows" dp_shows (eCall 1 m_order (aCons (eVar 4) aNil)) (aCons (eVar 4) aNil)) (eC (.bl true))) (eAnd (eBin (oEqO CS dp_eq) (eMake 11 3 0 4 gId m_Ordereddd_initdd (aCons (eLst (aCons (eC (.int 1)) aNil)) (aCons (eC (.int 1)) (aCons (eC (.int 2)) aNil))) aNil) (eMake 11 3 0 4 gId m_Ordereddd_initdd (aCons (eTup (aCons (eC (.int 1)) aNil)) (aCons (eC (.int 1)) (aCons (eC (.int 2)) aNil))) aNil)) (eBin (oNeO CS dp_eq) (eMake 11 3 0 4 gId m_Ordereddd_initdd (aCons (eLst aNil) (aCons (eC (.int 1)) (aCons (eC (.int 2)) aNil))) aNil) (eMake 11 3 0 4 gId m_Ordereddd_initdd (aCons (eLst aNil) (aCons (eC (.int 2)) (aCons (eC (.int 1)) aNil))) aNil)))))
abbrev N__law_exchanged_right : List Str := ["_law_states", "_law_late", "_law_found", "_law_cut", "_law_whole", "_law_bare", "_law_part", "_law_one"]
def b__law_exchanged_right : SF := (sSeq st__law_exchanged_right_0 (sSeq st__law_exchanged_right_1 (sSeq st__law_exchanged_right_2 (sSeq st__law_exchanged_right_3 (sSeq st__law_exchanged_right_4 (sSeq st__law_exchanged_right_5 (sSeq st__law_exchanged_right_6 (sSeq st__law_exchanged_right_7 (sSeq st__law_exchanged_right_8 (sSeq st__law_exchanged_right_9 (sSeq st__law_exchanged_right_10 (sSeq st__law_exchanged_right_11 (sSeq st__law_exchanged_right_12 (sSeq st__law_exchanged_right_13 (sSeq st__law_exchanged_right_14 st__law_exchanged_right_15)))))))))))))))
def m__law_exchanged_right : FF := fnP (fnS 0 8 b__law_exchanged_right)
theorem sc__law_exchanged_right : FnScope N__law_exchanged_right [] (defScope (tp 58)) := ⟨by rfl, by rfl, by rfl, by decide +kernel, by rfl, by decide +kernel, by decide +kernel⟩
set_option maxHeartbeats 4000000 in
theorem bo__law_exchanged_right {P : Program} {w : World} {K : PySem.W.Frag} {mg : Str → Option Value} {base : Heap} (F : FX wx K mg) {f : Addr} {fd : FuncData} (D : FunD K dd__law_exchanged_right.name dd__law_exchanged_right.qual dd__law_exchanged_right.params dd__law_exchanged_right.body dd__law_exchanged_right.scope (dd__law_exchanged_right.dvs K) (dd__law_exchanged_right.kws K) f fd) : FnOk P w K mg base (L2.CX P w) 11 f fd [] (spF ⟨K, P, w⟩ 0 m__law_exchanged_right) :=
  fn_small (fn_sh (np := 0) (ns := 8) (k := 10) (body := b__law_exchanged_right) D sc__law_exchanged_right rfl rfl fun cdv A outer s H E hr =>
    (sss_cons (ss_as (g := st__law_exchanged_right_0) rfl (ss_asg (se_lcP (own := [("_law_part", 6)]) (one := true) (is := [6]) (t := (gName 6)) rfl sc__law_exchanged_right.nd (si_any (se_tup (sa_cons se_int (sa_cons se_int (sa_cons se_int sa_nil))))) (blkOk_by (own := [("_law_part", 6)]) (by rfl)) (by decide) (fun _ _ _ _ _ => ⟨(pg_name (i := 6) sc__law_exchanged_right.nd rfl (Or.inl rfl)), sts_nil, (se_makeK (ks := ["kept"]) (n := 2) (c := 0) (F.mkr 5) (okk_Ruledd_initdd_kept F) (hr.mono (by decide)) rfl (F.glo 21) tk0 (sa_cons (se_tup (sa_cons se_int (sa_cons se_int sa_nil))) (sa_cons (se_tup (sa_cons se_int (sa_cons se_int sa_nil))) sa_nil)) (sk_cons (sv 6) sk_nil))⟩) (fun e r h => rd_one (i := 6) e r h)) (sg_tu rfl (sgs_cons (gnm 3 sc__law_exchanged_right.nd) (sgs_cons (gnm 4 sc__law_exchanged_right.nd) (sgs_cons (gnm 5 sc__law_exchanged_right.nd) sgs_nil)))))) (sss_cons (ss_as (g := st__law_exchanged_right_1) rfl (ss_gc 8 (ss_if (st_cmp (so_neO (notf F) (neal F) (hd_eq F) (hr.mono (by decide))) (se_lcP (own := [("_law_one", 7)]) (one := true) (is := [7]) (t := (gName 7)) rfl sc__law_exchanged_right.nd (si_any (se_tup (sa_cons (sv 3) (sa_cons (sv 4) (sa_cons (sv 5) (sa_cons (se_makeK (ks := ["kept"]) (n := 2) (c := 0) (F.mkr 5) (okk_Ruledd_initdd_kept F) (hr.mono (by decide)) rfl (F.glo 21) tkF (sa_cons (se_tup (sa_cons se_int (sa_cons se_int sa_nil))) (sa_cons (se_tup (sa_cons se_int sa_nil)) sa_nil)) (sk_cons se_int sk_nil)) sa_nil)))))) (blkOk_by (own := [("_law_one", 7)]) (by rfl)) (by decide) (fun _ _ _ _ _ => ⟨(pg_name (i := 7) sc__law_exchanged_right.nd rfl (Or.inl rfl)), sts_nil, (sC (ok_is_orderless F) hr (F.glo 47) tk0 (sa_cons (sv 7) sa_nil))⟩) (fun e r h => rd_one (i := 7) e r h)) (se_lst (sa_cons se_bl (sa_cons se_bl (sa_cons se_bl (sa_cons se_bl sa_nil))))) rfl) (sss_one (ss_ret se_bl)) sss_nil))) (sss_cons (ss_as (g := st__law_exchanged_right_2) rfl (ss_gc 8 (ss_if (st_w (sw_or (st_cmp (so_neO (notf F) (neal F) (hd_eq F) (hr.mono (by decide))) (se_lcP (own := [("_law_one", 7)]) (one := true) (is := [7]) (t := (gName 7)) rfl sc__law_exchanged_right.nd (si_any (se_tup (sa_cons (sv 3) (sa_cons (sv 4) sa_nil)))) (blkOk_by (own := [("_law_one", 7)]) (by rfl)) (by decide) (fun _ _ _ _ _ => ⟨(pg_name (i := 7) sc__law_exchanged_right.nd rfl (Or.inl rfl)), sts_nil, (sC (ok_soonest_order F) hr (F.glo 58) tk0 (sa_cons (sv 7) sa_nil))⟩) (fun e r h => rd_one (i := 7) e r h)) (se_lst (sa_cons se_int (sa_cons se_non sa_nil))) rfl) (sw_or (st_val (sC (ok_exchanged F) hr (F.glo 64) tkF (sa_cons (sv 3) (sa_cons (se_lst sa_nil) (sa_cons se_int (sa_cons se_int sa_nil)))))) (sw_or1 (st_not (st_val (sC (ok_exchanged F) hr (F.glo 64) tkF (sa_cons (sv 3) (sa_cons (se_lst sa_nil) (sa_cons se_int (sa_cons se_int sa_nil))))))))))) (sss_one (ss_ret se_bl)) sss_nil))) (sss_cons (ss_as (g := st__law_exchanged_right_3) rfl (ss_gc 8 (ss_if (st_w (sw_or (st_cmp so_isNot (sC (ok_exchanged F) hr (F.glo 64) tkF (sa_cons (sv 4) (sa_cons (se_tup (sa_cons se_int (sa_cons se_int sa_nil))) (sa_cons se_int (sa_cons se_int sa_nil))))) se_bl rfl) (sw_or (st_cmp (so_neO (notf F) (neal F) (hd_eq F) (hr.mono (by decide))) (sC (ok_ranges F) hr (F.glo 68) tkF (sa_cons (sv 3) (sa_cons (se_lst (sa_cons se_int (sa_cons se_int sa_nil))) sa_nil))) (se_lst (sa_cons (se_tup (sa_cons se_int (sa_cons se_int sa_nil))) (sa_cons (se_tup (sa_cons se_int (sa_cons se_int sa_nil))) sa_nil))) rfl) (sw_or1 (st_cmp (so_neO (notf F) (neal F) (hd_eq F) (hr.mono (by decide))) (sC (ok_ranges F) hr (F.glo 68) tkF (sa_cons (sv 3) (sa_cons (se_lst sa_nil) sa_nil))) (se_lst (sa_cons (se_tup (sa_cons se_int (sa_cons se_int sa_nil))) (sa_cons (se_tup (sa_cons se_int (sa_cons se_int sa_nil))) sa_nil))) rfl))))) (sss_one (ss_ret se_bl)) sss_nil))) (sss_cons (ss_as (g := st__law_exchanged_right_4) rfl (ss_gc 8 (ss_if (st_w (sw_or (st_cmp (so_neO (notf F) (neal F) (hd_eq F) (hr.mono (by decide))) (sC (ok_ranges F) hr (F.glo 68) tkF (sa_cons (sv 4) (sa_cons (se_lst (sa_cons se_int (sa_cons se_int sa_nil))) sa_nil))) (se_lst (sa_cons (se_tup (sa_cons se_int (sa_cons se_int sa_nil))) (sa_cons (se_tup (sa_cons se_int (sa_cons se_int sa_nil))) sa_nil))) rfl) (sw_or1 (st_cmp (so_neO (notf F) (neal F) (hd_eq F) (hr.mono (by decide))) (sC (ok_ranges F) hr (F.glo 68) tkF (sa_cons (sv 3) (sa_cons (se_tup (sa_cons se_int sa_nil)) sa_nil))) (se_lst (sa_cons (se_tup (sa_cons se_int (sa_cons se_int sa_nil))) (sa_cons (se_tup (sa_cons se_int (sa_cons se_int sa_nil))) sa_nil))) rfl)))) (sss_one (ss_ret se_bl)) sss_nil))) (sss_cons (ss_as (g := st__law_exchanged_right_5) rfl (ss_gc 8 (ss_if (st_w (sw_or (st_not (st_val (se_meth (se_make (n := 3) (c := 11) (F.mkr 42) (okK_Ordereddd_initdd F) (hr.mono (by decide)) rfl (F.glo 43) tkF (sa_cons (se_lst sa_nil) (sa_cons se_int (sa_cons se_int sa_nil)))) (hd_shows F) (hr.mono (by decide)) tkF (sa_cons (sv 3) sa_nil)))) (sw_or (st_not (st_val (se_meth (se_make (n := 3) (c := 11) (F.mkr 42) (okK_Ordereddd_initdd F) (hr.mono (by decide)) rfl (F.glo 43) tkF (sa_cons (se_lst sa_nil) (sa_cons se_int (sa_cons se_int sa_nil)))) (hd_shows F) (hr.mono (by decide)) tkF (sa_cons (sv 3) sa_nil)))) (sw_or1 (st_val (se_meth (se_make (n := 3) (c := 11) (F.mkr 42) (okK_Ordereddd_initdd F) (hr.mono (by decide)) rfl (F.glo 43) tkF (sa_cons (se_lst sa_nil) (sa_cons se_int (sa_cons se_int sa_nil)))) (hd_shows F) (hr.mono (by decide)) tkF (sa_cons (sv 3) sa_nil))))))) (sss_one (ss_ret se_bl)) sss_nil))) (sss_cons (ss_as (g := st__law_exchanged_right_6) rfl (ss_gc 8 (ss_if (st_w (sw_or (st_val (se_meth (se_make (n := 3) (c := 11) (F.mkr 42) (okK_Ordereddd_initdd F) (hr.mono (by decide)) rfl (F.glo 43) tkF (sa_cons (se_lst sa_nil) (sa_cons se_int (sa_cons se_int sa_nil)))) (hd_shows F) (hr.mono (by decide)) tkF (sa_cons (sv 4) sa_nil))) (sw_or (st_val (se_meth (se_make (n := 3) (c := 11) (F.mkr 42) (okK_Ordereddd_initdd F) (hr.mono (by decide)) rfl (F.glo 43) tkF (sa_cons (se_lst (sa_cons se_int sa_nil)) (sa_cons se_int (sa_cons se_int sa_nil)))) (hd_shows F) (hr.mono (by decide)) tkF (sa_cons (sv 3) sa_nil))) (sw_or1 (st_val (se_meth (se_make (n := 3) (c := 11) (F.mkr 42) (okK_Ordereddd_initdd F) (hr.mono (by decide)) rfl (F.glo 43) tkF (sa_cons (se_lst sa_nil) (sa_cons se_int (sa_cons se_int sa_nil)))) (hd_shows F) (hr.mono (by decide)) tkF (sa_cons (sv 3) sa_nil))))))) (sss_one (ss_ret se_bl)) sss_nil))) (sss_cons (ss_as (g := st__law_exchanged_right_7) rfl (sset 0 sc__law_exchanged_right.nd (se_lst (sa_cons (se_tup (sa_cons (se_tup (sa_cons se_int (sa_cons se_int sa_nil))) (sa_cons se_int sa_nil))) (sa_cons (se_tup (sa_cons (se_tup (sa_cons se_int (sa_cons (se_un so_neg se_int) sa_nil))) (sa_cons se_int sa_nil))) (sa_cons (se_tup (sa_cons (se_tup (sa_cons se_int (sa_cons (se_un so_neg se_int) sa_nil))) (sa_cons se_int sa_nil))) (sa_cons (se_tup (sa_cons (se_tup (sa_cons (se_un so_neg se_int) (sa_cons se_int sa_nil))) (sa_cons se_int sa_nil))) (sa_cons (se_tup (sa_cons (se_tup (sa_cons (se_un so_neg se_int) (sa_cons se_int sa_nil))) (sa_cons se_int sa_nil))) (sa_cons (se_tup (sa_cons (se_tup (sa_cons (se_un so_neg se_int) (sa_cons se_int sa_nil))) (sa_cons se_int sa_nil))) sa_nil))))))))) (sss_cons (ss_as (g := st__law_exchanged_right_8) rfl (sset 1 sc__law_exchanged_right.nd (se_make (n := 1) (c := 10) (F.mkr 44) (okK_Orderlessdd_initdd F) (hr.mono (by decide)) rfl (F.glo 45) tkF (sa_cons (sv 0) sa_nil)))) (sss_cons (ss_as (g := st__law_exchanged_right_9) rfl (ss_gc 8 (ss_if (st_w (sw_or (st_not (st_val (se_meth (sv 1) (hd_shows F) (hr.mono (by decide)) tkF (sa_cons (sv 4) sa_nil)))) (sw_or (st_val (se_meth (se_make (n := 1) (c := 10) (F.mkr 44) (okK_Orderlessdd_initdd F) (hr.mono (by decide)) rfl (F.glo 45) tkF (sa_cons (se_sl (sv 0) (so_some se_int) so_none) sa_nil)) (hd_shows F) (hr.mono (by decide)) tkF (sa_cons (sv 4) sa_nil))) (sw_or1 (st_val (se_meth (se_make (n := 1) (c := 10) (F.mkr 44) (okK_Orderlessdd_initdd F) (hr.mono (by decide)) rfl (F.glo 45) tkF (sa_cons (se_lst sa_nil) sa_nil)) (hd_shows F) (hr.mono (by decide)) tkF (sa_cons (sv 4) sa_nil))))))) (sss_one (ss_ret se_bl)) sss_nil))) (sss_cons (ss_as (g := st__law_exchanged_right_10) rfl (ss_expr (se_clr (sv 0)))) (sss_cons (ss_as (g := st__law_exchanged_right_11) rfl (sset 2 sc__law_exchanged_right.nd (sC (ok_order F) hr (F.glo 46) tkF (sa_cons (sv 4) sa_nil)))) (sss_cons (ss_as (g := st__law_exchanged_right_12) rfl (ss_expr (se_clr (se_fld (ok := (fun c => List.contains [10] c)) (F.fld 8) (sv 2) rfl)))) (sss_cons (ss_as (g := st__law_exchanged_right_13) rfl (ss_expr (se_clr (sC (ok_ranges F) hr (F.glo 68) tkF (sa_cons (sv 4) (sa_cons (se_lst (sa_cons se_int sa_nil)) sa_nil)))))) (sss_cons (ss_as (g := st__law_exchanged_right_14) rfl (ss_gc 8 (ss_if (st_w (sw_or (st_val (se_meth (sv 2) (hd_shows F) (hr.mono (by decide)) tkF (sa_cons (sv 4) sa_nil))) (sw_or (st_cmp so_isNot (se_meth (sv 1) (hd_shows F) (hr.mono (by decide)) tkF (sa_cons (sv 4) sa_nil)) se_bl rfl) (sw_or1 (st_cmp (so_eqO (notf F) (hd_eq F) (hr.mono (by decide))) (sv 1) (se_make (n := 1) (c := 10) (F.mkr 44) (okK_Orderlessdd_initdd F) (hr.mono (by decide)) rfl (F.glo 45) tkF (sa_cons (se_lst sa_nil) sa_nil)) rfl))))) (sss_one (ss_ret se_bl)) sss_nil))) (sss_one (ss_as (g := st__law_exchanged_right_15) rfl (ss_ret (se_and (se_cmp so_is (se_meth (sC (ok_order F) hr (F.glo 46) tkF (sa_cons (sv 4) sa_nil)) (hd_shows F) (hr.mono (by decide)) tkF (sa_cons (sv 4) sa_nil)) se_bl rfl) (se_and (se_cmp (so_eqO (notf F) (hd_eq F) (hr.mono (by decide))) (se_make (n := 3) (c := 11) (F.mkr 42) (okK_Ordereddd_initdd F) (hr.mono (by decide)) rfl (F.glo 43) tkF (sa_cons (se_lst (sa_cons se_int sa_nil)) (sa_cons se_int (sa_cons se_int sa_nil)))) (se_make (n := 3) (c := 11) (F.mkr 42) (okK_Ordereddd_initdd F) (hr.mono (by decide)) rfl (F.glo 43) tkF (sa_cons (se_tup (sa_cons se_int sa_nil)) (sa_cons se_int (sa_cons se_int sa_nil)))) rfl) (se_one (se_cmp (so_neO (notf F) (neal F) (hd_eq F) (hr.mono (by decide))) (se_make (n := 3) (c := 11) (F.mkr 42) (okK_Ordereddd_initdd F) (hr.mono (by decide)) rfl (F.glo 43) tkF (sa_cons (se_lst sa_nil) (sa_cons se_int (sa_cons se_int sa_nil)))) (se_make (n := 3) (c := 11) (F.mkr 42) (okK_Ordereddd_initdd F) (hr.mono (by decide)) rfl (F.glo 43) tkF (sa_cons (se_lst sa_nil) (sa_cons se_int (sa_cons se_int sa_nil)))) rfl)))))))))))))))))))))))
theorem ok__law_exchanged_right {P : Program} {w : World} {K : PySem.W.Frag} {mg : Str → Option Value} {base : Heap} (F : FX wx K mg) : FnC P w K mg base 11 (He.fAd K ("_law_exchanged_right", none)) 0 m__law_exchanged_right := by
  obtain ⟨fd, D⟩ := F.says.def_ 42 (d := dd__law_exchanged_right) rfl
  exact ⟨⟨fd, _, bo__law_exchanged_right F D, D.bindsN fun _ _ _ _ _ _ us hl => match us, hl with | [], _ => rfl⟩, D.kp⟩
def st__law_large_right_0 : SF := (sSet 1 (eMake 0 2 1 6 (gKw 0 [.str "most", .str "ahead"]) m_Ruledd_initdd (aCons (eTup (aCons (eC (.int 1)) (aCons (eC (.int 4)) aNil))) (aCons (eTup (aCons (eC (.int 1)) (aCons (eC (.int 2)) aNil))) aNil)) (aCons (eC (.int 1)) aNil)))
def st__law_large_right_1 : SF := (sGc 2 (sIf (tVal (eBin (oNeO CS dp_eq) (eLen dp_len (eCall 2 m_ranges (aCons (eVar 1) (aCons (eBin oAdd (eBin oMul (eLst (aCons (eC (.int 1)) aNil)) (eBin oSub (eC (.int 6)) (eVar 0))) (eBin oMul (eLst (aCons (eC (.int 2)) aNil)) (eVar 0))) aNil)))) (eC (.int 2)))) (sRet (eC (.bl false))) sSkip))
def st__law_large_right_2 : SF := (sTry (mtX XS) (sExpr (eCall 2 m_ranges (aCons (eVar 1) (aCons (eBin oAdd (eBin oMul (eLst (aCons (eC (.int 1)) aNil)) (eBin oSub (eC (.int 7)) (eVar 0))) (eBin oMul (eLst (aCons (eC (.int 2)) aNil)) (eVar 0))) aNil)))) [(19, none, (sRet (eC (.bl true))))])
def st__law_large_right_3 : SF := (sRet (eC (.bl false)))
abbrev N__law_large_right : List Str := ["_law_many", "_law_rule"]
def b__law_large_right : SF := (sSeq st__law_large_right_0 (sSeq st__law_large_right_1 (sSeq st__law_large_right_2 st__law_large_right_3)))
def m__law_large_right : FF := fnP (fnS 1 2 b__law_large_right)
theorem sc__law_large_right : FnScope N__law_large_right ["_law_many"] (defScope (tp 59)) := ⟨by rfl, by rfl, by rfl, by decide +kernel, by rfl, by decide +kernel, by decide +kernel⟩
set_option maxHeartbeats 4000000 in
theorem bo__law_large_right {P : Program} {w : World} {K : PySem.W.Frag} {mg : Str → Option Value} {base : Heap} (F : FX wx K mg) {f : Addr} {fd : FuncData} (D : FunD K dd__law_large_right.name dd__law_large_right.qual dd__law_large_right.params dd__law_large_right.body dd__law_large_right.scope (dd__law_large_right.dvs K) (dd__law_large_right.kws K) f fd) : FnOk P w K mg base (L2.CX P w) 9 f fd ["_law_many"] (spF ⟨K, P, w⟩ 1 m__law_large_right) :=
  fn_small (fn_sh (np := 1) (ns := 2) (k := 8) (body := b__law_large_right) D sc__law_large_right rfl rfl fun cdv A outer s H E hr =>
    (sss_cons (ss_as (g := st__law_large_right_0) rfl (sset 1 sc__law_large_right.nd (se_makeK (ks := ["kept"]) (n := 2) (c := 0) (F.mkr 5) (okk_Ruledd_initdd_kept F) (hr.mono (by decide)) rfl (F.glo 21) tkF (sa_cons (se_tup (sa_cons se_int (sa_cons se_int sa_nil))) (sa_cons (se_tup (sa_cons se_int (sa_cons se_int sa_nil))) sa_nil)) (sk_cons se_int sk_nil)))) (sss_cons (ss_as (g := st__law_large_right_1) rfl (ss_gc 2 (ss_if (st_cmp (so_neO (notf F) (neal F) (hd_eq F) (hr.mono (by decide))) (se_len (hd_len F) (hr.mono (by decide)) rfl (F.free 0) (sC (ok_ranges F) hr (F.glo 68) tkF (sa_cons (sv 1) (sa_cons (se_bin so_add (se_bin so_mul (se_lst (sa_cons se_int sa_nil)) (se_bin so_sub se_int (sv 0))) (se_bin so_mul (se_lst (sa_cons se_int sa_nil)) (sv 0))) sa_nil)))) se_int rfl) (sss_one (ss_ret se_bl)) sss_nil))) (sss_cons (ss_as (g := st__law_large_right_2) rfl (ss_try rfl rfl tkF (exmt F) (fun W pn xe tk own => (sss_one (ss_expr (sC (ok_ranges F) hr (F.glo 68) tk (sa_cons (sv 1) (sa_cons (se_bin so_add (se_bin so_mul (se_lst (sa_cons se_int sa_nil)) (se_bin so_sub se_int (sv 0))) (se_bin so_mul (se_lst (sa_cons se_int sa_nil)) (sv 0))) sa_nil)))))) (HdCls.cons (k := 19) ⟨rfl, by decide, .inl (F.glo 36)⟩ (fun a pn => (sss_one (ss_ret se_bl))) HdCls.nil))) (sss_one (ss_as (g := st__law_large_right_3) rfl (ss_ret se_bl)))))))
theorem ok__law_large_right {P : Program} {w : World} {K : PySem.W.Frag} {mg : Str → Option Value} {base : Heap} (F : FX wx K mg) : FnC P w K mg base 9 (He.fAd K ("_law_large_right", none)) 1 m__law_large_right := by
  obtain ⟨fd, D⟩ := F.says.def_ 43 (d := dd__law_large_right) rfl
  exact ⟨⟨fd, _, bo__law_large_right F D, D.bindsN fun _ _ _ _ _ _ us hl => match us, hl with | [_], _ => rfl⟩, D.kp⟩
abbrev N__law_three : List Str := []
def b__law_three : SF := (sRet (eTup (aCons (eTup (aCons (eTup (aCons (eC (.int 0)) (aCons (eC (.int 0)) aNil))) (aCons (eC (.int 1)) aNil))) (aCons (eTup (aCons (eTup (aCons (eC (.int 1)) (aCons (eUn oNeg (eC (.int 1))) aNil))) (aCons (eC (.int 1)) aNil))) (aCons (eTup (aCons (eTup (aCons (eUn oNeg (eC (.int 1))) (aCons (eC (.int 1)) aNil))) (aCons (eC (.int 0)) aNil))) aNil)))))
def m__law_three : FF := fnP (fnS 0 0 b__law_three)
theorem sc__law_three : FnScope N__law_three [] (defScope (tp 57)) := ⟨by rfl, by rfl, by rfl, by decide +kernel, by rfl, by decide +kernel, by decide +kernel⟩
set_option maxHeartbeats 4000000 in
theorem bo__law_three {P : Program} {w : World} {K : PySem.W.Frag} {mg : Str → Option Value} {base : Heap} (F : FX wx K mg) {f : Addr} {fd : FuncData} (D : FunD K dd__law_three.name dd__law_three.qual dd__law_three.params dd__law_three.body dd__law_three.scope (dd__law_three.dvs K) (dd__law_three.kws K) f fd) : FnOk P w K mg base (L2.CX P w) 1 f fd [] (spF ⟨K, P, w⟩ 0 m__law_three) :=
  fn_small (fn_sh (np := 0) (ns := 0) (k := 0) (body := b__law_three) D sc__law_three rfl rfl fun cdv A outer s H E hr =>
    (sss_one (ss_ret (se_tup (sa_cons (se_tup (sa_cons (se_tup (sa_cons se_int (sa_cons se_int sa_nil))) (sa_cons se_int sa_nil))) (sa_cons (se_tup (sa_cons (se_tup (sa_cons se_int (sa_cons (se_un so_neg se_int) sa_nil))) (sa_cons se_int sa_nil))) (sa_cons (se_tup (sa_cons (se_tup (sa_cons (se_un so_neg se_int) (sa_cons se_int sa_nil))) (sa_cons se_int sa_nil))) sa_nil)))))))
theorem ok__law_three {P : Program} {w : World} {K : PySem.W.Frag} {mg : Str → Option Value} {base : Heap} (F : FX wx K mg) : FnC P w K mg base 1 (He.fAd K ("_law_three", none)) 0 m__law_three := by
  obtain ⟨fd, D⟩ := F.says.def_ 44 (d := dd__law_three) rfl
  exact ⟨⟨fd, _, bo__law_three F D, D.bindsN fun _ _ _ _ _ _ us hl => match us, hl with | [], _ => rfl⟩, D.kp⟩
theorem okk_Ruledd_initdd_ {P : Program} {w : World} {K : PySem.W.Frag} {mg : Str → Option Value} {base : Heap} (F : FX wx K mg) : FnKC P w K mg base 5 (He.fAd K ("Rule", some "__init__")) 3 [] 6 (gKw 0 [.int 0, .str "most", .str "ahead"]) m_Ruledd_initdd := by
  obtain ⟨fd, D⟩ := F.says.def_ 5 (d := dd_Ruledd_initdd) rfl
  exact ⟨fd, _, bo_Ruledd_initdd F D, bd_kw (FunD.kbinds0 D 3 [] [("kept", V.int 0), ("pick", V.str "most"), ("way", V.str "ahead")] (fun us mv ws => us ++ (mv.take 0 ++ (ws ++ mv.drop 0))) (List.cons_ne_nil _ _) (fun q hq => (List.Sublist.cons₂ _ (List.Sublist.cons₂ _ (List.Sublist.cons₂ _ List.Sublist.slnil))).subset hq) (fun r1 r2 r3 => vals_kw r1 r2 r3) fun Dk doc pm an cdv ct us mv ws h1 h2 h3 => match us, mv, ws, h1, h2, h3 with | [u0, u1, u2], [v0, v1, v2], [], _, _, _ => ⟨_, _, _, _, _, _, rfl, rfl, ⟨_, _, _, _, _, _, rfl, rfl, ⟨_, _, _, _, _, _, rfl, rfl, rfl⟩⟩⟩) (by intro ι H; simp [Reps, Rep, He.Dv.v])⟩
abbrev N_pair_of : List Str := ["one", "other"]
def b_pair_of : SF := (sRet (eIf (tVal (eBin oLtG (eVar 0) (eVar 1))) (eTup (aCons (eVar 0) (aCons (eVar 1) aNil))) (eTup (aCons (eVar 1) (aCons (eVar 0) aNil)))))
def m_pair_of : FF := fnP (fnS 2 2 b_pair_of)
theorem sc_pair_of : FnScope N_pair_of ["one", "other"] (defScope (tp 49)) := ⟨by rfl, by rfl, by rfl, by decide +kernel, by rfl, by decide +kernel, by decide +kernel⟩
set_option maxHeartbeats 4000000 in
theorem bo_pair_of {P : Program} {w : World} {K : PySem.W.Frag} {mg : Str → Option Value} {base : Heap} (F : FX wx K mg) {f : Addr} {fd : FuncData} (D : FunD K dd_pair_of.name dd_pair_of.qual dd_pair_of.params dd_pair_of.body dd_pair_of.scope (dd_pair_of.dvs K) (dd_pair_of.kws K) f fd) : FnOk P w K mg base (L2.CX P w) 1 f fd ["one", "other"] (spF ⟨K, P, w⟩ 2 m_pair_of) :=
  fn_small (fn_sh (np := 2) (ns := 2) (k := 0) (body := b_pair_of) D sc_pair_of rfl rfl fun cdv A outer s H E hr =>
    (sss_one (ss_ret (se_if (st_cmp (so_ltG (room_v hr)) (sv 0) (sv 1) rfl) (se_tup (sa_cons (sv 0) (sa_cons (sv 1) sa_nil))) (se_tup (sa_cons (sv 1) (sa_cons (sv 0) sa_nil)))))))
theorem ok_pair_of {P : Program} {w : World} {K : PySem.W.Frag} {mg : Str → Option Value} {base : Heap} (F : FX wx K mg) : FnC P w K mg base 1 (He.fAd K ("pair_of", none)) 2 m_pair_of := by
  obtain ⟨fd, D⟩ := F.says.def_ 45 (d := dd_pair_of) rfl
  exact ⟨⟨fd, _, bo_pair_of F D, D.bindsN fun _ _ _ _ _ _ us hl => match us, hl with | [_, _], _ => rfl⟩, D.kp⟩
abbrev N_merging : List Str := ["rule", "start", "found", "line", "pair", "amount", "late", "one", "other", "state"]
def b_merging : SF := (sSeq (sPar [2, 3] (aCons (eDisp [((eVar 1), (eTup aNil))]) (aCons (eLst (aCons (eVar 1) aNil)) aNil))) (sSeq (sWhile 2000 (tVal (eBin oNe (eVar 3) (eLst aNil))) (sSeq (sSet 4 (eMt "list" (oLst gPop) (eVar 3) (aCons (eC (.int 0)) aNil))) (sFor (iAny (eFld "amounts" (fun c => List.contains [0] c) (eVar 0))) (gNm 5) (sSeq (sAsg (eLc (iAny (eVar 4)) true [9] [9] tYesD (eBin oIx (eCall 3 m_done (aCons (eVar 0) (aCons (eVar 9) (aCons (eVar 5) aNil)))) (eC (.int 0)))) (gTu 2 (gsCons (gNm 7) (gsCons (gNm 8) gsNil)))) (sSeq (sIf (tVal (eBin oEq (eVar 7) (eVar 8))) (sRet (eTup (aStar (eBin oIx (eVar 2) (eVar 4)) (aCons (eVar 5) aNil)))) sSkip) (sSeq (sSet 6 (eCall 2 m_pair_of (aCons (eVar 7) (aCons (eVar 8) aNil)))) (sIf (tVal (eBin (oIn true) (eVar 6) (eVar 2))) (sSeq (sStore oSet (eTup (aStar (eBin oIx (eVar 2) (eVar 4)) (aCons (eVar 5) aNil))) (eVar 2) (eVar 6)) (sExpr (eMt "list" (oLst gApp) (eVar 3) (aCons (eVar 6) aNil)))) sSkip))))))) (sRet (eB (op1 gListA) (aCons (eVar 2) aNil)))))
def m_merging : FF := fnP (fnS 2 10 b_merging)
theorem sc_merging : FnScope N_merging ["rule", "start"] (defScope (tp 50)) := ⟨by rfl, by rfl, by rfl, by decide +kernel, by rfl, by decide +kernel, by decide +kernel⟩
set_option maxHeartbeats 4000000 in
theorem bo_merging {P : Program} {w : World} {K : PySem.W.Frag} {mg : Str → Option Value} {base : Heap} (F : FX wx K mg) {f : Addr} {fd : FuncData} (D : FunD K dd_merging.name dd_merging.qual dd_merging.params dd_merging.body dd_merging.scope (dd_merging.dvs K) (dd_merging.kws K) f fd) : FnOk P w K mg base (L2.CX P w) 6 f fd ["rule", "start"] (spF ⟨K, P, w⟩ 2 m_merging) :=
  fn_small (fn_sh (np := 2) (ns := 10) (k := 5) (body := b_merging) D sc_merging rfl rfl fun cdv A outer s H E hr =>
    (sss_cons (ss_par2 (i := 2) (j := 3) rfl sc_merging.nd rfl rfl (by decide) rfl rfl (sa_cons (se_disp (ps := [((eVar 1), (eTup aNil))]) (room_v hr) (pps_cons (sv 1) (se_tup sa_nil) pps_nil) rfl rfl (by simp) (by decide)) (sa_cons (se_lst (sa_cons (sv 1) sa_nil)) sa_nil)) rfl) (sss_cons (ss_while (n := 2000) ownF (st_cmp (so_ne (room_v hr)) (sv 3) (se_lst sa_nil) rfl) (sss_cons (sset 4 sc_merging.nd (se_mt PySem.F.plainAttrs_list PySem.F.slot_list_pop PySem.F.type_list_pop mt_popAll (sv 3) (sa_cons se_int sa_nil))) (sss_one (ss_for ownF rfl (si_any (se_fld (ok := (fun c => List.contains [0] c)) (F.fld 1) (sv 0) rfl)) (gnm 5 sc_merging.nd) (sss_cons (ss_asg (se_lcP (own := [("state", 9)]) (one := true) (is := [9]) (t := (gName 9)) rfl sc_merging.nd (si_any (sv 4)) (blkOk_by (own := [("state", 9)]) (by rfl)) (by decide) (fun _ _ _ _ _ => ⟨(pg_name (i := 9) sc_merging.nd rfl (Or.inl rfl)), sts_nil, (se_ix (ix_all (room_v hr)) (sC (ok_done F) hr (F.glo 33) tk0 (sa_cons (sv 0) (sa_cons (sv 9) (sa_cons (sv 5) sa_nil)))) se_int (fun _ _ => rfl))⟩) (fun e r h => rd_one (i := 9) e r h)) (sg_tu rfl (sgs_cons (gnm 7 sc_merging.nd) (sgs_cons (gnm 8 sc_merging.nd) sgs_nil)))) (sss_cons (ss_if (st_cmp (so_eq (room_v hr)) (sv 7) (sv 8) rfl) (sss_one (ss_ret (se_tup (sa_star (se_ix (ix_all (room_v hr)) (sv 2) (sv 4) (fun _ _ => rfl)) (sa_cons (sv 5) sa_nil))))) sss_nil) (sss_cons (sset 6 sc_merging.nd (sC (ok_pair_of F) hr (F.glo 82) tkF (sa_cons (sv 7) (sa_cons (sv 8) sa_nil)))) (sss_one (ss_if (st_cmp (so_notIn (room_u hr)) (sv 6) (sv 2) rfl) (sss_cons (ss_store (sv 2) (sv 6) (set_all (room_v hr)) (se_tup (sa_star (se_ix (ix_all (room_v hr)) (sv 2) (sv 4) (fun _ _ => rfl)) (sa_cons (sv 5) sa_nil))) rfl) (sss_one (ss_expr (se_mt PySem.F.plainAttrs_list PySem.F.slot_list_append PySem.F.type_list_append mt_app (sv 3) (sa_cons (sv 6) sa_nil))))) sss_nil))))))))) (sss_one (ss_ret (se_callTy (cl_listA rfl) rfl (F.free 24) (by decide +kernel) (sa_cons (sv 2) sa_nil)))))))
theorem ok_merging {P : Program} {w : World} {K : PySem.W.Frag} {mg : Str → Option Value} {base : Heap} (F : FX wx K mg) : FnC P w K mg base 6 (He.fAd K ("merging", none)) 2 m_merging := by
  obtain ⟨fd, D⟩ := F.says.def_ 46 (d := dd_merging) rfl
  exact ⟨⟨fd, _, bo_merging F D, D.bindsN fun _ _ _ _ _ _ us hl => match us, hl with | [_, _], _ => rfl⟩, D.kp⟩
abbrev N_Unsettleddd_initdd : List Str := ["self", "pairs"]
def b_Unsettleddd_initdd : SF := (sFld "pairs" (fun c => List.contains [13] c) (eVar 0) (eB (op1 gListA) (aCons (eVar 1) aNil)))
def m_Unsettleddd_initdd : FF := fnT 0 (fnS 2 2 b_Unsettleddd_initdd)
theorem sc_Unsettleddd_initdd : FnScope N_Unsettleddd_initdd ["self", "pairs"] (defScope (tc 52 0)) := ⟨by rfl, by rfl, by rfl, by decide +kernel, by rfl, by decide +kernel, by decide +kernel⟩
set_option maxHeartbeats 4000000 in
theorem bo_Unsettleddd_initdd {P : Program} {w : World} {K : PySem.W.Frag} {mg : Str → Option Value} {base : Heap} (F : FX wx K mg) {f : Addr} {fd : FuncData} (D : FunD K dd_Unsettleddd_initdd.name dd_Unsettleddd_initdd.qual dd_Unsettleddd_initdd.params dd_Unsettleddd_initdd.body dd_Unsettleddd_initdd.scope (dd_Unsettleddd_initdd.dvs K) (dd_Unsettleddd_initdd.kws K) f fd) : FnOk P w K mg base (L2.CX P w) 1 f fd ["self", "pairs"] (spF ⟨K, P, w⟩ 2 m_Unsettleddd_initdd) :=
  fn_trim (fn_sh (np := 2) (ns := 2) (k := 0) (body := b_Unsettleddd_initdd) D sc_Unsettleddd_initdd rfl rfl fun cdv A outer s H E hr =>
    (sss_one (ss_fld (ok := (fun c => List.contains [13] c)) (F.fld 9) (sv 0) (se_callTy (cl_listA rfl) rfl (F.free 24) (by decide +kernel) (sa_cons (sv 1) sa_nil)) rfl)))
theorem ok_Unsettleddd_initdd {P : Program} {w : World} {K : PySem.W.Frag} {mg : Str → Option Value} {base : Heap} (F : FX wx K mg) : FnC P w K mg base 1 (He.fAd K ("Unsettled", some "__init__")) 2 m_Unsettleddd_initdd := by
  obtain ⟨fd, D⟩ := F.says.def_ 47 (d := dd_Unsettleddd_initdd) rfl
  exact ⟨⟨fd, _, bo_Unsettleddd_initdd F D, D.bindsN fun _ _ _ _ _ _ us hl => match us, hl with | [_, _], _ => rfl⟩, D.kp⟩
theorem okK_Unsettleddd_initdd {P : Program} {w : World} {K : PySem.W.Frag} {mg : Str → Option Value} {base : Heap} (F : FX wx K mg) : FnKC P w K mg base 1 (He.fAd K ("Unsettled", some "__init__")) 2 [] 2 gId m_Unsettleddd_initdd := by
  obtain ⟨fd, D⟩ := F.says.def_ 47 (d := dd_Unsettleddd_initdd) rfl
  exact ⟨fd, _, bo_Unsettleddd_initdd F D, bd_of (D.bindsN fun _ _ _ _ _ _ us hl => match us, hl with | [_, _], _ => rfl) rfl⟩
abbrev N_Settleddd_initdd : List Str := ["self", "row"]
def b_Settleddd_initdd : SF := (sFld "row" (fun c => List.contains [11, 12] c) (eVar 0) (eB (op1 gTuple) (aCons (eVar 1) aNil)))
def m_Settleddd_initdd : FF := fnT 0 (fnS 2 2 b_Settleddd_initdd)
theorem sc_Settleddd_initdd : FnScope N_Settleddd_initdd ["self", "row"] (defScope (tc 51 0)) := ⟨by rfl, by rfl, by rfl, by decide +kernel, by rfl, by decide +kernel, by decide +kernel⟩
set_option maxHeartbeats 4000000 in
theorem bo_Settleddd_initdd {P : Program} {w : World} {K : PySem.W.Frag} {mg : Str → Option Value} {base : Heap} (F : FX wx K mg) {f : Addr} {fd : FuncData} (D : FunD K dd_Settleddd_initdd.name dd_Settleddd_initdd.qual dd_Settleddd_initdd.params dd_Settleddd_initdd.body dd_Settleddd_initdd.scope (dd_Settleddd_initdd.dvs K) (dd_Settleddd_initdd.kws K) f fd) : FnOk P w K mg base (L2.CX P w) 1 f fd ["self", "row"] (spF ⟨K, P, w⟩ 2 m_Settleddd_initdd) :=
  fn_trim (fn_sh (np := 2) (ns := 2) (k := 0) (body := b_Settleddd_initdd) D sc_Settleddd_initdd rfl rfl fun cdv A outer s H E hr =>
    (sss_one (ss_fld (ok := (fun c => List.contains [11, 12] c)) (F.fld 5) (sv 0) (se_callTy cl_tuple rfl (F.free 7) (by decide +kernel) (sa_cons (sv 1) sa_nil)) rfl)))
theorem ok_Settleddd_initdd {P : Program} {w : World} {K : PySem.W.Frag} {mg : Str → Option Value} {base : Heap} (F : FX wx K mg) : FnC P w K mg base 1 (He.fAd K ("Settled", some "__init__")) 2 m_Settleddd_initdd := by
  obtain ⟨fd, D⟩ := F.says.def_ 48 (d := dd_Settleddd_initdd) rfl
  exact ⟨⟨fd, _, bo_Settleddd_initdd F D, D.bindsN fun _ _ _ _ _ _ us hl => match us, hl with | [_, _], _ => rfl⟩, D.kp⟩
theorem okK_Settleddd_initdd {P : Program} {w : World} {K : PySem.W.Frag} {mg : Str → Option Value} {base : Heap} (F : FX wx K mg) : FnKC P w K mg base 1 (He.fAd K ("Settled", some "__init__")) 2 [] 2 gId m_Settleddd_initdd := by
  obtain ⟨fd, D⟩ := F.says.def_ 48 (d := dd_Settleddd_initdd) rfl
  exact ⟨fd, _, bo_Settleddd_initdd F D, bd_of (D.bindsN fun _ _ _ _ _ _ us hl => match us, hl with | [_, _], _ => rfl) rfl⟩
abbrev N_settle : List Str := ["rule", "states", "row", "found"]
def b_settle : SF := (sSeq (sExpr (eCall 1 m_check_rule (aCons (eVar 0) aNil))) (sSeq (sPar [1, 2] (aCons (eCall 1 m_states_of (aCons (eVar 0) aNil)) (aCons (eTup aNil) aNil))) (sSeq (sWhile 2000 (tVal (eBin oGt (eLen dp_len (eVar 1)) (eC (.int 1)))) (sSeq (sSet 3 (eCall 2 m_merging (aCons (eVar 0) (aCons (eCall 2 m_pair_of (aCons (eBin oIx (eVar 1) (eC (.int 0))) (aCons (eBin oIx (eVar 1) (eC (.int 1))) aNil))) aNil)))) (sSeq (sIf (tVal (eIsi CS [.ty "list"] (eVar 3))) (sRet (eMake 13 1 0 2 gId m_Unsettleddd_initdd (aCons (eVar 3) aNil) aNil)) sSkip) (sPar [1, 2] (aCons (eCall 3 m_led_from (aCons (eVar 0) (aCons (eVar 1) (aCons (eVar 3) aNil)))) (aCons (eTup (aStar (eVar 2) (aStar (eVar 3) aNil))) aNil)))))) (sRet (eMake 12 1 0 2 gId m_Settleddd_initdd (aCons (eVar 2) aNil) aNil)))))
def m_settle : FF := fnP (fnS 1 4 b_settle)
theorem sc_settle : FnScope N_settle ["rule"] (defScope (tp 53)) := ⟨by rfl, by rfl, by rfl, by decide +kernel, by rfl, by decide +kernel, by decide +kernel⟩
set_option maxHeartbeats 4000000 in
theorem bo_settle {P : Program} {w : World} {K : PySem.W.Frag} {mg : Str → Option Value} {base : Heap} (F : FX wx K mg) {f : Addr} {fd : FuncData} (D : FunD K dd_settle.name dd_settle.qual dd_settle.params dd_settle.body dd_settle.scope (dd_settle.dvs K) (dd_settle.kws K) f fd) : FnOk P w K mg base (L2.CX P w) 8 f fd ["rule"] (spF ⟨K, P, w⟩ 1 m_settle) :=
  fn_small (fn_sh (np := 1) (ns := 4) (k := 7) (body := b_settle) D sc_settle rfl rfl fun cdv A outer s H E hr =>
    (sss_cons (ss_expr (sC (ok_check_rule F) hr (F.glo 22) tkF (sa_cons (sv 0) sa_nil))) (sss_cons (ss_par2 (i := 1) (j := 2) rfl sc_settle.nd rfl rfl (by decide) rfl rfl (sa_cons (sC (ok_states_of F) hr (F.glo 70) tkF (sa_cons (sv 0) sa_nil)) (sa_cons (se_tup sa_nil) sa_nil)) rfl) (sss_cons (ss_while (n := 2000) ownF (st_cmp so_gt (se_len (hd_len F) (hr.mono (by decide)) rfl (F.free 0) (sv 1)) se_int rfl) (sss_cons (sset 3 sc_settle.nd (sC (ok_merging F) hr (F.glo 83) tkF (sa_cons (sv 0) (sa_cons (sC (ok_pair_of F) hr (F.glo 82) tkF (sa_cons (se_ix (ix_all (room_v hr)) (sv 1) se_int (fun _ _ => rfl)) (sa_cons (se_ix (ix_all (room_v hr)) (sv 1) se_int (fun _ _ => rfl)) sa_nil))) sa_nil)))) (sss_cons (ss_if (st_val (isT (cs := CS) "list" F.isi (F.free 6) (F.free 24) (sv 3))) (sss_one (ss_ret (se_make (n := 1) (c := 13) (F.mkr 84) (okK_Unsettleddd_initdd F) (hr.mono (by decide)) rfl (F.glo 52) tkF (sa_cons (sv 3) sa_nil)))) sss_nil) (sss_one (ss_par2 (i := 1) (j := 2) rfl sc_settle.nd rfl rfl (by decide) rfl rfl (sa_cons (sC (ok_led_from F) hr (F.glo 71) tkF (sa_cons (sv 0) (sa_cons (sv 1) (sa_cons (sv 3) sa_nil)))) (sa_cons (se_tup (sa_star (sv 2) (sa_star (sv 3) sa_nil))) sa_nil)) rfl))))) (sss_one (ss_ret (se_make (n := 1) (c := 12) (F.mkr 85) (okK_Settleddd_initdd F) (hr.mono (by decide)) rfl (F.glo 51) tkF (sa_cons (sv 2) sa_nil))))))))
theorem ok_settle {P : Program} {w : World} {K : PySem.W.Frag} {mg : Str → Option Value} {base : Heap} (F : FX wx K mg) : FnC P w K mg base 8 (He.fAd K ("settle", none)) 1 m_settle := by
  obtain ⟨fd, D⟩ := F.says.def_ 49 (d := dd_settle) rfl
  exact ⟨⟨fd, _, bo_settle F D, D.bindsN fun _ _ _ _ _ _ us hl => match us, hl with | [_], _ => rfl⟩, D.kp⟩
abbrev N_does_settle : List Str := ["rule"]
def b_does_settle : SF := (sRet (eIsi CS [.cls 12] (eCall 1 m_settle (aCons (eVar 0) aNil))))
def m_does_settle : FF := fnP (fnS 1 1 b_does_settle)
theorem sc_does_settle : FnScope N_does_settle ["rule"] (defScope (tp 54)) := ⟨by rfl, by rfl, by rfl, by decide +kernel, by rfl, by decide +kernel, by decide +kernel⟩
set_option maxHeartbeats 4000000 in
theorem bo_does_settle {P : Program} {w : World} {K : PySem.W.Frag} {mg : Str → Option Value} {base : Heap} (F : FX wx K mg) {f : Addr} {fd : FuncData} (D : FunD K dd_does_settle.name dd_does_settle.qual dd_does_settle.params dd_does_settle.body dd_does_settle.scope (dd_does_settle.dvs K) (dd_does_settle.kws K) f fd) : FnOk P w K mg base (L2.CX P w) 9 f fd ["rule"] (spF ⟨K, P, w⟩ 1 m_does_settle) :=
  fn_small (fn_sh (np := 1) (ns := 1) (k := 8) (body := b_does_settle) D sc_does_settle rfl rfl fun cdv A outer s H E hr =>
    (sss_one (ss_ret (isC (cs := CS) 12 F.isi (F.free 6) (F.glo 51) (sC (ok_settle F) hr (F.glo 86) tkF (sa_cons (sv 0) sa_nil))))))
theorem ok_does_settle {P : Program} {w : World} {K : PySem.W.Frag} {mg : Str → Option Value} {base : Heap} (F : FX wx K mg) : FnC P w K mg base 9 (He.fAd K ("does_settle", none)) 1 m_does_settle := by
  obtain ⟨fd, D⟩ := F.says.def_ 50 (d := dd_does_settle) rfl
  exact ⟨⟨fd, _, bo_does_settle F D, D.bindsN fun _ _ _ _ _ _ us hl => match us, hl with | [_], _ => rfl⟩, D.kp⟩
abbrev N_settles : List Str := ["rule", "row"]
def b_settles : SF := (sSeq (sExpr (eCall 2 m_check_row (aCons (eVar 0) (aCons (eVar 1) aNil)))) (sRet (eBin oEq (eLen dp_len (eCall 3 m_led_from (aCons (eVar 0) (aCons (eCall 1 m_states_of (aCons (eVar 0) aNil)) (aCons (eVar 1) aNil))))) (eC (.int 1)))))
def m_settles : FF := fnP (fnS 2 2 b_settles)
theorem sc_settles : FnScope N_settles ["rule", "row"] (defScope (tp 55)) := ⟨by rfl, by rfl, by rfl, by decide +kernel, by rfl, by decide +kernel, by decide +kernel⟩
set_option maxHeartbeats 4000000 in
theorem bo_settles {P : Program} {w : World} {K : PySem.W.Frag} {mg : Str → Option Value} {base : Heap} (F : FX wx K mg) {f : Addr} {fd : FuncData} (D : FunD K dd_settles.name dd_settles.qual dd_settles.params dd_settles.body dd_settles.scope (dd_settles.dvs K) (dd_settles.kws K) f fd) : FnOk P w K mg base (L2.CX P w) 8 f fd ["rule", "row"] (spF ⟨K, P, w⟩ 2 m_settles) :=
  fn_small (fn_sh (np := 2) (ns := 2) (k := 7) (body := b_settles) D sc_settles rfl rfl fun cdv A outer s H E hr =>
    (sss_cons (ss_expr (sC (ok_check_row F) hr (F.glo 60) tkF (sa_cons (sv 0) (sa_cons (sv 1) sa_nil)))) (sss_one (ss_ret (se_cmp (so_eq (room_v hr)) (se_len (hd_len F) (hr.mono (by decide)) rfl (F.free 0) (sC (ok_led_from F) hr (F.glo 71) tkF (sa_cons (sv 0) (sa_cons (sC (ok_states_of F) hr (F.glo 70) tkF (sa_cons (sv 0) sa_nil)) (sa_cons (sv 1) sa_nil))))) se_int rfl)))))
theorem ok_settles {P : Program} {w : World} {K : PySem.W.Frag} {mg : Str → Option Value} {base : Heap} (F : FX wx K mg) : FnC P w K mg base 8 (He.fAd K ("settles", none)) 2 m_settles := by
  obtain ⟨fd, D⟩ := F.says.def_ 51 (d := dd_settles) rfl
  exact ⟨⟨fd, _, bo_settles F D, D.bindsN fun _ _ _ _ _ _ us hl => match us, hl with | [_, _], _ => rfl⟩, D.kp⟩
def st__law_settling_right_0 : SF := (sAsg (eTup (aCons (eMake 0 2 1 6 (gKw 0 [.str "most", .str "ahead"]) m_Ruledd_initdd (aCons (eTup (aCons (eC (.int 1)) (aCons (eC (.int 2)) aNil))) (aCons (eTup (aCons (eC (.int 1)) aNil)) aNil)) (aCons (eC (.int 3)) aNil)) (aCons (eMake 0 2 0 6 (gKw 0 [.int 0, .str "most", .str "ahead"]) m_Ruledd_initdd (aCons (eTup (aCons (eC (.int 1)) (aCons (eC (.int 2)) aNil))) (aCons (eTup (aCons (eC (.int 1)) aNil)) aNil)) aNil) (aCons (eCall 0 m__law_three aNil) aNil)))) (gTu 3 (gsCons (gNm 3) (gsCons (gNm 4) (gsCons (gTu 3 (gsCons (gNm 5) (gsCons (gNm 6) (gsCons (gNm 7) gsNil)))) gsNil)))))
def st__law_settling_right_1 : SF := (sSet 0 (eMake 0 2 0 6 (gKw 0 [.int 0, .str "most", .str "ahead"]) m_Ruledd_initdd (aCons (eTup (aCons (eC (.int 1)) (aCons (eC (.int 1)) aNil))) (aCons (eTup (aCons (eC (.int 1)) (aCons (eC (.int 2)) aNil))) aNil)) aNil))
def st__law_settling_right_2 : SF := (sGc 11 (sIf (tVal (eBin (oNeO CS dp_eq) (eLc (iAny (eTup (aCons (eVar 3) (aCons (eVar 4) (aCons (eVar 0) aNil))))) true [8] [8] tYesD (eCall 1 m_does_settle (aCons (eVar 8) aNil))) (eLst (aCons (eC (.bl false)) (aCons (eC (.bl true)) (aCons (eC (.bl true)) aNil)))))) (sRet (eC (.bl false))) sSkip))
def st__law_settling_right_3 : SF := (sGc 11 (sIf (tOr (tVal (eBin (oNeO CS dp_eq) (eLc (iAny (eTup (aCons (eLst aNil) (aCons (eLst (aCons (eC (.int 1)) aNil)) (aCons (eLst (aCons (eC (.int 2)) aNil)) (aCons (eLst (aCons (eC (.int 1)) (aCons (eC (.int 2)) aNil))) aNil)))))) true [9] [9] tYesD (eCall 2 m_settles (aCons (eVar 0) (aCons (eVar 9) aNil)))) (eLst (aCons (eC (.bl false)) (aCons (eC (.bl true)) (aCons (eC (.bl true)) (aCons (eC (.bl true)) aNil))))))) (tOr (tVal (eCall 2 m_settles (aCons (eVar 3) (aCons (eBin oMul (eLst (aCons (eC (.int 1)) aNil)) (eC (.int 7))) aNil)))) (tNot (tVal (eCall 2 m_settles (aCons (eVar 4) (aCons (eLst aNil) aNil))))))) (sRet (eC (.bl false))) sSkip))
def st__law_settling_right_4 : SF := (sSet 1 (eLst (aCons (eTup (aCons (eVar 5) (aCons (eVar 6) aNil))) (aCons (eTup (aCons (eVar 6) (aCons (eVar 7) aNil))) (aCons (eTup (aCons (eVar 7) (aCons (eVar 5) aNil))) aNil)))))
def st__law_settling_right_5 : SF := (sGc 11 (sIf (tOr (tNot (tVal (eMeth "shows" dp_shows (eMake 13 1 0 2 gId m_Unsettleddd_initdd (aCons (eVar 1) aNil) aNil) (aCons (eVar 3) aNil)))) (tVal (eMeth "shows" dp_shows (eMake 13 1 0 2 gId m_Unsettleddd_initdd (aCons (eSl (eVar 1) pNone (pSome (eC (.int 1)))) aNil) aNil) (aCons (eVar 3) aNil)))) (sRet (eC (.bl false))) sSkip))
def st__law_settling_right_6 : SF := (sGc 11 (sIf (tVal (eMeth "shows" dp_shows (eMake 13 1 0 2 gId m_Unsettleddd_initdd (aCons (eLst aNil) aNil) aNil) (aCons (eVar 3) aNil))) (sRet (eC (.bl false))) sSkip))
def st__law_settling_right_7 : SF := (sGc 11 (sIf (tNot (tVal (eMeth "shows" dp_shows (eMake 13 1 0 2 gId m_Unsettleddd_initdd (aCons (eLc (iAny (eVar 1)) true [10] [10] tYesD (eRev (eVar 10))) aNil) aNil) (aCons (eVar 3) aNil)))) (sRet (eC (.bl false))) sSkip))
def st__law_settling_right_8 : SF := (sGc 11 (sIf (tOr (tNot (tVal (eMeth "shows" dp_shows (eMake 12 1 0 2 gId m_Settleddd_initdd (aCons (eLst (aCons (eC (.int 2)) aNil)) aNil) aNil) (aCons (eVar 0) aNil)))) (tOr (tVal (eMeth "shows" dp_shows (eMake 12 1 0 2 gId m_Settleddd_initdd (aCons (eLst aNil) aNil) aNil) (aCons (eVar 0) aNil))) (tVal (eMeth "shows" dp_shows (eMake 12 1 0 2 gId m_Settleddd_initdd (aCons (eLst (aCons (eC (.int 3)) aNil)) aNil) aNil) (aCons (eVar 0) aNil))))) (sRet (eC (.bl false))) sSkip))
def st__law_settling_right_9 : SF := (sSet 2 (eMake 13 1 0 2 gId m_Unsettleddd_initdd (aCons (eVar 1) aNil) aNil))
def st__law_settling_right_10 : SF := (sExpr (eClr (eVar 1)))
def st__law_settling_right_11 : SF := (sExpr (eClr (eFld "pairs" (fun c => List.contains [13] c) (eCall 1 m_settle (aCons (eVar 3) aNil)))))
def st__law_settling_right_12 : SF := (sGc 11 (sIf (tOr (tVal (eBin (oIs true) (eMeth "shows" dp_shows (eVar 2) (aCons (eVar 3) aNil)) (eC (.bl true)))) (tOr (tVal (eBin (oEqO CS dp_eq) (eVar 2) (eMake 13 1 0 2 gId m_Unsettleddd_initdd (aCons (eLst aNil) aNil) aNil))) (tNot (tVal (eMeth "shows" dp_shows (eMake 12 1 0 2 gId m_Settleddd_initdd (aCons (eLst aNil) aNil) aNil) (aCons (eVar 4) aNil)))))) (sRet (eC (.bl false))) sSkip))
def st__law_settling_right_13 : SF := (sRet (eAnd (eBin (oIs false) (eMeth "shows" dp_shows (eCall 1 m_settle (aCons (eVar 3) aNil)) (aCons (eVar 3) aNil)) (eC (.bl true))) (eBin (oEqO CS dp_eq) (eMake 12 1 0 2 gId m_Settleddd_initdd (aCons (eLst (aCons (eC (.int 1)) aNil)) aNil) aNil) (eMake 12 1 0 2 gId m_Settleddd_initdd (aCons (eTup (aCons (eC (.int 1)) aNil)) aNil) aNil))))
abbrev N__law_settling_right : List Str := ["_law_both", "_law_pairs", "_law_late", "_law_rule", "_law_bare", "_law_one", "_law_two", "_law_three_here", "_law_some", "_law_row", "_law_pair"]
def b__law_settling_right : SF := (sSeq st__law_settling_right_0 (sSeq st__law_settling_right_1 (sSeq st__law_settling_right_2 (sSeq st__law_settling_right_3 (sSeq st__law_settling_right_4 (sSeq st__law_settling_right_5 (sSeq st__law_settling_right_6 (sSeq st__law_settling_right_7 (sSeq st__law_settling_right_8 (sSeq st__law_settling_right_9 (sSeq st__law_settling_right_10 (sSeq st__law_settling_right_11 (sSeq st__law_settling_right_12 st__law_settling_right_13)))))))))))))
def m__law_settling_right : FF := fnP (fnS 0 11 b__law_settling_right)
theorem sc__law_settling_right : FnScope N__law_settling_right [] (defScope (tp 60)) := ⟨by rfl, by rfl, by rfl, by decide +kernel, by rfl, by decide +kernel, by decide +kernel⟩
set_option maxHeartbeats 4000000 in
theorem bo__law_settling_right {P : Program} {w : World} {K : PySem.W.Frag} {mg : Str → Option Value} {base : Heap} (F : FX wx K mg) {f : Addr} {fd : FuncData} (D : FunD K dd__law_settling_right.name dd__law_settling_right.qual dd__law_settling_right.params dd__law_settling_right.body dd__law_settling_right.scope (dd__law_settling_right.dvs K) (dd__law_settling_right.kws K) f fd) : FnOk P w K mg base (L2.CX P w) 10 f fd [] (spF ⟨K, P, w⟩ 0 m__law_settling_right) :=
  fn_small (fn_sh (np := 0) (ns := 11) (k := 9) (body := b__law_settling_right) D sc__law_settling_right rfl rfl fun cdv A outer s H E hr =>
    (sss_cons (ss_as (g := st__law_settling_right_0) rfl (ss_asg (se_tup (sa_cons (se_makeK (ks := ["kept"]) (n := 2) (c := 0) (F.mkr 5) (okk_Ruledd_initdd_kept F) (hr.mono (by decide)) rfl (F.glo 21) tkF (sa_cons (se_tup (sa_cons se_int (sa_cons se_int sa_nil))) (sa_cons (se_tup (sa_cons se_int sa_nil)) sa_nil)) (sk_cons se_int sk_nil)) (sa_cons (se_make (n := 2) (c := 0) (F.mkr 5) (okk_Ruledd_initdd_ F) (hr.mono (by decide)) rfl (F.glo 21) tkF (sa_cons (se_tup (sa_cons se_int (sa_cons se_int sa_nil))) (sa_cons (se_tup (sa_cons se_int sa_nil)) sa_nil))) (sa_cons (sC0 (ok__law_three F) hr (F.glo 81) tkF) sa_nil)))) (sg_tu rfl (sgs_cons (gnm 3 sc__law_settling_right.nd) (sgs_cons (gnm 4 sc__law_settling_right.nd) (sgs_cons (sg_tu rfl (sgs_cons (gnm 5 sc__law_settling_right.nd) (sgs_cons (gnm 6 sc__law_settling_right.nd) (sgs_cons (gnm 7 sc__law_settling_right.nd) sgs_nil)))) sgs_nil)))))) (sss_cons (ss_as (g := st__law_settling_right_1) rfl (sset 0 sc__law_settling_right.nd (se_make (n := 2) (c := 0) (F.mkr 5) (okk_Ruledd_initdd_ F) (hr.mono (by decide)) rfl (F.glo 21) tkF (sa_cons (se_tup (sa_cons se_int (sa_cons se_int sa_nil))) (sa_cons (se_tup (sa_cons se_int (sa_cons se_int sa_nil))) sa_nil))))) (sss_cons (ss_as (g := st__law_settling_right_2) rfl (ss_gc 11 (ss_if (st_cmp (so_neO (notf F) (neal F) (hd_eq F) (hr.mono (by decide))) (se_lcP (own := [("_law_some", 8)]) (one := true) (is := [8]) (t := (gName 8)) rfl sc__law_settling_right.nd (si_any (se_tup (sa_cons (sv 3) (sa_cons (sv 4) (sa_cons (sv 0) sa_nil))))) (blkOk_by (own := [("_law_some", 8)]) (by rfl)) (by decide) (fun _ _ _ _ _ => ⟨(pg_name (i := 8) sc__law_settling_right.nd rfl (Or.inl rfl)), sts_nil, (sC (ok_does_settle F) hr (F.glo 87) tk0 (sa_cons (sv 8) sa_nil))⟩) (fun e r h => rd_one (i := 8) e r h)) (se_lst (sa_cons se_bl (sa_cons se_bl (sa_cons se_bl sa_nil)))) rfl) (sss_one (ss_ret se_bl)) sss_nil))) (sss_cons (ss_as (g := st__law_settling_right_3) rfl (ss_gc 11 (ss_if (st_w (sw_or (st_cmp (so_neO (notf F) (neal F) (hd_eq F) (hr.mono (by decide))) (se_lcP (own := [("_law_row", 9)]) (one := true) (is := [9]) (t := (gName 9)) rfl sc__law_settling_right.nd (si_any (se_tup (sa_cons (se_lst sa_nil) (sa_cons (se_lst (sa_cons se_int sa_nil)) (sa_cons (se_lst (sa_cons se_int sa_nil)) (sa_cons (se_lst (sa_cons se_int (sa_cons se_int sa_nil))) sa_nil)))))) (blkOk_by (own := [("_law_row", 9)]) (by rfl)) (by decide) (fun _ _ _ _ _ => ⟨(pg_name (i := 9) sc__law_settling_right.nd rfl (Or.inl rfl)), sts_nil, (sC (ok_settles F) hr (F.glo 88) tk0 (sa_cons (sv 0) (sa_cons (sv 9) sa_nil)))⟩) (fun e r h => rd_one (i := 9) e r h)) (se_lst (sa_cons se_bl (sa_cons se_bl (sa_cons se_bl (sa_cons se_bl sa_nil))))) rfl) (sw_or (st_val (sC (ok_settles F) hr (F.glo 88) tkF (sa_cons (sv 3) (sa_cons (se_bin so_mul (se_lst (sa_cons se_int sa_nil)) se_int) sa_nil)))) (sw_or1 (st_not (st_val (sC (ok_settles F) hr (F.glo 88) tkF (sa_cons (sv 4) (sa_cons (se_lst sa_nil) sa_nil))))))))) (sss_one (ss_ret se_bl)) sss_nil))) (sss_cons (ss_as (g := st__law_settling_right_4) rfl (sset 1 sc__law_settling_right.nd (se_lst (sa_cons (se_tup (sa_cons (sv 5) (sa_cons (sv 6) sa_nil))) (sa_cons (se_tup (sa_cons (sv 6) (sa_cons (sv 7) sa_nil))) (sa_cons (se_tup (sa_cons (sv 7) (sa_cons (sv 5) sa_nil))) sa_nil)))))) (sss_cons (ss_as (g := st__law_settling_right_5) rfl (ss_gc 11 (ss_if (st_w (sw_or (st_not (st_val (se_meth (se_make (n := 1) (c := 13) (F.mkr 84) (okK_Unsettleddd_initdd F) (hr.mono (by decide)) rfl (F.glo 52) tkF (sa_cons (sv 1) sa_nil)) (hd_shows F) (hr.mono (by decide)) tkF (sa_cons (sv 3) sa_nil)))) (sw_or1 (st_val (se_meth (se_make (n := 1) (c := 13) (F.mkr 84) (okK_Unsettleddd_initdd F) (hr.mono (by decide)) rfl (F.glo 52) tkF (sa_cons (se_sl (sv 1) so_none (so_some se_int)) sa_nil)) (hd_shows F) (hr.mono (by decide)) tkF (sa_cons (sv 3) sa_nil)))))) (sss_one (ss_ret se_bl)) sss_nil))) (sss_cons (ss_as (g := st__law_settling_right_6) rfl (ss_gc 11 (ss_if (st_val (se_meth (se_make (n := 1) (c := 13) (F.mkr 84) (okK_Unsettleddd_initdd F) (hr.mono (by decide)) rfl (F.glo 52) tkF (sa_cons (se_lst sa_nil) sa_nil)) (hd_shows F) (hr.mono (by decide)) tkF (sa_cons (sv 3) sa_nil))) (sss_one (ss_ret se_bl)) sss_nil))) (sss_cons (ss_as (g := st__law_settling_right_7) rfl (ss_gc 11 (ss_if (st_not (st_val (se_meth (se_make (n := 1) (c := 13) (F.mkr 84) (okK_Unsettleddd_initdd F) (hr.mono (by decide)) rfl (F.glo 52) tkF (sa_cons (se_lcP (own := [("_law_pair", 10)]) (one := true) (is := [10]) (t := (gName 10)) rfl sc__law_settling_right.nd (si_any (sv 1)) (blkOk_by (own := [("_law_pair", 10)]) (by rfl)) (by decide) (fun _ _ _ _ _ => ⟨(pg_name (i := 10) sc__law_settling_right.nd rfl (Or.inl rfl)), sts_nil, (se_rev (sv 10))⟩) (fun e r h => rd_one (i := 10) e r h)) sa_nil)) (hd_shows F) (hr.mono (by decide)) tkF (sa_cons (sv 3) sa_nil)))) (sss_one (ss_ret se_bl)) sss_nil))) (sss_cons (ss_as (g := st__law_settling_right_8) rfl (ss_gc 11 (ss_if (st_w (sw_or (st_not (st_val (se_meth (se_make (n := 1) (c := 12) (F.mkr 85) (okK_Settleddd_initdd F) (hr.mono (by decide)) rfl (F.glo 51) tkF (sa_cons (se_lst (sa_cons se_int sa_nil)) sa_nil)) (hd_shows F) (hr.mono (by decide)) tkF (sa_cons (sv 0) sa_nil)))) (sw_or (st_val (se_meth (se_make (n := 1) (c := 12) (F.mkr 85) (okK_Settleddd_initdd F) (hr.mono (by decide)) rfl (F.glo 51) tkF (sa_cons (se_lst sa_nil) sa_nil)) (hd_shows F) (hr.mono (by decide)) tkF (sa_cons (sv 0) sa_nil))) (sw_or1 (st_val (se_meth (se_make (n := 1) (c := 12) (F.mkr 85) (okK_Settleddd_initdd F) (hr.mono (by decide)) rfl (F.glo 51) tkF (sa_cons (se_lst (sa_cons se_int sa_nil)) sa_nil)) (hd_shows F) (hr.mono (by decide)) tkF (sa_cons (sv 0) sa_nil))))))) (sss_one (ss_ret se_bl)) sss_nil))) (sss_cons (ss_as (g := st__law_settling_right_9) rfl (sset 2 sc__law_settling_right.nd (se_make (n := 1) (c := 13) (F.mkr 84) (okK_Unsettleddd_initdd F) (hr.mono (by decide)) rfl (F.glo 52) tkF (sa_cons (sv 1) sa_nil)))) (sss_cons (ss_as (g := st__law_settling_right_10) rfl (ss_expr (se_clr (sv 1)))) (sss_cons (ss_as (g := st__law_settling_right_11) rfl (ss_expr (se_clr (se_fld (ok := (fun c => List.contains [13] c)) (F.fld 9) (sC (ok_settle F) hr (F.glo 86) tkF (sa_cons (sv 3) sa_nil)) rfl)))) (sss_cons (ss_as (g := st__law_settling_right_12) rfl (ss_gc 11 (ss_if (st_w (sw_or (st_cmp so_isNot (se_meth (sv 2) (hd_shows F) (hr.mono (by decide)) tkF (sa_cons (sv 3) sa_nil)) se_bl rfl) (sw_or (st_cmp (so_eqO (notf F) (hd_eq F) (hr.mono (by decide))) (sv 2) (se_make (n := 1) (c := 13) (F.mkr 84) (okK_Unsettleddd_initdd F) (hr.mono (by decide)) rfl (F.glo 52) tkF (sa_cons (se_lst sa_nil) sa_nil)) rfl) (sw_or1 (st_not (st_val (se_meth (se_make (n := 1) (c := 12) (F.mkr 85) (okK_Settleddd_initdd F) (hr.mono (by decide)) rfl (F.glo 51) tkF (sa_cons (se_lst sa_nil) sa_nil)) (hd_shows F) (hr.mono (by decide)) tkF (sa_cons (sv 4) sa_nil)))))))) (sss_one (ss_ret se_bl)) sss_nil))) (sss_one (ss_as (g := st__law_settling_right_13) rfl (ss_ret (se_and (se_cmp so_is (se_meth (sC (ok_settle F) hr (F.glo 86) tkF (sa_cons (sv 3) sa_nil)) (hd_shows F) (hr.mono (by decide)) tkF (sa_cons (sv 3) sa_nil)) se_bl rfl) (se_one (se_cmp (so_eqO (notf F) (hd_eq F) (hr.mono (by decide))) (se_make (n := 1) (c := 12) (F.mkr 85) (okK_Settleddd_initdd F) (hr.mono (by decide)) rfl (F.glo 51) tkF (sa_cons (se_lst (sa_cons se_int sa_nil)) sa_nil)) (se_make (n := 1) (c := 12) (F.mkr 85) (okK_Settleddd_initdd F) (hr.mono (by decide)) rfl (F.glo 51) tkF (sa_cons (se_tup (sa_cons se_int sa_nil)) sa_nil)) rfl))))))))))))))))))))
theorem ok__law_settling_right {P : Program} {w : World} {K : PySem.W.Frag} {mg : Str → Option Value} {base : Heap} (F : FX wx K mg) : FnC P w K mg base 10 (He.fAd K ("_law_settling_right", none)) 0 m__law_settling_right := by
  obtain ⟨fd, D⟩ := F.says.def_ 52 (d := dd__law_settling_right) rfl
  exact ⟨⟨fd, _, bo__law_settling_right F D, D.bindsN fun _ _ _ _ _ _ us hl => match us, hl with | [], _ => rfl⟩, D.kp⟩
abbrev N_law : List Str := ["_law_script", "_law_many"]
def b_law : SF := (sSeq (sSet 1 (eBin oMod (eB opInt (aCons (eB (op1 gSum) (aCons (eSl (eVar 0) pNone (pSome (eC (.int 63)))) aNil)) aNil)) (eC (.int 8)))) (sSeq (sIf (tOr (tNot (tVal (eCallE 0 m__law_exchanged_right aNil))) (tNot (tVal (eCallE 1 m__law_large_right (aCons (eBin oMod (eVar 1) (eC (.int 4))) aNil))))) (sRet (eC (.bl false))) sSkip) (sRet (eCallE 0 m__law_settling_right aNil))))
def m_law : FF := (fnS 1 2 b_law)
theorem sc_law : FnScope N_law ["_law_script"] (defScope (tp 61)) := ⟨by rfl, by rfl, by rfl, by decide +kernel, by rfl, by decide +kernel, by decide +kernel⟩
set_option maxHeartbeats 4000000 in
theorem bo_law {P : Program} {w : World} {K : PySem.W.Frag} {mg : Str → Option Value} {base : Heap} (F : FX wx K mg) {f : Addr} {fd : FuncData} (D : FunD K dd_law.name dd_law.qual dd_law.params dd_law.body dd_law.scope (dd_law.dvs K) (dd_law.kws K) f fd) : FnOk P w K mg base (L2.CX P w) 12 f fd ["_law_script"] (spF ⟨K, P, w⟩ 1 m_law) :=
  (fn_sh (np := 1) (ns := 2) (k := 11) (body := b_law) D sc_law rfl rfl fun cdv A outer s H E hr =>
    (sss_cons (sset 1 sc_law.nd (se_bin so_mod (se_callTy cl_int rfl (F.free 4) (by decide +kernel) (sa_cons (se_callB (cl_sum rfl) rfl (F.free 3) (by decide +kernel) (sa_cons (se_sl (sv 0) so_none (so_some se_int)) sa_nil)) sa_nil)) se_int)) (sss_cons (ss_if (st_w (sw_or (st_not (st_val (sCE0 (ok__law_exchanged_right F) hr (F.glo 79) tkF))) (sw_or1 (st_not (st_val (sCE (ok__law_large_right F) hr (F.glo 80) tkF (sa_cons (se_bin so_mod (sv 1) se_int) sa_nil))))))) (sss_one (ss_ret se_bl)) sss_nil) (sss_one (ss_ret (sCE0 (ok__law_settling_right F) hr (F.glo 89) tkF))))))
theorem ok_law {P : Program} {w : World} {K : PySem.W.Frag} {mg : Str → Option Value} {base : Heap} (F : FX wx K mg) : FnC P w K mg base 12 (He.fAd K ("law", none)) 1 m_law := by
  obtain ⟨fd, D⟩ := F.says.def_ 53 (d := dd_law) rfl
  exact ⟨⟨fd, _, bo_law F D, D.bindsN fun _ _ _ _ _ _ us hl => match us, hl with | [_], _ => rfl⟩, D.kp⟩
end K13

namespace K13
open PySem L2 Sh
theorem x__law_exchanged_right_0 : st__law_exchanged_right_0 [none, none, none, none, none, none, none, none] [] = .ok (.nx [none, none, none, some (.ref 0), some (.ref 1), some (.ref 2), none, none]) [.ins 0 [("weights", .tup [.int (1), .int (4)]), ("amounts", .tup [.int (1), .int (2)]), ("kept", .int (1)), ("pick", .str "most"), ("way", .str "ahead")], .ins 0 [("weights", .tup [.int (1), .int (4)]), ("amounts", .tup [.int (1), .int (2)]), ("kept", .int (5)), ("pick", .str "most"), ("way", .str "ahead")], .ins 0 [("weights", .tup [.int (1), .int (4)]), ("amounts", .tup [.int (1), .int (2)]), ("kept", .int (0)), ("pick", .str "most"), ("way", .str "ahead")], .lst [.ref 0, .ref 1, .ref 2]] := nxB_eq (by decide +kernel)
theorem x__law_exchanged_right_1 : st__law_exchanged_right_1 [none, none, none, some (.ref 0), some (.ref 1), some (.ref 2), none, none] [.ins 0 [("weights", .tup [.int (1), .int (4)]), ("amounts", .tup [.int (1), .int (2)]), ("kept", .int (1)), ("pick", .str "most"), ("way", .str "ahead")], .ins 0 [("weights", .tup [.int (1), .int (4)]), ("amounts", .tup [.int (1), .int (2)]), ("kept", .int (5)), ("pick", .str "most"), ("way", .str "ahead")], .ins 0 [("weights", .tup [.int (1), .int (4)]), ("amounts", .tup [.int (1), .int (2)]), ("kept", .int (0)), ("pick", .str "most"), ("way", .str "ahead")], .lst [.ref 0, .ref 1, .ref 2]] = .ok (.nx [none, none, none, some (.ref 0), some (.ref 1), some (.ref 2), none, none]) [.ins 0 [("weights", .tup [.int (1), .int (4)]), ("amounts", .tup [.int (1), .int (2)]), ("kept", .int (1)), ("pick", .str "most"), ("way", .str "ahead")], .ins 0 [("weights", .tup [.int (1), .int (4)]), ("amounts", .tup [.int (1), .int (2)]), ("kept", .int (5)), ("pick", .str "most"), ("way", .str "ahead")], .ins 0 [("weights", .tup [.int (1), .int (4)]), ("amounts", .tup [.int (1), .int (2)]), ("kept", .int (0)), ("pick", .str "most"), ("way", .str "ahead")], .lst [.ref 0, .ref 1, .ref 2]] := nxB_eq (by decide +kernel)
theorem x__law_exchanged_right_2 : st__law_exchanged_right_2 [none, none, none, some (.ref 0), some (.ref 1), some (.ref 2), none, none] [.ins 0 [("weights", .tup [.int (1), .int (4)]), ("amounts", .tup [.int (1), .int (2)]), ("kept", .int (1)), ("pick", .str "most"), ("way", .str "ahead")], .ins 0 [("weights", .tup [.int (1), .int (4)]), ("amounts", .tup [.int (1), .int (2)]), ("kept", .int (5)), ("pick", .str "most"), ("way", .str "ahead")], .ins 0 [("weights", .tup [.int (1), .int (4)]), ("amounts", .tup [.int (1), .int (2)]), ("kept", .int (0)), ("pick", .str "most"), ("way", .str "ahead")], .lst [.ref 0, .ref 1, .ref 2]] = .ok (.nx [none, none, none, some (.ref 0), some (.ref 1), some (.ref 2), none, none]) [.ins 0 [("weights", .tup [.int (1), .int (4)]), ("amounts", .tup [.int (1), .int (2)]), ("kept", .int (1)), ("pick", .str "most"), ("way", .str "ahead")], .ins 0 [("weights", .tup [.int (1), .int (4)]), ("amounts", .tup [.int (1), .int (2)]), ("kept", .int (5)), ("pick", .str "most"), ("way", .str "ahead")], .ins 0 [("weights", .tup [.int (1), .int (4)]), ("amounts", .tup [.int (1), .int (2)]), ("kept", .int (0)), ("pick", .str "most"), ("way", .str "ahead")], .lst [.ref 0, .ref 1, .ref 2]] := nxB_eq (by decide +kernel)
theorem x__law_exchanged_right_3 : st__law_exchanged_right_3 [none, none, none, some (.ref 0), some (.ref 1), some (.ref 2), none, none] [.ins 0 [("weights", .tup [.int (1), .int (4)]), ("amounts", .tup [.int (1), .int (2)]), ("kept", .int (1)), ("pick", .str "most"), ("way", .str "ahead")], .ins 0 [("weights", .tup [.int (1), .int (4)]), ("amounts", .tup [.int (1), .int (2)]), ("kept", .int (5)), ("pick", .str "most"), ("way", .str "ahead")], .ins 0 [("weights", .tup [.int (1), .int (4)]), ("amounts", .tup [.int (1), .int (2)]), ("kept", .int (0)), ("pick", .str "most"), ("way", .str "ahead")], .lst [.ref 0, .ref 1, .ref 2]] = .ok (.nx [none, none, none, some (.ref 0), some (.ref 1), some (.ref 2), none, none]) [.ins 0 [("weights", .tup [.int (1), .int (4)]), ("amounts", .tup [.int (1), .int (2)]), ("kept", .int (1)), ("pick", .str "most"), ("way", .str "ahead")], .ins 0 [("weights", .tup [.int (1), .int (4)]), ("amounts", .tup [.int (1), .int (2)]), ("kept", .int (5)), ("pick", .str "most"), ("way", .str "ahead")], .ins 0 [("weights", .tup [.int (1), .int (4)]), ("amounts", .tup [.int (1), .int (2)]), ("kept", .int (0)), ("pick", .str "most"), ("way", .str "ahead")], .lst [.ref 0, .ref 1, .ref 2]] := nxB_eq (by decide +kernel)
theorem x__law_exchanged_right_4 : st__law_exchanged_right_4 [none, none, none, some (.ref 0), some (.ref 1), some (.ref 2), none, none] [.ins 0 [("weights", .tup [.int (1), .int (4)]), ("amounts", .tup [.int (1), .int (2)]), ("kept", .int (1)), ("pick", .str "most"), ("way", .str "ahead")], .ins 0 [("weights", .tup [.int (1), .int (4)]), ("amounts", .tup [.int (1), .int (2)]), ("kept", .int (5)), ("pick", .str "most"), ("way", .str "ahead")], .ins 0 [("weights", .tup [.int (1), .int (4)]), ("amounts", .tup [.int (1), .int (2)]), ("kept", .int (0)), ("pick", .str "most"), ("way", .str "ahead")], .lst [.ref 0, .ref 1, .ref 2]] = .ok (.nx [none, none, none, some (.ref 0), some (.ref 1), some (.ref 2), none, none]) [.ins 0 [("weights", .tup [.int (1), .int (4)]), ("amounts", .tup [.int (1), .int (2)]), ("kept", .int (1)), ("pick", .str "most"), ("way", .str "ahead")], .ins 0 [("weights", .tup [.int (1), .int (4)]), ("amounts", .tup [.int (1), .int (2)]), ("kept", .int (5)), ("pick", .str "most"), ("way", .str "ahead")], .ins 0 [("weights", .tup [.int (1), .int (4)]), ("amounts", .tup [.int (1), .int (2)]), ("kept", .int (0)), ("pick", .str "most"), ("way", .str "ahead")], .lst [.ref 0, .ref 1, .ref 2]] := nxB_eq (by decide +kernel)
theorem x__law_exchanged_right_5 : st__law_exchanged_right_5 [none, none, none, some (.ref 0), some (.ref 1), some (.ref 2), none, none] [.ins 0 [("weights", .tup [.int (1), .int (4)]), ("amounts", .tup [.int (1), .int (2)]), ("kept", .int (1)), ("pick", .str "most"), ("way", .str "ahead")], .ins 0 [("weights", .tup [.int (1), .int (4)]), ("amounts", .tup [.int (1), .int (2)]), ("kept", .int (5)), ("pick", .str "most"), ("way", .str "ahead")], .ins 0 [("weights", .tup [.int (1), .int (4)]), ("amounts", .tup [.int (1), .int (2)]), ("kept", .int (0)), ("pick", .str "most"), ("way", .str "ahead")], .lst [.ref 0, .ref 1, .ref 2]] = .ok (.nx [none, none, none, some (.ref 0), some (.ref 1), some (.ref 2), none, none]) [.ins 0 [("weights", .tup [.int (1), .int (4)]), ("amounts", .tup [.int (1), .int (2)]), ("kept", .int (1)), ("pick", .str "most"), ("way", .str "ahead")], .ins 0 [("weights", .tup [.int (1), .int (4)]), ("amounts", .tup [.int (1), .int (2)]), ("kept", .int (5)), ("pick", .str "most"), ("way", .str "ahead")], .ins 0 [("weights", .tup [.int (1), .int (4)]), ("amounts", .tup [.int (1), .int (2)]), ("kept", .int (0)), ("pick", .str "most"), ("way", .str "ahead")], .lst [.ref 0, .ref 1, .ref 2]] := nxB_eq (by decide +kernel)
theorem x__law_exchanged_right_6 : st__law_exchanged_right_6 [none, none, none, some (.ref 0), some (.ref 1), some (.ref 2), none, none] [.ins 0 [("weights", .tup [.int (1), .int (4)]), ("amounts", .tup [.int (1), .int (2)]), ("kept", .int (1)), ("pick", .str "most"), ("way", .str "ahead")], .ins 0 [("weights", .tup [.int (1), .int (4)]), ("amounts", .tup [.int (1), .int (2)]), ("kept", .int (5)), ("pick", .str "most"), ("way", .str "ahead")], .ins 0 [("weights", .tup [.int (1), .int (4)]), ("amounts", .tup [.int (1), .int (2)]), ("kept", .int (0)), ("pick", .str "most"), ("way", .str "ahead")], .lst [.ref 0, .ref 1, .ref 2]] = .ok (.nx [none, none, none, some (.ref 0), some (.ref 1), some (.ref 2), none, none]) [.ins 0 [("weights", .tup [.int (1), .int (4)]), ("amounts", .tup [.int (1), .int (2)]), ("kept", .int (1)), ("pick", .str "most"), ("way", .str "ahead")], .ins 0 [("weights", .tup [.int (1), .int (4)]), ("amounts", .tup [.int (1), .int (2)]), ("kept", .int (5)), ("pick", .str "most"), ("way", .str "ahead")], .ins 0 [("weights", .tup [.int (1), .int (4)]), ("amounts", .tup [.int (1), .int (2)]), ("kept", .int (0)), ("pick", .str "most"), ("way", .str "ahead")], .lst [.ref 0, .ref 1, .ref 2]] := nxB_eq (by decide +kernel)
theorem x__law_exchanged_right_7 : st__law_exchanged_right_7 [none, none, none, some (.ref 0), some (.ref 1), some (.ref 2), none, none] [.ins 0 [("weights", .tup [.int (1), .int (4)]), ("amounts", .tup [.int (1), .int (2)]), ("kept", .int (1)), ("pick", .str "most"), ("way", .str "ahead")], .ins 0 [("weights", .tup [.int (1), .int (4)]), ("amounts", .tup [.int (1), .int (2)]), ("kept", .int (5)), ("pick", .str "most"), ("way", .str "ahead")], .ins 0 [("weights", .tup [.int (1), .int (4)]), ("amounts", .tup [.int (1), .int (2)]), ("kept", .int (0)), ("pick", .str "most"), ("way", .str "ahead")], .lst [.ref 0, .ref 1, .ref 2]] = .ok (.nx [some (.ref 4), none, none, some (.ref 0), some (.ref 1), some (.ref 2), none, none]) [.ins 0 [("weights", .tup [.int (1), .int (4)]), ("amounts", .tup [.int (1), .int (2)]), ("kept", .int (1)), ("pick", .str "most"), ("way", .str "ahead")], .ins 0 [("weights", .tup [.int (1), .int (4)]), ("amounts", .tup [.int (1), .int (2)]), ("kept", .int (5)), ("pick", .str "most"), ("way", .str "ahead")], .ins 0 [("weights", .tup [.int (1), .int (4)]), ("amounts", .tup [.int (1), .int (2)]), ("kept", .int (0)), ("pick", .str "most"), ("way", .str "ahead")], .lst [.ref 0, .ref 1, .ref 2], .lst [.tup [.tup [.int (0), .int (0)], .int (1)], .tup [.tup [.int (1), .int (-1)], .int (1)], .tup [.tup [.int (2), .int (-2)], .int (1)], .tup [.tup [.int (-2), .int (2)], .int (0)], .tup [.tup [.int (-1), .int (1)], .int (0)], .tup [.tup [.int (-1), .int (1)], .int (1)]]] := nxB_eq (by decide +kernel)
theorem x__law_exchanged_right_8 : st__law_exchanged_right_8 [some (.ref 4), none, none, some (.ref 0), some (.ref 1), some (.ref 2), none, none] [.ins 0 [("weights", .tup [.int (1), .int (4)]), ("amounts", .tup [.int (1), .int (2)]), ("kept", .int (1)), ("pick", .str "most"), ("way", .str "ahead")], .ins 0 [("weights", .tup [.int (1), .int (4)]), ("amounts", .tup [.int (1), .int (2)]), ("kept", .int (5)), ("pick", .str "most"), ("way", .str "ahead")], .ins 0 [("weights", .tup [.int (1), .int (4)]), ("amounts", .tup [.int (1), .int (2)]), ("kept", .int (0)), ("pick", .str "most"), ("way", .str "ahead")], .lst [.ref 0, .ref 1, .ref 2], .lst [.tup [.tup [.int (0), .int (0)], .int (1)], .tup [.tup [.int (1), .int (-1)], .int (1)], .tup [.tup [.int (2), .int (-2)], .int (1)], .tup [.tup [.int (-2), .int (2)], .int (0)], .tup [.tup [.int (-1), .int (1)], .int (0)], .tup [.tup [.int (-1), .int (1)], .int (1)]]] = .ok (.nx [some (.ref 4), some (.ref 5), none, some (.ref 0), some (.ref 1), some (.ref 2), none, none]) [.ins 0 [("weights", .tup [.int (1), .int (4)]), ("amounts", .tup [.int (1), .int (2)]), ("kept", .int (1)), ("pick", .str "most"), ("way", .str "ahead")], .ins 0 [("weights", .tup [.int (1), .int (4)]), ("amounts", .tup [.int (1), .int (2)]), ("kept", .int (5)), ("pick", .str "most"), ("way", .str "ahead")], .ins 0 [("weights", .tup [.int (1), .int (4)]), ("amounts", .tup [.int (1), .int (2)]), ("kept", .int (0)), ("pick", .str "most"), ("way", .str "ahead")], .lst [.ref 0, .ref 1, .ref 2], .lst [.tup [.tup [.int (0), .int (0)], .int (1)], .tup [.tup [.int (1), .int (-1)], .int (1)], .tup [.tup [.int (2), .int (-2)], .int (1)], .tup [.tup [.int (-2), .int (2)], .int (0)], .tup [.tup [.int (-1), .int (1)], .int (0)], .tup [.tup [.int (-1), .int (1)], .int (1)]], .ins 10 [("states", .ref 6)], .lst [.tup [.tup [.int (0), .int (0)], .int (1)], .tup [.tup [.int (1), .int (-1)], .int (1)], .tup [.tup [.int (2), .int (-2)], .int (1)], .tup [.tup [.int (-2), .int (2)], .int (0)], .tup [.tup [.int (-1), .int (1)], .int (0)], .tup [.tup [.int (-1), .int (1)], .int (1)]]] := nxB_eq (by decide +kernel)
theorem x__law_exchanged_right_9 : st__law_exchanged_right_9 [some (.ref 4), some (.ref 5), none, some (.ref 0), some (.ref 1), some (.ref 2), none, none] [.ins 0 [("weights", .tup [.int (1), .int (4)]), ("amounts", .tup [.int (1), .int (2)]), ("kept", .int (1)), ("pick", .str "most"), ("way", .str "ahead")], .ins 0 [("weights", .tup [.int (1), .int (4)]), ("amounts", .tup [.int (1), .int (2)]), ("kept", .int (5)), ("pick", .str "most"), ("way", .str "ahead")], .ins 0 [("weights", .tup [.int (1), .int (4)]), ("amounts", .tup [.int (1), .int (2)]), ("kept", .int (0)), ("pick", .str "most"), ("way", .str "ahead")], .lst [.ref 0, .ref 1, .ref 2], .lst [.tup [.tup [.int (0), .int (0)], .int (1)], .tup [.tup [.int (1), .int (-1)], .int (1)], .tup [.tup [.int (2), .int (-2)], .int (1)], .tup [.tup [.int (-2), .int (2)], .int (0)], .tup [.tup [.int (-1), .int (1)], .int (0)], .tup [.tup [.int (-1), .int (1)], .int (1)]], .ins 10 [("states", .ref 6)], .lst [.tup [.tup [.int (0), .int (0)], .int (1)], .tup [.tup [.int (1), .int (-1)], .int (1)], .tup [.tup [.int (2), .int (-2)], .int (1)], .tup [.tup [.int (-2), .int (2)], .int (0)], .tup [.tup [.int (-1), .int (1)], .int (0)], .tup [.tup [.int (-1), .int (1)], .int (1)]]] = .ok (.nx [some (.ref 4), some (.ref 5), none, some (.ref 0), some (.ref 1), some (.ref 2), none, none]) [.ins 0 [("weights", .tup [.int (1), .int (4)]), ("amounts", .tup [.int (1), .int (2)]), ("kept", .int (1)), ("pick", .str "most"), ("way", .str "ahead")], .ins 0 [("weights", .tup [.int (1), .int (4)]), ("amounts", .tup [.int (1), .int (2)]), ("kept", .int (5)), ("pick", .str "most"), ("way", .str "ahead")], .ins 0 [("weights", .tup [.int (1), .int (4)]), ("amounts", .tup [.int (1), .int (2)]), ("kept", .int (0)), ("pick", .str "most"), ("way", .str "ahead")], .lst [.ref 0, .ref 1, .ref 2], .lst [.tup [.tup [.int (0), .int (0)], .int (1)], .tup [.tup [.int (1), .int (-1)], .int (1)], .tup [.tup [.int (2), .int (-2)], .int (1)], .tup [.tup [.int (-2), .int (2)], .int (0)], .tup [.tup [.int (-1), .int (1)], .int (0)], .tup [.tup [.int (-1), .int (1)], .int (1)]], .ins 10 [("states", .ref 6)], .lst [.tup [.tup [.int (0), .int (0)], .int (1)], .tup [.tup [.int (1), .int (-1)], .int (1)], .tup [.tup [.int (2), .int (-2)], .int (1)], .tup [.tup [.int (-2), .int (2)], .int (0)], .tup [.tup [.int (-1), .int (1)], .int (0)], .tup [.tup [.int (-1), .int (1)], .int (1)]]] := nxB_eq (by decide +kernel)
theorem x__law_exchanged_right_10 : st__law_exchanged_right_10 [some (.ref 4), some (.ref 5), none, some (.ref 0), some (.ref 1), some (.ref 2), none, none] [.ins 0 [("weights", .tup [.int (1), .int (4)]), ("amounts", .tup [.int (1), .int (2)]), ("kept", .int (1)), ("pick", .str "most"), ("way", .str "ahead")], .ins 0 [("weights", .tup [.int (1), .int (4)]), ("amounts", .tup [.int (1), .int (2)]), ("kept", .int (5)), ("pick", .str "most"), ("way", .str "ahead")], .ins 0 [("weights", .tup [.int (1), .int (4)]), ("amounts", .tup [.int (1), .int (2)]), ("kept", .int (0)), ("pick", .str "most"), ("way", .str "ahead")], .lst [.ref 0, .ref 1, .ref 2], .lst [.tup [.tup [.int (0), .int (0)], .int (1)], .tup [.tup [.int (1), .int (-1)], .int (1)], .tup [.tup [.int (2), .int (-2)], .int (1)], .tup [.tup [.int (-2), .int (2)], .int (0)], .tup [.tup [.int (-1), .int (1)], .int (0)], .tup [.tup [.int (-1), .int (1)], .int (1)]], .ins 10 [("states", .ref 6)], .lst [.tup [.tup [.int (0), .int (0)], .int (1)], .tup [.tup [.int (1), .int (-1)], .int (1)], .tup [.tup [.int (2), .int (-2)], .int (1)], .tup [.tup [.int (-2), .int (2)], .int (0)], .tup [.tup [.int (-1), .int (1)], .int (0)], .tup [.tup [.int (-1), .int (1)], .int (1)]]] = .ok (.nx [some (.ref 4), some (.ref 5), none, some (.ref 0), some (.ref 1), some (.ref 2), none, none]) [.ins 0 [("weights", .tup [.int (1), .int (4)]), ("amounts", .tup [.int (1), .int (2)]), ("kept", .int (1)), ("pick", .str "most"), ("way", .str "ahead")], .ins 0 [("weights", .tup [.int (1), .int (4)]), ("amounts", .tup [.int (1), .int (2)]), ("kept", .int (5)), ("pick", .str "most"), ("way", .str "ahead")], .ins 0 [("weights", .tup [.int (1), .int (4)]), ("amounts", .tup [.int (1), .int (2)]), ("kept", .int (0)), ("pick", .str "most"), ("way", .str "ahead")], .lst [.ref 0, .ref 1, .ref 2], .lst [], .ins 10 [("states", .ref 6)], .lst [.tup [.tup [.int (0), .int (0)], .int (1)], .tup [.tup [.int (1), .int (-1)], .int (1)], .tup [.tup [.int (2), .int (-2)], .int (1)], .tup [.tup [.int (-2), .int (2)], .int (0)], .tup [.tup [.int (-1), .int (1)], .int (0)], .tup [.tup [.int (-1), .int (1)], .int (1)]]] := nxB_eq (by decide +kernel)
theorem x__law_exchanged_right_11 : st__law_exchanged_right_11 [some (.ref 4), some (.ref 5), none, some (.ref 0), some (.ref 1), some (.ref 2), none, none] [.ins 0 [("weights", .tup [.int (1), .int (4)]), ("amounts", .tup [.int (1), .int (2)]), ("kept", .int (1)), ("pick", .str "most"), ("way", .str "ahead")], .ins 0 [("weights", .tup [.int (1), .int (4)]), ("amounts", .tup [.int (1), .int (2)]), ("kept", .int (5)), ("pick", .str "most"), ("way", .str "ahead")], .ins 0 [("weights", .tup [.int (1), .int (4)]), ("amounts", .tup [.int (1), .int (2)]), ("kept", .int (0)), ("pick", .str "most"), ("way", .str "ahead")], .lst [.ref 0, .ref 1, .ref 2], .lst [], .ins 10 [("states", .ref 6)], .lst [.tup [.tup [.int (0), .int (0)], .int (1)], .tup [.tup [.int (1), .int (-1)], .int (1)], .tup [.tup [.int (2), .int (-2)], .int (1)], .tup [.tup [.int (-2), .int (2)], .int (0)], .tup [.tup [.int (-1), .int (1)], .int (0)], .tup [.tup [.int (-1), .int (1)], .int (1)]]] = .ok (.nx [some (.ref 4), some (.ref 5), some (.ref 7), some (.ref 0), some (.ref 1), some (.ref 2), none, none]) [.ins 0 [("weights", .tup [.int (1), .int (4)]), ("amounts", .tup [.int (1), .int (2)]), ("kept", .int (1)), ("pick", .str "most"), ("way", .str "ahead")], .ins 0 [("weights", .tup [.int (1), .int (4)]), ("amounts", .tup [.int (1), .int (2)]), ("kept", .int (5)), ("pick", .str "most"), ("way", .str "ahead")], .ins 0 [("weights", .tup [.int (1), .int (4)]), ("amounts", .tup [.int (1), .int (2)]), ("kept", .int (0)), ("pick", .str "most"), ("way", .str "ahead")], .lst [.ref 0, .ref 1, .ref 2], .lst [], .ins 10 [("states", .ref 6)], .lst [.tup [.tup [.int (0), .int (0)], .int (1)], .tup [.tup [.int (1), .int (-1)], .int (1)], .tup [.tup [.int (2), .int (-2)], .int (1)], .tup [.tup [.int (-2), .int (2)], .int (0)], .tup [.tup [.int (-1), .int (1)], .int (0)], .tup [.tup [.int (-1), .int (1)], .int (1)]], .ins 10 [("states", .ref 8)], .lst [.tup [.tup [.int (0), .int (0)], .int (1)], .tup [.tup [.int (1), .int (-1)], .int (1)], .tup [.tup [.int (2), .int (-2)], .int (1)], .tup [.tup [.int (-2), .int (2)], .int (0)], .tup [.tup [.int (-1), .int (1)], .int (0)], .tup [.tup [.int (-1), .int (1)], .int (1)]]] := nxB_eq (by decide +kernel)
theorem x__law_exchanged_right_12 : st__law_exchanged_right_12 [some (.ref 4), some (.ref 5), some (.ref 7), some (.ref 0), some (.ref 1), some (.ref 2), none, none] [.ins 0 [("weights", .tup [.int (1), .int (4)]), ("amounts", .tup [.int (1), .int (2)]), ("kept", .int (1)), ("pick", .str "most"), ("way", .str "ahead")], .ins 0 [("weights", .tup [.int (1), .int (4)]), ("amounts", .tup [.int (1), .int (2)]), ("kept", .int (5)), ("pick", .str "most"), ("way", .str "ahead")], .ins 0 [("weights", .tup [.int (1), .int (4)]), ("amounts", .tup [.int (1), .int (2)]), ("kept", .int (0)), ("pick", .str "most"), ("way", .str "ahead")], .lst [.ref 0, .ref 1, .ref 2], .lst [], .ins 10 [("states", .ref 6)], .lst [.tup [.tup [.int (0), .int (0)], .int (1)], .tup [.tup [.int (1), .int (-1)], .int (1)], .tup [.tup [.int (2), .int (-2)], .int (1)], .tup [.tup [.int (-2), .int (2)], .int (0)], .tup [.tup [.int (-1), .int (1)], .int (0)], .tup [.tup [.int (-1), .int (1)], .int (1)]], .ins 10 [("states", .ref 8)], .lst [.tup [.tup [.int (0), .int (0)], .int (1)], .tup [.tup [.int (1), .int (-1)], .int (1)], .tup [.tup [.int (2), .int (-2)], .int (1)], .tup [.tup [.int (-2), .int (2)], .int (0)], .tup [.tup [.int (-1), .int (1)], .int (0)], .tup [.tup [.int (-1), .int (1)], .int (1)]]] = .ok (.nx [some (.ref 4), some (.ref 5), some (.ref 7), some (.ref 0), some (.ref 1), some (.ref 2), none, none]) [.ins 0 [("weights", .tup [.int (1), .int (4)]), ("amounts", .tup [.int (1), .int (2)]), ("kept", .int (1)), ("pick", .str "most"), ("way", .str "ahead")], .ins 0 [("weights", .tup [.int (1), .int (4)]), ("amounts", .tup [.int (1), .int (2)]), ("kept", .int (5)), ("pick", .str "most"), ("way", .str "ahead")], .ins 0 [("weights", .tup [.int (1), .int (4)]), ("amounts", .tup [.int (1), .int (2)]), ("kept", .int (0)), ("pick", .str "most"), ("way", .str "ahead")], .lst [.ref 0, .ref 1, .ref 2], .lst [], .ins 10 [("states", .ref 6)], .lst [.tup [.tup [.int (0), .int (0)], .int (1)], .tup [.tup [.int (1), .int (-1)], .int (1)], .tup [.tup [.int (2), .int (-2)], .int (1)], .tup [.tup [.int (-2), .int (2)], .int (0)], .tup [.tup [.int (-1), .int (1)], .int (0)], .tup [.tup [.int (-1), .int (1)], .int (1)]], .ins 10 [("states", .ref 8)], .lst []] := nxB_eq (by decide +kernel)
theorem x__law_exchanged_right_13 : st__law_exchanged_right_13 [some (.ref 4), some (.ref 5), some (.ref 7), some (.ref 0), some (.ref 1), some (.ref 2), none, none] [.ins 0 [("weights", .tup [.int (1), .int (4)]), ("amounts", .tup [.int (1), .int (2)]), ("kept", .int (1)), ("pick", .str "most"), ("way", .str "ahead")], .ins 0 [("weights", .tup [.int (1), .int (4)]), ("amounts", .tup [.int (1), .int (2)]), ("kept", .int (5)), ("pick", .str "most"), ("way", .str "ahead")], .ins 0 [("weights", .tup [.int (1), .int (4)]), ("amounts", .tup [.int (1), .int (2)]), ("kept", .int (0)), ("pick", .str "most"), ("way", .str "ahead")], .lst [.ref 0, .ref 1, .ref 2], .lst [], .ins 10 [("states", .ref 6)], .lst [.tup [.tup [.int (0), .int (0)], .int (1)], .tup [.tup [.int (1), .int (-1)], .int (1)], .tup [.tup [.int (2), .int (-2)], .int (1)], .tup [.tup [.int (-2), .int (2)], .int (0)], .tup [.tup [.int (-1), .int (1)], .int (0)], .tup [.tup [.int (-1), .int (1)], .int (1)]], .ins 10 [("states", .ref 8)], .lst []] = .ok (.nx [some (.ref 4), some (.ref 5), some (.ref 7), some (.ref 0), some (.ref 1), some (.ref 2), none, none]) [.ins 0 [("weights", .tup [.int (1), .int (4)]), ("amounts", .tup [.int (1), .int (2)]), ("kept", .int (1)), ("pick", .str "most"), ("way", .str "ahead")], .ins 0 [("weights", .tup [.int (1), .int (4)]), ("amounts", .tup [.int (1), .int (2)]), ("kept", .int (5)), ("pick", .str "most"), ("way", .str "ahead")], .ins 0 [("weights", .tup [.int (1), .int (4)]), ("amounts", .tup [.int (1), .int (2)]), ("kept", .int (0)), ("pick", .str "most"), ("way", .str "ahead")], .lst [.ref 0, .ref 1, .ref 2], .lst [], .ins 10 [("states", .ref 6)], .lst [.tup [.tup [.int (0), .int (0)], .int (1)], .tup [.tup [.int (1), .int (-1)], .int (1)], .tup [.tup [.int (2), .int (-2)], .int (1)], .tup [.tup [.int (-2), .int (2)], .int (0)], .tup [.tup [.int (-1), .int (1)], .int (0)], .tup [.tup [.int (-1), .int (1)], .int (1)]], .ins 10 [("states", .ref 8)], .lst [], .lst [.int (1)], .lst []] := nxB_eq (by decide +kernel)
theorem x__law_exchanged_right_14 : st__law_exchanged_right_14 [some (.ref 4), some (.ref 5), some (.ref 7), some (.ref 0), some (.ref 1), some (.ref 2), none, none] [.ins 0 [("weights", .tup [.int (1), .int (4)]), ("amounts", .tup [.int (1), .int (2)]), ("kept", .int (1)), ("pick", .str "most"), ("way", .str "ahead")], .ins 0 [("weights", .tup [.int (1), .int (4)]), ("amounts", .tup [.int (1), .int (2)]), ("kept", .int (5)), ("pick", .str "most"), ("way", .str "ahead")], .ins 0 [("weights", .tup [.int (1), .int (4)]), ("amounts", .tup [.int (1), .int (2)]), ("kept", .int (0)), ("pick", .str "most"), ("way", .str "ahead")], .lst [.ref 0, .ref 1, .ref 2], .lst [], .ins 10 [("states", .ref 6)], .lst [.tup [.tup [.int (0), .int (0)], .int (1)], .tup [.tup [.int (1), .int (-1)], .int (1)], .tup [.tup [.int (2), .int (-2)], .int (1)], .tup [.tup [.int (-2), .int (2)], .int (0)], .tup [.tup [.int (-1), .int (1)], .int (0)], .tup [.tup [.int (-1), .int (1)], .int (1)]], .ins 10 [("states", .ref 8)], .lst [], .lst [.int (1)], .lst []] = .ok (.nx [some (.ref 4), some (.ref 5), some (.ref 7), some (.ref 0), some (.ref 1), some (.ref 2), none, none]) [.ins 0 [("weights", .tup [.int (1), .int (4)]), ("amounts", .tup [.int (1), .int (2)]), ("kept", .int (1)), ("pick", .str "most"), ("way", .str "ahead")], .ins 0 [("weights", .tup [.int (1), .int (4)]), ("amounts", .tup [.int (1), .int (2)]), ("kept", .int (5)), ("pick", .str "most"), ("way", .str "ahead")], .ins 0 [("weights", .tup [.int (1), .int (4)]), ("amounts", .tup [.int (1), .int (2)]), ("kept", .int (0)), ("pick", .str "most"), ("way", .str "ahead")], .lst [.ref 0, .ref 1, .ref 2], .lst [], .ins 10 [("states", .ref 6)], .lst [.tup [.tup [.int (0), .int (0)], .int (1)], .tup [.tup [.int (1), .int (-1)], .int (1)], .tup [.tup [.int (2), .int (-2)], .int (1)], .tup [.tup [.int (-2), .int (2)], .int (0)], .tup [.tup [.int (-1), .int (1)], .int (0)], .tup [.tup [.int (-1), .int (1)], .int (1)]], .ins 10 [("states", .ref 8)], .lst [], .lst [.int (1)], .lst []] := nxB_eq (by decide +kernel)
theorem x__law_exchanged_right_15 : rtT (st__law_exchanged_right_15 [some (.ref 4), some (.ref 5), some (.ref 7), some (.ref 0), some (.ref 1), some (.ref 2), none, none] [.ins 0 [("weights", .tup [.int (1), .int (4)]), ("amounts", .tup [.int (1), .int (2)]), ("kept", .int (1)), ("pick", .str "most"), ("way", .str "ahead")], .ins 0 [("weights", .tup [.int (1), .int (4)]), ("amounts", .tup [.int (1), .int (2)]), ("kept", .int (5)), ("pick", .str "most"), ("way", .str "ahead")], .ins 0 [("weights", .tup [.int (1), .int (4)]), ("amounts", .tup [.int (1), .int (2)]), ("kept", .int (0)), ("pick", .str "most"), ("way", .str "ahead")], .lst [.ref 0, .ref 1, .ref 2], .lst [], .ins 10 [("states", .ref 6)], .lst [.tup [.tup [.int (0), .int (0)], .int (1)], .tup [.tup [.int (1), .int (-1)], .int (1)], .tup [.tup [.int (2), .int (-2)], .int (1)], .tup [.tup [.int (-2), .int (2)], .int (0)], .tup [.tup [.int (-1), .int (1)], .int (0)], .tup [.tup [.int (-1), .int (1)], .int (1)]], .ins 10 [("states", .ref 8)], .lst [], .lst [.int (1)], .lst []]) = true := by decide +kernel
theorem t__law_exchanged_right : isTrueR (m__law_exchanged_right [] []) = true := by
  obtain ⟨M, h⟩ := rtT_ex x__law_exchanged_right_15
  exact fnP_true rfl rfl (M := M) (fnS_true ((seq_nx x__law_exchanged_right_0).trans ((seq_nx x__law_exchanged_right_1).trans ((seq_nx x__law_exchanged_right_2).trans ((seq_nx x__law_exchanged_right_3).trans ((seq_nx x__law_exchanged_right_4).trans ((seq_nx x__law_exchanged_right_5).trans ((seq_nx x__law_exchanged_right_6).trans ((seq_nx x__law_exchanged_right_7).trans ((seq_nx x__law_exchanged_right_8).trans ((seq_nx x__law_exchanged_right_9).trans ((seq_nx x__law_exchanged_right_10).trans ((seq_nx x__law_exchanged_right_11).trans ((seq_nx x__law_exchanged_right_12).trans ((seq_nx x__law_exchanged_right_13).trans ((seq_nx x__law_exchanged_right_14).trans h))))))))))))))))
theorem x__law_large_right_0_0 : st__law_large_right_0 [some (.int (0)), none] [] = .ok (.nx [some (.int (0)), some (.ref 0)]) [.ins 0 [("weights", .tup [.int (1), .int (4)]), ("amounts", .tup [.int (1), .int (2)]), ("kept", .int (1)), ("pick", .str "most"), ("way", .str "ahead")]] := nxB_eq (by decide +kernel)
theorem x__law_large_right_0_1 : st__law_large_right_1 [some (.int (0)), some (.ref 0)] [.ins 0 [("weights", .tup [.int (1), .int (4)]), ("amounts", .tup [.int (1), .int (2)]), ("kept", .int (1)), ("pick", .str "most"), ("way", .str "ahead")]] = .ok (.nx [some (.int (0)), some (.ref 0)]) [.ins 0 [("weights", .tup [.int (1), .int (4)]), ("amounts", .tup [.int (1), .int (2)]), ("kept", .int (1)), ("pick", .str "most"), ("way", .str "ahead")]] := nxB_eq (by decide +kernel)
theorem x__law_large_right_0_2 : rtT (st__law_large_right_2 [some (.int (0)), some (.ref 0)] [.ins 0 [("weights", .tup [.int (1), .int (4)]), ("amounts", .tup [.int (1), .int (2)]), ("kept", .int (1)), ("pick", .str "most"), ("way", .str "ahead")]]) = true := by decide +kernel
theorem t__law_large_right_0 : isTrueR (m__law_large_right [.int 0] []) = true := by
  obtain ⟨M, h⟩ := rtT_ex x__law_large_right_0_2
  exact fnP_true rfl rfl (M := M) (fnS_true ((seq_nx x__law_large_right_0_0).trans ((seq_nx x__law_large_right_0_1).trans h)))
theorem x__law_large_right_1_0 : st__law_large_right_0 [some (.int (1)), none] [] = .ok (.nx [some (.int (1)), some (.ref 0)]) [.ins 0 [("weights", .tup [.int (1), .int (4)]), ("amounts", .tup [.int (1), .int (2)]), ("kept", .int (1)), ("pick", .str "most"), ("way", .str "ahead")]] := nxB_eq (by decide +kernel)
theorem x__law_large_right_1_1 : st__law_large_right_1 [some (.int (1)), some (.ref 0)] [.ins 0 [("weights", .tup [.int (1), .int (4)]), ("amounts", .tup [.int (1), .int (2)]), ("kept", .int (1)), ("pick", .str "most"), ("way", .str "ahead")]] = .ok (.nx [some (.int (1)), some (.ref 0)]) [.ins 0 [("weights", .tup [.int (1), .int (4)]), ("amounts", .tup [.int (1), .int (2)]), ("kept", .int (1)), ("pick", .str "most"), ("way", .str "ahead")]] := nxB_eq (by decide +kernel)
theorem x__law_large_right_1_2 : rtT (st__law_large_right_2 [some (.int (1)), some (.ref 0)] [.ins 0 [("weights", .tup [.int (1), .int (4)]), ("amounts", .tup [.int (1), .int (2)]), ("kept", .int (1)), ("pick", .str "most"), ("way", .str "ahead")]]) = true := by decide +kernel
theorem t__law_large_right_1 : isTrueR (m__law_large_right [.int 1] []) = true := by
  obtain ⟨M, h⟩ := rtT_ex x__law_large_right_1_2
  exact fnP_true rfl rfl (M := M) (fnS_true ((seq_nx x__law_large_right_1_0).trans ((seq_nx x__law_large_right_1_1).trans h)))
theorem x__law_large_right_2_0 : st__law_large_right_0 [some (.int (2)), none] [] = .ok (.nx [some (.int (2)), some (.ref 0)]) [.ins 0 [("weights", .tup [.int (1), .int (4)]), ("amounts", .tup [.int (1), .int (2)]), ("kept", .int (1)), ("pick", .str "most"), ("way", .str "ahead")]] := nxB_eq (by decide +kernel)
theorem x__law_large_right_2_1 : st__law_large_right_1 [some (.int (2)), some (.ref 0)] [.ins 0 [("weights", .tup [.int (1), .int (4)]), ("amounts", .tup [.int (1), .int (2)]), ("kept", .int (1)), ("pick", .str "most"), ("way", .str "ahead")]] = .ok (.nx [some (.int (2)), some (.ref 0)]) [.ins 0 [("weights", .tup [.int (1), .int (4)]), ("amounts", .tup [.int (1), .int (2)]), ("kept", .int (1)), ("pick", .str "most"), ("way", .str "ahead")]] := nxB_eq (by decide +kernel)
theorem x__law_large_right_2_2 : rtT (st__law_large_right_2 [some (.int (2)), some (.ref 0)] [.ins 0 [("weights", .tup [.int (1), .int (4)]), ("amounts", .tup [.int (1), .int (2)]), ("kept", .int (1)), ("pick", .str "most"), ("way", .str "ahead")]]) = true := by decide +kernel
theorem t__law_large_right_2 : isTrueR (m__law_large_right [.int 2] []) = true := by
  obtain ⟨M, h⟩ := rtT_ex x__law_large_right_2_2
  exact fnP_true rfl rfl (M := M) (fnS_true ((seq_nx x__law_large_right_2_0).trans ((seq_nx x__law_large_right_2_1).trans h)))
theorem x__law_large_right_3_0 : st__law_large_right_0 [some (.int (3)), none] [] = .ok (.nx [some (.int (3)), some (.ref 0)]) [.ins 0 [("weights", .tup [.int (1), .int (4)]), ("amounts", .tup [.int (1), .int (2)]), ("kept", .int (1)), ("pick", .str "most"), ("way", .str "ahead")]] := nxB_eq (by decide +kernel)
theorem x__law_large_right_3_1 : st__law_large_right_1 [some (.int (3)), some (.ref 0)] [.ins 0 [("weights", .tup [.int (1), .int (4)]), ("amounts", .tup [.int (1), .int (2)]), ("kept", .int (1)), ("pick", .str "most"), ("way", .str "ahead")]] = .ok (.nx [some (.int (3)), some (.ref 0)]) [.ins 0 [("weights", .tup [.int (1), .int (4)]), ("amounts", .tup [.int (1), .int (2)]), ("kept", .int (1)), ("pick", .str "most"), ("way", .str "ahead")]] := nxB_eq (by decide +kernel)
theorem x__law_large_right_3_2 : rtT (st__law_large_right_2 [some (.int (3)), some (.ref 0)] [.ins 0 [("weights", .tup [.int (1), .int (4)]), ("amounts", .tup [.int (1), .int (2)]), ("kept", .int (1)), ("pick", .str "most"), ("way", .str "ahead")]]) = true := by decide +kernel
theorem t__law_large_right_3 : isTrueR (m__law_large_right [.int 3] []) = true := by
  obtain ⟨M, h⟩ := rtT_ex x__law_large_right_3_2
  exact fnP_true rfl rfl (M := M) (fnS_true ((seq_nx x__law_large_right_3_0).trans ((seq_nx x__law_large_right_3_1).trans h)))
theorem x__law_settling_right_0 : st__law_settling_right_0 [none, none, none, none, none, none, none, none, none, none, none] [] = .ok (.nx [none, none, none, some (.ref 0), some (.ref 1), some (.tup [.tup [.int (0), .int (0)], .int (1)]), some (.tup [.tup [.int (1), .int (-1)], .int (1)]), some (.tup [.tup [.int (-1), .int (1)], .int (0)]), none, none, none]) [.ins 0 [("weights", .tup [.int (1), .int (2)]), ("amounts", .tup [.int (1)]), ("kept", .int (3)), ("pick", .str "most"), ("way", .str "ahead")], .ins 0 [("weights", .tup [.int (1), .int (2)]), ("amounts", .tup [.int (1)]), ("kept", .int (0)), ("pick", .str "most"), ("way", .str "ahead")]] := nxB_eq (by decide +kernel)
theorem x__law_settling_right_1 : st__law_settling_right_1 [none, none, none, some (.ref 0), some (.ref 1), some (.tup [.tup [.int (0), .int (0)], .int (1)]), some (.tup [.tup [.int (1), .int (-1)], .int (1)]), some (.tup [.tup [.int (-1), .int (1)], .int (0)]), none, none, none] [.ins 0 [("weights", .tup [.int (1), .int (2)]), ("amounts", .tup [.int (1)]), ("kept", .int (3)), ("pick", .str "most"), ("way", .str "ahead")], .ins 0 [("weights", .tup [.int (1), .int (2)]), ("amounts", .tup [.int (1)]), ("kept", .int (0)), ("pick", .str "most"), ("way", .str "ahead")]] = .ok (.nx [some (.ref 2), none, none, some (.ref 0), some (.ref 1), some (.tup [.tup [.int (0), .int (0)], .int (1)]), some (.tup [.tup [.int (1), .int (-1)], .int (1)]), some (.tup [.tup [.int (-1), .int (1)], .int (0)]), none, none, none]) [.ins 0 [("weights", .tup [.int (1), .int (2)]), ("amounts", .tup [.int (1)]), ("kept", .int (3)), ("pick", .str "most"), ("way", .str "ahead")], .ins 0 [("weights", .tup [.int (1), .int (2)]), ("amounts", .tup [.int (1)]), ("kept", .int (0)), ("pick", .str "most"), ("way", .str "ahead")], .ins 0 [("weights", .tup [.int (1), .int (1)]), ("amounts", .tup [.int (1), .int (2)]), ("kept", .int (0)), ("pick", .str "most"), ("way", .str "ahead")]] := nxB_eq (by decide +kernel)
theorem x__law_settling_right_2 : st__law_settling_right_2 [some (.ref 2), none, none, some (.ref 0), some (.ref 1), some (.tup [.tup [.int (0), .int (0)], .int (1)]), some (.tup [.tup [.int (1), .int (-1)], .int (1)]), some (.tup [.tup [.int (-1), .int (1)], .int (0)]), none, none, none] [.ins 0 [("weights", .tup [.int (1), .int (2)]), ("amounts", .tup [.int (1)]), ("kept", .int (3)), ("pick", .str "most"), ("way", .str "ahead")], .ins 0 [("weights", .tup [.int (1), .int (2)]), ("amounts", .tup [.int (1)]), ("kept", .int (0)), ("pick", .str "most"), ("way", .str "ahead")], .ins 0 [("weights", .tup [.int (1), .int (1)]), ("amounts", .tup [.int (1), .int (2)]), ("kept", .int (0)), ("pick", .str "most"), ("way", .str "ahead")]] = .ok (.nx [some (.ref 2), none, none, some (.ref 0), some (.ref 1), some (.tup [.tup [.int (0), .int (0)], .int (1)]), some (.tup [.tup [.int (1), .int (-1)], .int (1)]), some (.tup [.tup [.int (-1), .int (1)], .int (0)]), none, none, none]) [.ins 0 [("weights", .tup [.int (1), .int (2)]), ("amounts", .tup [.int (1)]), ("kept", .int (3)), ("pick", .str "most"), ("way", .str "ahead")], .ins 0 [("weights", .tup [.int (1), .int (2)]), ("amounts", .tup [.int (1)]), ("kept", .int (0)), ("pick", .str "most"), ("way", .str "ahead")], .ins 0 [("weights", .tup [.int (1), .int (1)]), ("amounts", .tup [.int (1), .int (2)]), ("kept", .int (0)), ("pick", .str "most"), ("way", .str "ahead")]] := nxB_eq (by decide +kernel)
theorem x__law_settling_right_3 : st__law_settling_right_3 [some (.ref 2), none, none, some (.ref 0), some (.ref 1), some (.tup [.tup [.int (0), .int (0)], .int (1)]), some (.tup [.tup [.int (1), .int (-1)], .int (1)]), some (.tup [.tup [.int (-1), .int (1)], .int (0)]), none, none, none] [.ins 0 [("weights", .tup [.int (1), .int (2)]), ("amounts", .tup [.int (1)]), ("kept", .int (3)), ("pick", .str "most"), ("way", .str "ahead")], .ins 0 [("weights", .tup [.int (1), .int (2)]), ("amounts", .tup [.int (1)]), ("kept", .int (0)), ("pick", .str "most"), ("way", .str "ahead")], .ins 0 [("weights", .tup [.int (1), .int (1)]), ("amounts", .tup [.int (1), .int (2)]), ("kept", .int (0)), ("pick", .str "most"), ("way", .str "ahead")]] = .ok (.nx [some (.ref 2), none, none, some (.ref 0), some (.ref 1), some (.tup [.tup [.int (0), .int (0)], .int (1)]), some (.tup [.tup [.int (1), .int (-1)], .int (1)]), some (.tup [.tup [.int (-1), .int (1)], .int (0)]), none, none, none]) [.ins 0 [("weights", .tup [.int (1), .int (2)]), ("amounts", .tup [.int (1)]), ("kept", .int (3)), ("pick", .str "most"), ("way", .str "ahead")], .ins 0 [("weights", .tup [.int (1), .int (2)]), ("amounts", .tup [.int (1)]), ("kept", .int (0)), ("pick", .str "most"), ("way", .str "ahead")], .ins 0 [("weights", .tup [.int (1), .int (1)]), ("amounts", .tup [.int (1), .int (2)]), ("kept", .int (0)), ("pick", .str "most"), ("way", .str "ahead")]] := nxB_eq (by decide +kernel)
theorem x__law_settling_right_4 : st__law_settling_right_4 [some (.ref 2), none, none, some (.ref 0), some (.ref 1), some (.tup [.tup [.int (0), .int (0)], .int (1)]), some (.tup [.tup [.int (1), .int (-1)], .int (1)]), some (.tup [.tup [.int (-1), .int (1)], .int (0)]), none, none, none] [.ins 0 [("weights", .tup [.int (1), .int (2)]), ("amounts", .tup [.int (1)]), ("kept", .int (3)), ("pick", .str "most"), ("way", .str "ahead")], .ins 0 [("weights", .tup [.int (1), .int (2)]), ("amounts", .tup [.int (1)]), ("kept", .int (0)), ("pick", .str "most"), ("way", .str "ahead")], .ins 0 [("weights", .tup [.int (1), .int (1)]), ("amounts", .tup [.int (1), .int (2)]), ("kept", .int (0)), ("pick", .str "most"), ("way", .str "ahead")]] = .ok (.nx [some (.ref 2), some (.ref 3), none, some (.ref 0), some (.ref 1), some (.tup [.tup [.int (0), .int (0)], .int (1)]), some (.tup [.tup [.int (1), .int (-1)], .int (1)]), some (.tup [.tup [.int (-1), .int (1)], .int (0)]), none, none, none]) [.ins 0 [("weights", .tup [.int (1), .int (2)]), ("amounts", .tup [.int (1)]), ("kept", .int (3)), ("pick", .str "most"), ("way", .str "ahead")], .ins 0 [("weights", .tup [.int (1), .int (2)]), ("amounts", .tup [.int (1)]), ("kept", .int (0)), ("pick", .str "most"), ("way", .str "ahead")], .ins 0 [("weights", .tup [.int (1), .int (1)]), ("amounts", .tup [.int (1), .int (2)]), ("kept", .int (0)), ("pick", .str "most"), ("way", .str "ahead")], .lst [.tup [.tup [.tup [.int (0), .int (0)], .int (1)], .tup [.tup [.int (1), .int (-1)], .int (1)]], .tup [.tup [.tup [.int (1), .int (-1)], .int (1)], .tup [.tup [.int (-1), .int (1)], .int (0)]], .tup [.tup [.tup [.int (-1), .int (1)], .int (0)], .tup [.tup [.int (0), .int (0)], .int (1)]]]] := nxB_eq (by decide +kernel)
theorem x__law_settling_right_5 : st__law_settling_right_5 [some (.ref 2), some (.ref 3), none, some (.ref 0), some (.ref 1), some (.tup [.tup [.int (0), .int (0)], .int (1)]), some (.tup [.tup [.int (1), .int (-1)], .int (1)]), some (.tup [.tup [.int (-1), .int (1)], .int (0)]), none, none, none] [.ins 0 [("weights", .tup [.int (1), .int (2)]), ("amounts", .tup [.int (1)]), ("kept", .int (3)), ("pick", .str "most"), ("way", .str "ahead")], .ins 0 [("weights", .tup [.int (1), .int (2)]), ("amounts", .tup [.int (1)]), ("kept", .int (0)), ("pick", .str "most"), ("way", .str "ahead")], .ins 0 [("weights", .tup [.int (1), .int (1)]), ("amounts", .tup [.int (1), .int (2)]), ("kept", .int (0)), ("pick", .str "most"), ("way", .str "ahead")], .lst [.tup [.tup [.tup [.int (0), .int (0)], .int (1)], .tup [.tup [.int (1), .int (-1)], .int (1)]], .tup [.tup [.tup [.int (1), .int (-1)], .int (1)], .tup [.tup [.int (-1), .int (1)], .int (0)]], .tup [.tup [.tup [.int (-1), .int (1)], .int (0)], .tup [.tup [.int (0), .int (0)], .int (1)]]]] = .ok (.nx [some (.ref 2), some (.ref 3), none, some (.ref 0), some (.ref 1), some (.tup [.tup [.int (0), .int (0)], .int (1)]), some (.tup [.tup [.int (1), .int (-1)], .int (1)]), some (.tup [.tup [.int (-1), .int (1)], .int (0)]), none, none, none]) [.ins 0 [("weights", .tup [.int (1), .int (2)]), ("amounts", .tup [.int (1)]), ("kept", .int (3)), ("pick", .str "most"), ("way", .str "ahead")], .ins 0 [("weights", .tup [.int (1), .int (2)]), ("amounts", .tup [.int (1)]), ("kept", .int (0)), ("pick", .str "most"), ("way", .str "ahead")], .ins 0 [("weights", .tup [.int (1), .int (1)]), ("amounts", .tup [.int (1), .int (2)]), ("kept", .int (0)), ("pick", .str "most"), ("way", .str "ahead")], .lst [.tup [.tup [.tup [.int (0), .int (0)], .int (1)], .tup [.tup [.int (1), .int (-1)], .int (1)]], .tup [.tup [.tup [.int (1), .int (-1)], .int (1)], .tup [.tup [.int (-1), .int (1)], .int (0)]], .tup [.tup [.tup [.int (-1), .int (1)], .int (0)], .tup [.tup [.int (0), .int (0)], .int (1)]]]] := nxB_eq (by decide +kernel)
theorem x__law_settling_right_6 : st__law_settling_right_6 [some (.ref 2), some (.ref 3), none, some (.ref 0), some (.ref 1), some (.tup [.tup [.int (0), .int (0)], .int (1)]), some (.tup [.tup [.int (1), .int (-1)], .int (1)]), some (.tup [.tup [.int (-1), .int (1)], .int (0)]), none, none, none] [.ins 0 [("weights", .tup [.int (1), .int (2)]), ("amounts", .tup [.int (1)]), ("kept", .int (3)), ("pick", .str "most"), ("way", .str "ahead")], .ins 0 [("weights", .tup [.int (1), .int (2)]), ("amounts", .tup [.int (1)]), ("kept", .int (0)), ("pick", .str "most"), ("way", .str "ahead")], .ins 0 [("weights", .tup [.int (1), .int (1)]), ("amounts", .tup [.int (1), .int (2)]), ("kept", .int (0)), ("pick", .str "most"), ("way", .str "ahead")], .lst [.tup [.tup [.tup [.int (0), .int (0)], .int (1)], .tup [.tup [.int (1), .int (-1)], .int (1)]], .tup [.tup [.tup [.int (1), .int (-1)], .int (1)], .tup [.tup [.int (-1), .int (1)], .int (0)]], .tup [.tup [.tup [.int (-1), .int (1)], .int (0)], .tup [.tup [.int (0), .int (0)], .int (1)]]]] = .ok (.nx [some (.ref 2), some (.ref 3), none, some (.ref 0), some (.ref 1), some (.tup [.tup [.int (0), .int (0)], .int (1)]), some (.tup [.tup [.int (1), .int (-1)], .int (1)]), some (.tup [.tup [.int (-1), .int (1)], .int (0)]), none, none, none]) [.ins 0 [("weights", .tup [.int (1), .int (2)]), ("amounts", .tup [.int (1)]), ("kept", .int (3)), ("pick", .str "most"), ("way", .str "ahead")], .ins 0 [("weights", .tup [.int (1), .int (2)]), ("amounts", .tup [.int (1)]), ("kept", .int (0)), ("pick", .str "most"), ("way", .str "ahead")], .ins 0 [("weights", .tup [.int (1), .int (1)]), ("amounts", .tup [.int (1), .int (2)]), ("kept", .int (0)), ("pick", .str "most"), ("way", .str "ahead")], .lst [.tup [.tup [.tup [.int (0), .int (0)], .int (1)], .tup [.tup [.int (1), .int (-1)], .int (1)]], .tup [.tup [.tup [.int (1), .int (-1)], .int (1)], .tup [.tup [.int (-1), .int (1)], .int (0)]], .tup [.tup [.tup [.int (-1), .int (1)], .int (0)], .tup [.tup [.int (0), .int (0)], .int (1)]]]] := nxB_eq (by decide +kernel)
theorem x__law_settling_right_7 : st__law_settling_right_7 [some (.ref 2), some (.ref 3), none, some (.ref 0), some (.ref 1), some (.tup [.tup [.int (0), .int (0)], .int (1)]), some (.tup [.tup [.int (1), .int (-1)], .int (1)]), some (.tup [.tup [.int (-1), .int (1)], .int (0)]), none, none, none] [.ins 0 [("weights", .tup [.int (1), .int (2)]), ("amounts", .tup [.int (1)]), ("kept", .int (3)), ("pick", .str "most"), ("way", .str "ahead")], .ins 0 [("weights", .tup [.int (1), .int (2)]), ("amounts", .tup [.int (1)]), ("kept", .int (0)), ("pick", .str "most"), ("way", .str "ahead")], .ins 0 [("weights", .tup [.int (1), .int (1)]), ("amounts", .tup [.int (1), .int (2)]), ("kept", .int (0)), ("pick", .str "most"), ("way", .str "ahead")], .lst [.tup [.tup [.tup [.int (0), .int (0)], .int (1)], .tup [.tup [.int (1), .int (-1)], .int (1)]], .tup [.tup [.tup [.int (1), .int (-1)], .int (1)], .tup [.tup [.int (-1), .int (1)], .int (0)]], .tup [.tup [.tup [.int (-1), .int (1)], .int (0)], .tup [.tup [.int (0), .int (0)], .int (1)]]]] = .ok (.nx [some (.ref 2), some (.ref 3), none, some (.ref 0), some (.ref 1), some (.tup [.tup [.int (0), .int (0)], .int (1)]), some (.tup [.tup [.int (1), .int (-1)], .int (1)]), some (.tup [.tup [.int (-1), .int (1)], .int (0)]), none, none, none]) [.ins 0 [("weights", .tup [.int (1), .int (2)]), ("amounts", .tup [.int (1)]), ("kept", .int (3)), ("pick", .str "most"), ("way", .str "ahead")], .ins 0 [("weights", .tup [.int (1), .int (2)]), ("amounts", .tup [.int (1)]), ("kept", .int (0)), ("pick", .str "most"), ("way", .str "ahead")], .ins 0 [("weights", .tup [.int (1), .int (1)]), ("amounts", .tup [.int (1), .int (2)]), ("kept", .int (0)), ("pick", .str "most"), ("way", .str "ahead")], .lst [.tup [.tup [.tup [.int (0), .int (0)], .int (1)], .tup [.tup [.int (1), .int (-1)], .int (1)]], .tup [.tup [.tup [.int (1), .int (-1)], .int (1)], .tup [.tup [.int (-1), .int (1)], .int (0)]], .tup [.tup [.tup [.int (-1), .int (1)], .int (0)], .tup [.tup [.int (0), .int (0)], .int (1)]]]] := nxB_eq (by decide +kernel)
theorem x__law_settling_right_8 : st__law_settling_right_8 [some (.ref 2), some (.ref 3), none, some (.ref 0), some (.ref 1), some (.tup [.tup [.int (0), .int (0)], .int (1)]), some (.tup [.tup [.int (1), .int (-1)], .int (1)]), some (.tup [.tup [.int (-1), .int (1)], .int (0)]), none, none, none] [.ins 0 [("weights", .tup [.int (1), .int (2)]), ("amounts", .tup [.int (1)]), ("kept", .int (3)), ("pick", .str "most"), ("way", .str "ahead")], .ins 0 [("weights", .tup [.int (1), .int (2)]), ("amounts", .tup [.int (1)]), ("kept", .int (0)), ("pick", .str "most"), ("way", .str "ahead")], .ins 0 [("weights", .tup [.int (1), .int (1)]), ("amounts", .tup [.int (1), .int (2)]), ("kept", .int (0)), ("pick", .str "most"), ("way", .str "ahead")], .lst [.tup [.tup [.tup [.int (0), .int (0)], .int (1)], .tup [.tup [.int (1), .int (-1)], .int (1)]], .tup [.tup [.tup [.int (1), .int (-1)], .int (1)], .tup [.tup [.int (-1), .int (1)], .int (0)]], .tup [.tup [.tup [.int (-1), .int (1)], .int (0)], .tup [.tup [.int (0), .int (0)], .int (1)]]]] = .ok (.nx [some (.ref 2), some (.ref 3), none, some (.ref 0), some (.ref 1), some (.tup [.tup [.int (0), .int (0)], .int (1)]), some (.tup [.tup [.int (1), .int (-1)], .int (1)]), some (.tup [.tup [.int (-1), .int (1)], .int (0)]), none, none, none]) [.ins 0 [("weights", .tup [.int (1), .int (2)]), ("amounts", .tup [.int (1)]), ("kept", .int (3)), ("pick", .str "most"), ("way", .str "ahead")], .ins 0 [("weights", .tup [.int (1), .int (2)]), ("amounts", .tup [.int (1)]), ("kept", .int (0)), ("pick", .str "most"), ("way", .str "ahead")], .ins 0 [("weights", .tup [.int (1), .int (1)]), ("amounts", .tup [.int (1), .int (2)]), ("kept", .int (0)), ("pick", .str "most"), ("way", .str "ahead")], .lst [.tup [.tup [.tup [.int (0), .int (0)], .int (1)], .tup [.tup [.int (1), .int (-1)], .int (1)]], .tup [.tup [.tup [.int (1), .int (-1)], .int (1)], .tup [.tup [.int (-1), .int (1)], .int (0)]], .tup [.tup [.tup [.int (-1), .int (1)], .int (0)], .tup [.tup [.int (0), .int (0)], .int (1)]]]] := nxB_eq (by decide +kernel)
theorem x__law_settling_right_9 : st__law_settling_right_9 [some (.ref 2), some (.ref 3), none, some (.ref 0), some (.ref 1), some (.tup [.tup [.int (0), .int (0)], .int (1)]), some (.tup [.tup [.int (1), .int (-1)], .int (1)]), some (.tup [.tup [.int (-1), .int (1)], .int (0)]), none, none, none] [.ins 0 [("weights", .tup [.int (1), .int (2)]), ("amounts", .tup [.int (1)]), ("kept", .int (3)), ("pick", .str "most"), ("way", .str "ahead")], .ins 0 [("weights", .tup [.int (1), .int (2)]), ("amounts", .tup [.int (1)]), ("kept", .int (0)), ("pick", .str "most"), ("way", .str "ahead")], .ins 0 [("weights", .tup [.int (1), .int (1)]), ("amounts", .tup [.int (1), .int (2)]), ("kept", .int (0)), ("pick", .str "most"), ("way", .str "ahead")], .lst [.tup [.tup [.tup [.int (0), .int (0)], .int (1)], .tup [.tup [.int (1), .int (-1)], .int (1)]], .tup [.tup [.tup [.int (1), .int (-1)], .int (1)], .tup [.tup [.int (-1), .int (1)], .int (0)]], .tup [.tup [.tup [.int (-1), .int (1)], .int (0)], .tup [.tup [.int (0), .int (0)], .int (1)]]]] = .ok (.nx [some (.ref 2), some (.ref 3), some (.ref 4), some (.ref 0), some (.ref 1), some (.tup [.tup [.int (0), .int (0)], .int (1)]), some (.tup [.tup [.int (1), .int (-1)], .int (1)]), some (.tup [.tup [.int (-1), .int (1)], .int (0)]), none, none, none]) [.ins 0 [("weights", .tup [.int (1), .int (2)]), ("amounts", .tup [.int (1)]), ("kept", .int (3)), ("pick", .str "most"), ("way", .str "ahead")], .ins 0 [("weights", .tup [.int (1), .int (2)]), ("amounts", .tup [.int (1)]), ("kept", .int (0)), ("pick", .str "most"), ("way", .str "ahead")], .ins 0 [("weights", .tup [.int (1), .int (1)]), ("amounts", .tup [.int (1), .int (2)]), ("kept", .int (0)), ("pick", .str "most"), ("way", .str "ahead")], .lst [.tup [.tup [.tup [.int (0), .int (0)], .int (1)], .tup [.tup [.int (1), .int (-1)], .int (1)]], .tup [.tup [.tup [.int (1), .int (-1)], .int (1)], .tup [.tup [.int (-1), .int (1)], .int (0)]], .tup [.tup [.tup [.int (-1), .int (1)], .int (0)], .tup [.tup [.int (0), .int (0)], .int (1)]]], .ins 13 [("pairs", .ref 5)], .lst [.tup [.tup [.tup [.int (0), .int (0)], .int (1)], .tup [.tup [.int (1), .int (-1)], .int (1)]], .tup [.tup [.tup [.int (1), .int (-1)], .int (1)], .tup [.tup [.int (-1), .int (1)], .int (0)]], .tup [.tup [.tup [.int (-1), .int (1)], .int (0)], .tup [.tup [.int (0), .int (0)], .int (1)]]]] := nxB_eq (by decide +kernel)
theorem x__law_settling_right_10 : st__law_settling_right_10 [some (.ref 2), some (.ref 3), some (.ref 4), some (.ref 0), some (.ref 1), some (.tup [.tup [.int (0), .int (0)], .int (1)]), some (.tup [.tup [.int (1), .int (-1)], .int (1)]), some (.tup [.tup [.int (-1), .int (1)], .int (0)]), none, none, none] [.ins 0 [("weights", .tup [.int (1), .int (2)]), ("amounts", .tup [.int (1)]), ("kept", .int (3)), ("pick", .str "most"), ("way", .str "ahead")], .ins 0 [("weights", .tup [.int (1), .int (2)]), ("amounts", .tup [.int (1)]), ("kept", .int (0)), ("pick", .str "most"), ("way", .str "ahead")], .ins 0 [("weights", .tup [.int (1), .int (1)]), ("amounts", .tup [.int (1), .int (2)]), ("kept", .int (0)), ("pick", .str "most"), ("way", .str "ahead")], .lst [.tup [.tup [.tup [.int (0), .int (0)], .int (1)], .tup [.tup [.int (1), .int (-1)], .int (1)]], .tup [.tup [.tup [.int (1), .int (-1)], .int (1)], .tup [.tup [.int (-1), .int (1)], .int (0)]], .tup [.tup [.tup [.int (-1), .int (1)], .int (0)], .tup [.tup [.int (0), .int (0)], .int (1)]]], .ins 13 [("pairs", .ref 5)], .lst [.tup [.tup [.tup [.int (0), .int (0)], .int (1)], .tup [.tup [.int (1), .int (-1)], .int (1)]], .tup [.tup [.tup [.int (1), .int (-1)], .int (1)], .tup [.tup [.int (-1), .int (1)], .int (0)]], .tup [.tup [.tup [.int (-1), .int (1)], .int (0)], .tup [.tup [.int (0), .int (0)], .int (1)]]]] = .ok (.nx [some (.ref 2), some (.ref 3), some (.ref 4), some (.ref 0), some (.ref 1), some (.tup [.tup [.int (0), .int (0)], .int (1)]), some (.tup [.tup [.int (1), .int (-1)], .int (1)]), some (.tup [.tup [.int (-1), .int (1)], .int (0)]), none, none, none]) [.ins 0 [("weights", .tup [.int (1), .int (2)]), ("amounts", .tup [.int (1)]), ("kept", .int (3)), ("pick", .str "most"), ("way", .str "ahead")], .ins 0 [("weights", .tup [.int (1), .int (2)]), ("amounts", .tup [.int (1)]), ("kept", .int (0)), ("pick", .str "most"), ("way", .str "ahead")], .ins 0 [("weights", .tup [.int (1), .int (1)]), ("amounts", .tup [.int (1), .int (2)]), ("kept", .int (0)), ("pick", .str "most"), ("way", .str "ahead")], .lst [], .ins 13 [("pairs", .ref 5)], .lst [.tup [.tup [.tup [.int (0), .int (0)], .int (1)], .tup [.tup [.int (1), .int (-1)], .int (1)]], .tup [.tup [.tup [.int (1), .int (-1)], .int (1)], .tup [.tup [.int (-1), .int (1)], .int (0)]], .tup [.tup [.tup [.int (-1), .int (1)], .int (0)], .tup [.tup [.int (0), .int (0)], .int (1)]]]] := nxB_eq (by decide +kernel)
theorem x__law_settling_right_11 : st__law_settling_right_11 [some (.ref 2), some (.ref 3), some (.ref 4), some (.ref 0), some (.ref 1), some (.tup [.tup [.int (0), .int (0)], .int (1)]), some (.tup [.tup [.int (1), .int (-1)], .int (1)]), some (.tup [.tup [.int (-1), .int (1)], .int (0)]), none, none, none] [.ins 0 [("weights", .tup [.int (1), .int (2)]), ("amounts", .tup [.int (1)]), ("kept", .int (3)), ("pick", .str "most"), ("way", .str "ahead")], .ins 0 [("weights", .tup [.int (1), .int (2)]), ("amounts", .tup [.int (1)]), ("kept", .int (0)), ("pick", .str "most"), ("way", .str "ahead")], .ins 0 [("weights", .tup [.int (1), .int (1)]), ("amounts", .tup [.int (1), .int (2)]), ("kept", .int (0)), ("pick", .str "most"), ("way", .str "ahead")], .lst [], .ins 13 [("pairs", .ref 5)], .lst [.tup [.tup [.tup [.int (0), .int (0)], .int (1)], .tup [.tup [.int (1), .int (-1)], .int (1)]], .tup [.tup [.tup [.int (1), .int (-1)], .int (1)], .tup [.tup [.int (-1), .int (1)], .int (0)]], .tup [.tup [.tup [.int (-1), .int (1)], .int (0)], .tup [.tup [.int (0), .int (0)], .int (1)]]]] = .ok (.nx [some (.ref 2), some (.ref 3), some (.ref 4), some (.ref 0), some (.ref 1), some (.tup [.tup [.int (0), .int (0)], .int (1)]), some (.tup [.tup [.int (1), .int (-1)], .int (1)]), some (.tup [.tup [.int (-1), .int (1)], .int (0)]), none, none, none]) [.ins 0 [("weights", .tup [.int (1), .int (2)]), ("amounts", .tup [.int (1)]), ("kept", .int (3)), ("pick", .str "most"), ("way", .str "ahead")], .ins 0 [("weights", .tup [.int (1), .int (2)]), ("amounts", .tup [.int (1)]), ("kept", .int (0)), ("pick", .str "most"), ("way", .str "ahead")], .ins 0 [("weights", .tup [.int (1), .int (1)]), ("amounts", .tup [.int (1), .int (2)]), ("kept", .int (0)), ("pick", .str "most"), ("way", .str "ahead")], .lst [], .ins 13 [("pairs", .ref 5)], .lst [.tup [.tup [.tup [.int (0), .int (0)], .int (1)], .tup [.tup [.int (1), .int (-1)], .int (1)]], .tup [.tup [.tup [.int (1), .int (-1)], .int (1)], .tup [.tup [.int (-1), .int (1)], .int (0)]], .tup [.tup [.tup [.int (-1), .int (1)], .int (0)], .tup [.tup [.int (0), .int (0)], .int (1)]]], .ins 13 [("pairs", .ref 7)], .lst []] := nxB_eq (by decide +kernel)
theorem x__law_settling_right_12 : st__law_settling_right_12 [some (.ref 2), some (.ref 3), some (.ref 4), some (.ref 0), some (.ref 1), some (.tup [.tup [.int (0), .int (0)], .int (1)]), some (.tup [.tup [.int (1), .int (-1)], .int (1)]), some (.tup [.tup [.int (-1), .int (1)], .int (0)]), none, none, none] [.ins 0 [("weights", .tup [.int (1), .int (2)]), ("amounts", .tup [.int (1)]), ("kept", .int (3)), ("pick", .str "most"), ("way", .str "ahead")], .ins 0 [("weights", .tup [.int (1), .int (2)]), ("amounts", .tup [.int (1)]), ("kept", .int (0)), ("pick", .str "most"), ("way", .str "ahead")], .ins 0 [("weights", .tup [.int (1), .int (1)]), ("amounts", .tup [.int (1), .int (2)]), ("kept", .int (0)), ("pick", .str "most"), ("way", .str "ahead")], .lst [], .ins 13 [("pairs", .ref 5)], .lst [.tup [.tup [.tup [.int (0), .int (0)], .int (1)], .tup [.tup [.int (1), .int (-1)], .int (1)]], .tup [.tup [.tup [.int (1), .int (-1)], .int (1)], .tup [.tup [.int (-1), .int (1)], .int (0)]], .tup [.tup [.tup [.int (-1), .int (1)], .int (0)], .tup [.tup [.int (0), .int (0)], .int (1)]]], .ins 13 [("pairs", .ref 7)], .lst []] = .ok (.nx [some (.ref 2), some (.ref 3), some (.ref 4), some (.ref 0), some (.ref 1), some (.tup [.tup [.int (0), .int (0)], .int (1)]), some (.tup [.tup [.int (1), .int (-1)], .int (1)]), some (.tup [.tup [.int (-1), .int (1)], .int (0)]), none, none, none]) [.ins 0 [("weights", .tup [.int (1), .int (2)]), ("amounts", .tup [.int (1)]), ("kept", .int (3)), ("pick", .str "most"), ("way", .str "ahead")], .ins 0 [("weights", .tup [.int (1), .int (2)]), ("amounts", .tup [.int (1)]), ("kept", .int (0)), ("pick", .str "most"), ("way", .str "ahead")], .ins 0 [("weights", .tup [.int (1), .int (1)]), ("amounts", .tup [.int (1), .int (2)]), ("kept", .int (0)), ("pick", .str "most"), ("way", .str "ahead")], .lst [], .ins 13 [("pairs", .ref 5)], .lst [.tup [.tup [.tup [.int (0), .int (0)], .int (1)], .tup [.tup [.int (1), .int (-1)], .int (1)]], .tup [.tup [.tup [.int (1), .int (-1)], .int (1)], .tup [.tup [.int (-1), .int (1)], .int (0)]], .tup [.tup [.tup [.int (-1), .int (1)], .int (0)], .tup [.tup [.int (0), .int (0)], .int (1)]]], .ins 13 [("pairs", .ref 7)], .lst []] := nxB_eq (by decide +kernel)
theorem x__law_settling_right_13 : rtT (st__law_settling_right_13 [some (.ref 2), some (.ref 3), some (.ref 4), some (.ref 0), some (.ref 1), some (.tup [.tup [.int (0), .int (0)], .int (1)]), some (.tup [.tup [.int (1), .int (-1)], .int (1)]), some (.tup [.tup [.int (-1), .int (1)], .int (0)]), none, none, none] [.ins 0 [("weights", .tup [.int (1), .int (2)]), ("amounts", .tup [.int (1)]), ("kept", .int (3)), ("pick", .str "most"), ("way", .str "ahead")], .ins 0 [("weights", .tup [.int (1), .int (2)]), ("amounts", .tup [.int (1)]), ("kept", .int (0)), ("pick", .str "most"), ("way", .str "ahead")], .ins 0 [("weights", .tup [.int (1), .int (1)]), ("amounts", .tup [.int (1), .int (2)]), ("kept", .int (0)), ("pick", .str "most"), ("way", .str "ahead")], .lst [], .ins 13 [("pairs", .ref 5)], .lst [.tup [.tup [.tup [.int (0), .int (0)], .int (1)], .tup [.tup [.int (1), .int (-1)], .int (1)]], .tup [.tup [.tup [.int (1), .int (-1)], .int (1)], .tup [.tup [.int (-1), .int (1)], .int (0)]], .tup [.tup [.tup [.int (-1), .int (1)], .int (0)], .tup [.tup [.int (0), .int (0)], .int (1)]]], .ins 13 [("pairs", .ref 7)], .lst []]) = true := by decide +kernel
theorem t__law_settling_right : isTrueR (m__law_settling_right [] []) = true := by
  obtain ⟨M, h⟩ := rtT_ex x__law_settling_right_13
  exact fnP_true rfl rfl (M := M) (fnS_true ((seq_nx x__law_settling_right_0).trans ((seq_nx x__law_settling_right_1).trans ((seq_nx x__law_settling_right_2).trans ((seq_nx x__law_settling_right_3).trans ((seq_nx x__law_settling_right_4).trans ((seq_nx x__law_settling_right_5).trans ((seq_nx x__law_settling_right_6).trans ((seq_nx x__law_settling_right_7).trans ((seq_nx x__law_settling_right_8).trans ((seq_nx x__law_settling_right_9).trans ((seq_nx x__law_settling_right_10).trans ((seq_nx x__law_settling_right_11).trans ((seq_nx x__law_settling_right_12).trans h))))))))))))))
end K13

namespace Sh
open PySem L2
theorem intsD_map : ∀ l : List Int, intsD (l.map D.int) = some l
  | [] => rfl
  | i :: l => by simp [intsD, intsD_map l]
theorem cutD_map (l : List Int) (lo hi : Option Int) : ∃ l' : List Int, cutD (l.map D.int) lo hi = l'.map D.int := by
  unfold cutD
  exact ⟨(l.drop (HT.sIx (l.map D.int).length 0 lo)).take (HT.sIx (l.map D.int).length (l.map D.int).length hi - HT.sIx (l.map D.int).length 0 lo), by rw [List.map_take, List.map_drop]⟩
/-- int(sum(script[:63])) % k: a number below k -/
theorem eval_times (ns : List Int) (j : Int) (r : Env) (hj : 0 < j) : ∃ t M', 0 ≤ t ∧ t < j ∧ eBin oMod (eB opInt (aCons (eB (op1 gSum) (aCons (eSl (eVar 0) pNone (pSome (eC (.int 63)))) aNil)) aNil)) (eC (.int j)) (some (.ref 0) :: r) [.fz (ns.map D.int)] = .ok (.int t) M' := by
  obtain ⟨l', e⟩ := cutD_map ns none (some 63)
  refine ⟨l'.sum % j, [.fz (ns.map D.int), .lst (l'.map D.int)], Int.emod_nonneg _ (by omega), Int.emod_lt_of_pos _ hj, ?_⟩
  simp only [eBin, eB, aCons, eSl, eVar, pNone, pSome, eC, aNil, Res.bind, List.getElem?_cons_zero, oSl, lstM, e, ofO, op1, gSum, seqM, List.length_cons, List.length_nil, List.cons_append, List.nil_append, List.getElem?_cons_succ, intsD_map, opInt, oMod, oII, hj, decide_true, if_true]
theorem isT_ex {r : Res D} (h : isTrueR r = true) : ∃ M, r = .ok (.bl true) M := by
  cases r with
  | ok d M =>
    cases d with
    | bl b => cases b with
      | true => exact ⟨M, rfl⟩
      | false => cases h
    | _ => cases h
  | _ => cases h
theorem callE_true {n : Nat} {ff : FF} {fa : AF} {env : Env} {M M1 : Store} {ds : List D} (ha : fa env M = .ok ds M1) (hl : ds.length = n ∧ D.blws 0 ds = true) (h : isTrueR (ff ds []) = true) : eCallE n ff fa env M = .ok (.bl true) M1 := by
  obtain ⟨M2, e⟩ := isT_ex h
  simp only [eCallE, ha, Res.bind, hl, and_self, if_true, e, D.blw]
end Sh
namespace K13
open PySem L2 Sh
theorem e1 : isTrueR (m__law_exchanged_right [] []) = true := t__law_exchanged_right
theorem e2 : isTrueR (m__law_settling_right [] []) = true := t__law_settling_right
theorem e30 : isTrueR (m__law_large_right [.int 0] []) = true := t__law_large_right_0
theorem e31 : isTrueR (m__law_large_right [.int 1] []) = true := t__law_large_right_1
theorem e32 : isTrueR (m__law_large_right [.int 2] []) = true := t__law_large_right_2
theorem e33 : isTrueR (m__law_large_right [.int 3] []) = true := t__law_large_right_3
theorem e3 (t : Int) (h0 : 0 ≤ t) (h4 : t < 4) : isTrueR (m__law_large_right [.int t] []) = true := by
  obtain rfl | rfl | rfl | rfl : t = 0 ∨ t = 1 ∨ t = 2 ∨ t = 3 := by omega
  · exact e30
  · exact e31
  · exact e32
  · exact e33
theorem law_true (ns : List Int) : isTrueR (m_law [.ref 0] [.fz (ns.map D.int)]) = true := by
  obtain ⟨t, M1, h0, h8, e⟩ := eval_times ns 8 [none] (by decide)
  have h4 : isTrueR (m__law_large_right [.int (t % 4)] []) = true := e3 _ (Int.emod_nonneg _ (by omega)) (Int.emod_lt_of_pos _ (by omega))
  have c1 := callE_true (n := 0) (ff := m__law_exchanged_right) (fa := aNil) (env := [some (.ref 0), some (.int t)]) (M := M1) (M1 := M1) (ds := []) rfl ⟨rfl, rfl⟩ e1
  have c2 := callE_true (n := 1) (ff := m__law_large_right) (fa := aCons (eBin oMod (eVar 1) (eC (.int 4))) aNil) (env := [some (.ref 0), some (.int t)]) (M := M1) (M1 := M1) (ds := [.int (t % 4)]) rfl ⟨rfl, rfl⟩ h4
  have c3 := callE_true (n := 0) (ff := m__law_settling_right) (fa := aNil) (env := [some (.ref 0), some (.int t)]) (M := M1) (M1 := M1) (ds := []) rfl ⟨rfl, rfl⟩ e2
  have e' : eBin oMod (eB opInt (aCons (eB (op1 gSum) (aCons (eSl (eVar 0) pNone (pSome (eC (.int 63)))) aNil)) aNil)) (eC (.int 8)) [some (.ref 0), none] [.fz (ns.map D.int)] = .ok (.int t) M1 := e
  simp only [m_law, fnS, b_law, sSeq, sSet, sAsg, gNm, List.map_cons, List.map_nil, List.cons_append, List.nil_append, List.replicate, Nat.reduceSub, e', Res.bindS, List.set, sIf, Sh.tOr, Sh.tNot, tVal, c1, c2, Res.bind, Bool.not_true, Bool.false_eq_true, if_false, if_true, sSkip, sRet, c3]
  rfl
end K13

namespace K13
open PySem PySem.Spec PyProof.Rows Sh
abbrev R : PySem.W.OpenRow := PySem.W.OpenLaw.row PySem.Challenge.rw_roundshares_k13_known_more
abbrev hk : PySem.W.Hook := hookX 5 wx
def ob (s : PySem.W.SharedT) : He.AlD := obsX 5 wx (HandSHeadRun.getT s)
theorem ob_eq (s : PySem.W.SharedT) : ob s = hk.obs s.abs := obsX_eq (HandSHeadRun.getT_eq s)
def lo : List PySem.Str := (["_wall", "ShareError", "BadRule", "BadReceiver", "BadRow", "TooLarge", "BadAmount", "MOST_RECEIVERS", "MOST_WEIGHT", "MOST_WHOLE", "PICKS", "WAYS", "is_number", "is_word", "are_weights", "are_amounts", "Rule", "check_rule", "MOST_STATES", "start_of", "greatest_claim", "picked", "done", "is_amount", "check_row", "walked", "reach", "MOST_ORDERED", "behind_both", "can_exchange"] : List PySem.Str) ++ (["pairs_of", "first_ordered", "Orderless", "Ordered", "order", "is_orderless", "soonest_order", "exchanged", "orders_of", "totals_by", "ranges", "MOST_SETTLED", "states_of", "led_from", "pair_of", "merging", "Settled", "Unsettled", "settle", "does_settle", "settles", "_law_three", "_law_exchanged_right", "_law_large_right", "_law_settling_right"] : List PySem.Str)
theorem run (w : World) : HandSHeadRun.RunEq R (PySem.W.view R.prog [61]) hk ob 6000 lo w := by
  intro os
  kernel_rfl
end K13
open PySem PySem.W PySem.Calls PyProof.Rows
theorem PySem.Challenge.cw_roundshares_k13_known_more_holds : PySem.Challenge.rw_roundshares_k13_known_more.Holds := by
  w_on; o_law
  refine HandSHeadRun.head_any (r := OpenLaw.row PySem.Challenge.rw_roundshares_k13_known_more) (q := view (OpenLaw.row PySem.Challenge.rw_roundshares_k13_known_more).prog [61]) (H := K13.hk) (ob := K13.ob) (M := 6000) (loose := K13.lo) (d := HandSHeadRun.topDef (OpenLaw.row PySem.Challenge.rw_roundshares_k13_known_more).prog 61) (kwd := []) K13.ob_eq
    (by kernel_rfl) (fun s => by kernel_rfl) K13.run (by kernel_rfl) (by kernel_rfl) (by kernel_rfl) (by rfl) (by first | assumption | decide +kernel) (by decide +kernel) ⟨rfl, rfl, rfl, rfl, rfl, by decide +kernel⟩ ?hw ?hc
  case hw => w_witness2
  case hc =>
    refine Sh.walk_ofW (l := PySem.Challenge.rw_roundshares_k13_known_more) (n := 63) (k := 12) (x := "_law_script") rfl (by decide) (by kernel_rfl) ⟨rfl, by decide, by decide⟩ ?F
    intro w mg fa h Y G hmg0
    obtain ⟨K, KX, c1, c2⟩ := Y
    have hmg : mg ("law" : PySem.Str) = some (.ref fa) := by
      have e : (HandSHeadRun.topDef (OpenLaw.row PySem.Challenge.rw_roundshares_k13_known_more).prog 61).name = ("law" : PySem.Str) := by kernel_rfl
      rw [← e]
      exact hmg0
    have FF : Sh.FX K13.wx K mg := Sh.FX.of KX G c1 c2
    have e := hmg.symm.trans (FF.glo 2)
    cases e
    obtain ⟨fd, D⟩ := c2.def_ 53 (d := K13.dd_law) rfl
    have b := L2.FunD.bindsA (ps := ["_law_script"]) D fun _ _ _ _ _ _ us hl => match us, hl with | [_], _ => rfl
    exact ⟨K, fd, Sh.spF ⟨K, _, w⟩ 1 K13.m_law, KX, fun s v => b s [v] rfl, fun H a ns hl hO hS => Sh.law_sp FF.nol hO hS (K13.law_true ns), fun base _ _ => K13.bo_law FF D⟩

