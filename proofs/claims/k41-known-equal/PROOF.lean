import PyProof.Rows.All
import Wide.All
import OpenK.AllK
import Wide.FinOn
import HandS.ForMost
import HandS.ForExc
import HandS.HeadHook2
import KE.KDictKeyed
import HandS.CallSlots
import HandS.Deep
import HandS.TupAny
import HandS.TupMul
import HandS.Star
import HandS.Style
import HandS.Wide
import HandS.MakeKwOnly
import HandS.Defaults
import HandS.WideBits
import HandS.TupLe
import KE.KDictWalk
import KE.GoesDict
import HandS.Small
import HandS.Zip
import KE.GoesNew
import HandS.Conv
import HandS.IsInst
import KE.KTupSum
import HandS.TupLen
import HandS.SlotsOwn
import KE.KDictDisplayH
import HandS.Iter
import HandS.DictComp
import KE.KDictCopyH
import KE.KDictOf
import HandS.Words
import HandS.HeadEnd
import HandS.Head2
import KE.KDictPairs
import PyProof.InstEq
import KE.KEqNest
import KE.DataEq
import Lean
import KE.KStateDown
import PySem.Challenge.RW_roundshares_k41_known_equal
set_option Elab.async false
set_option linter.all false
set_option maxRecDepth 1000000
set_option maxHeartbeats 4000000
namespace Sh
open PySem L2

/-! ### data: immutable values by value, mutable objects by number -/
inductive D where
  | non | bl (b : Bool) | int (i : Int) | str (x : Str) | tup (l : List D) | ref (n : Nat) | ty (n : String)

mutual
def D.beq : D → D → Bool
  | .non, .non => true
  | .bl a, .bl b => a == b
  | .int a, .int b => a == b
  | .str a, .str b => decide (a = b)
  | .tup l, .tup r => D.beqs l r
  | .ref a, .ref b => a == b
  | .ty a, .ty b => a == b
  | _, _ => false
def D.beqs : List D → List D → Bool
  | [], [] => true
  | a :: l, b :: r => D.beq a b && D.beqs l r
  | _, _ => false
end
mutual
theorem D.beq_eq : ∀ (a b : D), D.beq a b = true ↔ a = b
  | .non, b => by cases b <;> simp [D.beq]
  | .bl a, b => by cases b <;> simp [D.beq]
  | .int a, b => by cases b <;> simp [D.beq]
  | .str a, b => by cases b <;> simp [D.beq]
  | .tup l, b => by
    cases b with
    | tup r => simp only [D.beq, D.tup.injEq]; exact D.beqs_eq l r
    | _ => simp [D.beq]
  | .ref a, b => by cases b <;> simp [D.beq]
  | .ty a, b => by cases b <;> simp [D.beq]
theorem D.beqs_eq : ∀ (a b : List D), D.beqs a b = true ↔ a = b
  | [], [] => by simp [D.beqs]
  | [], _ :: _ => by simp [D.beqs]
  | _ :: _, [] => by simp [D.beqs]
  | a :: l, b :: r => by
    simp only [D.beqs, Bool.and_eq_true, List.cons.injEq]
    exact and_congr (D.beq_eq a b) (D.beqs_eq l r)
end
instance : DecidableEq D := fun a b => if h : D.beq a b = true then .isTrue ((D.beq_eq a b).mp h) else .isFalse fun e => h ((D.beq_eq a b).mpr e)

inductive DO where
  | lst (l : List D)
  | fz (l : List D)
  | dct (kvs : List (D × D))
  | dlk (kvs : List (D × D))
  | ins (c : Nat) (fs : List (Str × D))
  | set (l : List Int)
  | dead
  deriving DecidableEq

abbrev Store := List DO
inductive Res (α : Type) where
  | ok (a : α) (M : Store)
  | exc (c : Nat) (fs : List (Str × D)) (M : Store)
  | bad
@[inline] def Res.bind {α β : Type} (r : Res α) (f : α → Store → Res β) : Res β := match r with
  | .ok a M => f a M
  | .exc c fs M => .exc c fs M
  | .bad => .bad
abbrev Env := List (Option D)
abbrev EF := Env → Store → Res D
abbrev TF := Env → Store → Res Bool
abbrev AF := Env → Store → Res (List D)
inductive Fl where
  | nx (σ : Env) | rt (d : D) | bk (σ : Env) | ct (σ : Env) | xc (c : Nat) (fs : List (Str × D)) (σ : Env)
abbrev SF := Env → Store → Res Fl
/-- behind an expression of a statement: what it raises is raised where the slots are σ -/
@[inline] def Res.bindS {α : Type} (σ : Env) (r : Res α) (f : α → Store → Res Fl) : Res Fl := match r with
  | .ok a M => f a M
  | .exc c fs M => .ok (.xc c fs σ) M
  | .bad => .bad
@[inline] def ofO {α : Type} : Option (α × Store) → Res α
  | some (a, M) => .ok a M
  | none => .bad
abbrev FF := List D → Store → Res D

/-- the program's classes, by number -/
def cnm : Nat → Str
  | 0 => "Rule" | 1 => "Bounded" | 2 => "Endless" | 3 => "Drift" | 4 => "Cheapest" | 5 => "NoChoice" | 6 => "Alike" | 7 => "Parted" | 8 => "Desk" | 9 => "Trial"
  | 10 => "Orderless" | 11 => "Ordered" | 12 => "Settled" | 13 => "Unsettled" | 14 => "ShareError" | 15 => "BadRule" | 16 => "BadReceiver" | 17 => "BadRow" | 18 => "BadSide" | 19 => "TooLarge"
  | 20 => "BadGoals" | 21 => "BadPrices" | 22 => "BadChoice" | 23 => "Unlike" | 24 => "BadAmount" | 25 => "NothingDone" | 26 => "BadText"
  | _ => ""
def ca (K : PySem.W.Frag) (n : Nat) : Addr := He.ga K (cnm n)

/-! ### what data are in the heap -/
section
variable (K : PySem.W.Frag) (ι : List Addr) (H : Hp)
mutual
def Rep : D → V → Prop
  | .non, v => v = .non
  | .bl b, v => v = .bl b
  | .int i, v => v = .int i
  | .str x, v => v = .str x
  | .tup l, v => ∃ a vs, v = .ref a ∧ SqT K H a vs ∧ Reps l vs
  | .ref n, v => ∃ a, ι[n]? = some a ∧ v = .ref a
  | .ty n, v => v = .ty n
def Reps : List D → List V → Prop
  | [], vs => vs = []
  | d :: l, vs => ∃ v r, vs = v :: r ∧ Rep d v ∧ Reps l r
end
end
end Sh

namespace Sh
open PySem L2

/-! ### keys of dicts -/
mutual
def nk : D → Option NestedKey
  | .non => some .none
  | .int i => some (.num i)
  | .str x => some (.text x)
  | .tup l => (nks l).map .tup
  | _ => none
def nks : List D → Option (List NestedKey)
  | [] => some []
  | d :: l => match nk d, nks l with
    | some k, some r => some (k :: r)
    | _, _ => none
end
/-- a key that a dict may have: a tuple, not too deep -/
def nkey : D → Option NestedKey
  | .tup l => match nks l with
    | some ks => if (NestedKey.tup ks).depth ≤ 8 then some (.tup ks) else none
    | none => none
  | _ => none

/-! ### objects -/
section
variable (K : PySem.W.Frag) (ι : List Addr) (H : Hp)
def FRel (fs : List (Str × D)) (vs : List (Str × V)) : Prop := Paired (fun (p : Str × D) (q : Str × V) => p.1 = q.1 ∧ Rep K ι H p.2 q.2) fs vs
/-- an entry: the key's tuple stands at q.2.1, the value is q.2.2 -/
def EntR (p : D × D) (q : NestedKey × Addr × Value) : Prop := nkey p.1 = some q.1 ∧ Rep K ι H p.1 (.ref q.2.1) ∧ ∃ v, RelV v q.2.2 ∧ Rep K ι H p.2 v
def entK (q : NestedKey × Addr × Value) (e : DictEntry) : Prop := True
def DctAt (P : Program) (w : World) (a : Addr) (kvs : List (D × D)) (o : Obj) : Prop :=
  (a == sysModules) = false ∧ kvs.length ≤ sizeLine ∧ o.ExactDict ∧ ∃ (es : Array DictEntry) (ep : Nat) (xs : List (NestedKey × Addr × Value)),
    o.data = .dict es ep ∧ es.toList = xs.map (entryOfKey (nestedKind P w)) ∧ (xs.map (·.1)).Nodup ∧ Paired (EntR K ι H) kvs xs
/-- what is known of the dict's object -/
def dctO (a : Addr) (o : Obj) : HO := .ext fun h => h.get? a = some o
def ORep (P : Program) (w : World) (a : Addr) : DO → Prop
  | .lst l => ∃ vs, H a = some (.lst vs) ∧ Reps K ι H l vs
  | .fz l => ∃ vs o, H a = some (.frz o (.lst vs)) ∧ Reps K ι H l vs
  | .ins c fs => ∃ dx vs, H a = some (.ins (ca K c) dx vs) ∧ FRel K ι H fs vs
  | .dct kvs => ∃ o, H a = some (dctO a o) ∧ DctAt K ι H P w a kvs o
  | .dlk kvs => ∃ o, H a = some (.frz o (dctO a o)) ∧ DctAt K ι H P w a kvs o
  | .set l => ∃ S, H a = some (.set S l.length) ∧ l.Nodup ∧ ∀ i, S i = decide (i ∈ l)
  | .dead => (∃ u, H a = some u) ∧ ∀ xs, ¬ Rd H a (.tup xs)
structure Abs (P : Program) (w : World) (M : Store) : Prop where
  len : ι.length = M.length
  nd : ι.Nodup
  obj : ∀ (n : Nat) (a : Addr) (o : DO), ι[n]? = some a → M[n]? = some o → ORep K ι H P w a o
def EnvR (env : Env) (σ : St) : Prop := env.length = σ.length ∧ ∀ (i : Nat) (d : D), env[i]? = some (some d) → ∃ v, σ[i]? = some (some v) ∧ Rep K ι H d v
end
structure Step (ι : List Addr) (H : Hp) (ι' : List Addr) (H' : Hp) : Prop where
  pre : ∃ more, ι' = ι ++ more
  frame : ∀ a o, H a = some o → a ∉ ι → H' a = some o
  fresh : ∀ a, a ∈ ι' → a ∉ ι → H a = none
  frz : ∀ a o u, H a = some (.frz o u) → H' a = some (.frz o u)
section
variable {K : PySem.W.Frag} {P : Program} {w : World} {ι ι' ι'' : List Addr} {H H' H'' : Hp} {M M' : Store}
theorem Step.refl : Step ι H ι H := ⟨⟨[], by simp⟩, fun _ _ h _ => h, fun _ h n => absurd h n, fun _ _ _ h => h⟩
theorem Step.trans (s : Step ι H ι' H') (t : Step ι' H' ι'' H'') : Step ι H ι'' H'' where
  pre := by
    obtain ⟨a, rfl⟩ := s.pre
    obtain ⟨b, rfl⟩ := t.pre
    exact ⟨a ++ b, by simp⟩
  frame := fun a o h n => t.frame a o (s.frame a o h n) fun m => by rw [s.fresh a m n] at h; cases h
  fresh := fun a h n => by
    by_cases m : a ∈ ι'
    · exact s.fresh a m n
    · cases e : H a with
      | none => rfl
      | some o => have := s.frame a o e n; rw [t.fresh a h m] at this; cases this
  frz := fun a o u h => t.frz a o u (s.frz a o u h)
theorem Step.ix (s : Step ι H ι' H') {n : Nat} {a : Addr} (e : ι[n]? = some a) : ι'[n]? = some a := by
  obtain ⟨m, rfl⟩ := s.pre
  rw [List.getElem?_append_left (List.getElem?_eq_some_iff.mp e).1]; exact e
/-- no number stands for a tuple -/
def NT (ι : List Addr) (H : Hp) : Prop := ∀ a ∈ ι, ∀ xs, ¬ Rd H a (.tup xs)
theorem ORep.nt {a : Addr} {o : DO} (h : ORep K ι H P w a o) : ∀ xs, ¬ Rd H a (.tup xs) := by
  intro xs r
  cases o with
  | lst l => obtain ⟨vs, e, _⟩ := h; rcases r with r | ⟨o, r⟩ <;> (rw [e] at r; cases r)
  | fz l => obtain ⟨vs, o, e, _⟩ := h; rcases r with r | ⟨o, r⟩ <;> (rw [e] at r; cases r)
  | ins c fs => obtain ⟨dx, vs, e, _⟩ := h; rcases r with r | ⟨o, r⟩ <;> (rw [e] at r; cases r)
  | dct kvs => obtain ⟨o, e, _⟩ := h; rcases r with r | ⟨o, r⟩ <;> (rw [e] at r; cases r)
  | dlk kvs => obtain ⟨o, e, _⟩ := h; rcases r with r | ⟨o, r⟩ <;> (rw [e] at r; cases r)
  | set l => obtain ⟨S, e, _⟩ := h; rcases r with r | ⟨o, r⟩ <;> (rw [e] at r; cases r)
  | dead => exact h.2 xs r
theorem Abs.nt (A : Abs K ι H P w M) : NT ι H := fun a m => by
  obtain ⟨n, hn, e⟩ := List.getElem_of_mem m
  have h1 : ι[n]? = some a := by rw [List.getElem?_eq_getElem hn, e]
  have h2 : M[n]? = some (M[n]'(by rw [← A.len]; exact hn)) := List.getElem?_eq_getElem (by rw [← A.len]; exact hn)
  exact (A.obj n a _ h1 h2).nt
theorem NT.no (n : NT ι H) {a : Addr} : ∀ xs, Rd H a (.tup xs) → a ∉ ι := fun xs r m => n a m xs r
theorem _root_.L2.SqT.keep {a : Addr} {vs : List V} (h : SqT K H a vs) (n : ∀ xs, Rd H a (.tup xs) → a ∉ ι) (s : Step ι H ι' H') : SqT K H' a vs := by
  rcases h with h | h
  · refine .inl ?_
    have na := n _ h
    rcases h with h | ⟨o, h⟩
    · exact .inl (s.frame _ _ h na)
    · exact .inr ⟨o, s.frame _ _ h na⟩
  · exact .inr h
/-- tuples kept, numbers kept -/
structure Ext (K : PySem.W.Frag) (ι : List Addr) (H : Hp) (ι' : List Addr) (H' : Hp) : Prop where
  ix : ∀ (n : Nat) (a : Addr), ι[n]? = some a → ι'[n]? = some a
  tup : ∀ a vs, SqT K H a vs → SqT K H' a vs
  frz : ∀ a o u, H a = some (.frz o u) → H' a = some (.frz o u)
theorem Step.ext (s : Step ι H ι' H') (nt : NT ι H) : Ext K ι H ι' H' := ⟨fun _ _ e => s.ix e, fun _ _ h => h.keep nt.no s, s.frz⟩
mutual
theorem Rep.ext (s : Ext K ι H ι' H') : ∀ {d : D} {v : V}, Rep K ι H d v → Rep K ι' H' d v
  | .non, _, h => by simpa only [Rep] using h
  | .bl _, _, h => by simpa only [Rep] using h
  | .int _, _, h => by simpa only [Rep] using h
  | .str _, _, h => by simpa only [Rep] using h
  | .ty _, _, h => by simpa only [Rep] using h
  | .ref n, _, h => by
    simp only [Rep] at h ⊢
    obtain ⟨a, e, rfl⟩ := h
    exact ⟨a, s.ix n a e, rfl⟩
  | .tup l, _, h => by
    simp only [Rep] at h ⊢
    obtain ⟨a, vs, rfl, h1, h2⟩ := h
    exact ⟨a, vs, rfl, s.tup a vs h1, Reps.ext s h2⟩
theorem Reps.ext (s : Ext K ι H ι' H') : ∀ {l : List D} {vs : List V}, Reps K ι H l vs → Reps K ι' H' l vs
  | [], _, h => by simpa only [Reps] using h
  | d :: l, _, h => by
    simp only [Reps] at h ⊢
    obtain ⟨v, r, rfl, h1, h2⟩ := h
    exact ⟨v, r, rfl, Rep.ext s h1, Reps.ext s h2⟩
end
theorem FRel.ext (s : Ext K ι H ι' H') {fs : List (Str × D)} {vs : List (Str × V)} (h : FRel K ι H fs vs) : FRel K ι' H' fs vs := Paired.mapP h fun _ _ z => ⟨z.1, z.2.ext s⟩
theorem EntR.ext (s : Ext K ι H ι' H') {p : D × D} {q : NestedKey × Addr × Value} (h : EntR K ι H p q) : EntR K ι' H' p q := ⟨h.1, h.2.1.ext s, let ⟨v, r, z⟩ := h.2.2; ⟨v, r, z.ext s⟩⟩
theorem DctAt.ext (s : Ext K ι H ι' H') {a : Addr} {kvs : List (D × D)} {o : Obj} (h : DctAt K ι H P w a kvs o) : DctAt K ι' H' P w a kvs o :=
  let ⟨h1, h2, h3, es, ep, xs, h4, h5, h6, h7⟩ := h
  ⟨h1, h2, h3, es, ep, xs, h4, h5, h6, Paired.mapP h7 fun _ _ z => z.ext s⟩
theorem EnvR.ext (s : Ext K ι H ι' H') {env : Env} {σ : St} (h : EnvR K ι H env σ) : EnvR K ι' H' env σ := ⟨h.1, fun i d e => let ⟨v, e2, r⟩ := h.2 i d e; ⟨v, e2, r.ext s⟩⟩
theorem ORep.ext (s : Ext K ι H ι' H') {a : Addr} {o : DO} (e : ∀ u, H a = some u → H' a = some u) (hd : ∀ xs, Rd H' a (.tup xs) → Rd H a (.tup xs)) (h : ORep K ι H P w a o) : ORep K ι' H' P w a o := by
  cases o with
  | lst l => obtain ⟨vs, h1, h2⟩ := h; exact ⟨vs, e _ h1, h2.ext s⟩
  | fz l => obtain ⟨vs, o, h1, h2⟩ := h; exact ⟨vs, o, e _ h1, h2.ext s⟩
  | ins c fs => obtain ⟨dx, vs, h1, h2⟩ := h; exact ⟨dx, vs, e _ h1, h2.ext s⟩
  | dct kvs => obtain ⟨o, h1, h2⟩ := h; exact ⟨o, e _ h1, h2.ext s⟩
  | dlk kvs => obtain ⟨o, h1, h2⟩ := h; exact ⟨o, e _ h1, h2.ext s⟩
  | set l => obtain ⟨S, h1, h2⟩ := h; exact ⟨S, e _ h1, h2⟩
  | dead => exact ⟨let ⟨u, q⟩ := h.1; ⟨u, e u q⟩, fun xs r => h.2 xs (hd xs r)⟩
theorem Abs.have (A : Abs K ι H P w M) {n : Nat} {o : DO} (e : M[n]? = some o) : ∃ a, ι[n]? = some a ∧ ORep K ι H P w a o := by
  have hn : n < ι.length := by rw [A.len]; exact (List.getElem?_eq_some_iff.mp e).1
  exact ⟨ι[n], List.getElem?_eq_getElem hn, A.obj n _ o (List.getElem?_eq_getElem hn) e⟩
theorem ix_inj (nd : ι.Nodup) {n m : Nat} {a : Addr} (h1 : ι[n]? = some a) (h2 : ι[m]? = some a) : n = m := by
  exact (List.getElem?_inj (List.getElem?_eq_some_iff.mp h1).1 nd).mp (h1.trans h2.symm)
theorem ORep.some {a : Addr} {o : DO} (h : ORep K ι H P w a o) : ∃ u, H a = some u := by
  cases o with
  | lst l => obtain ⟨vs, e, _⟩ := h; exact ⟨_, e⟩
  | fz l => obtain ⟨vs, o, e, _⟩ := h; exact ⟨_, e⟩
  | ins c fs => obtain ⟨dx, vs, e, _⟩ := h; exact ⟨_, e⟩
  | dct kvs => obtain ⟨o, e, _⟩ := h; exact ⟨_, e⟩
  | dlk kvs => obtain ⟨o, e, _⟩ := h; exact ⟨_, e⟩
  | set l => obtain ⟨S, e, _⟩ := h; exact ⟨_, e⟩
  | dead => exact h.1
theorem Abs.tracked (A : Abs K ι H P w M) {a : Addr} (m : a ∈ ι) : ∃ u, H a = some u := by
  obtain ⟨n, hn, e⟩ := List.getElem_of_mem m
  have h1 : ι[n]? = some a := by rw [List.getElem?_eq_getElem hn, e]
  have h2 : M[n]? = some (M[n]'(by rw [← A.len]; exact hn)) := List.getElem?_eq_getElem (by rw [← A.len]; exact hn)
  exact (A.obj n a _ h1 h2).some
theorem Abs.notin (A : Abs K ι H P w M) {p : Addr} (hp : H p = none) : p ∉ ι := fun m => by
  obtain ⟨u, e⟩ := A.tracked m
  rw [hp] at e; cases e
/-! #### steps of the heap -/
theorem ext_new {p : Addr} {u : HO} (hp : H p = none) (more : List Addr) : Ext K ι H (ι ++ more) (upd H p u) where
  ix := fun n a e => by rw [List.getElem?_append_left (List.getElem?_eq_some_iff.mp e).1]; exact e
  tup := fun a vs h => by
    rcases h with (h | ⟨o, h⟩) | h
    · exact .inl (.inl (by rw [upd_ne (ne_of_none h hp)]; exact h))
    · exact .inl (.inr ⟨o, by rw [upd_ne (ne_of_none h hp)]; exact h⟩)
    · exact .inr h
  frz := fun a o u h => by rw [upd_ne (ne_of_none h hp)]; exact h
theorem step_new {p : Addr} {u : HO} (hp : H p = none) : Step ι H (ι ++ [p]) (upd H p u) where
  pre := ⟨[p], rfl⟩
  frame := fun a o h _ => by rw [upd_ne (ne_of_none h hp)]; exact h
  fresh := fun a h n => by
    rcases List.mem_append.mp h with h | h
    · exact absurd h n
    · rw [List.mem_singleton.mp h]; exact hp
  frz := fun a o u h => by rw [upd_ne (ne_of_none h hp)]; exact h
theorem step_tmp {p : Addr} {u : HO} (hp : H p = none) : Step ι H ι (upd H p u) where
  pre := ⟨[], by simp⟩
  frame := fun a o h _ => by rw [upd_ne (ne_of_none h hp)]; exact h
  fresh := fun a h n => absurd h n
  frz := fun a o u h => by rw [upd_ne (ne_of_none h hp)]; exact h
theorem ORep.new {a p : Addr} {u : HO} {o : DO} {more : List Addr} (hp : H p = none) (h : ORep K ι H P w a o) : ORep K (ι ++ more) (upd H p u) P w a o := by
  obtain ⟨q, hq⟩ := h.some
  have ne := ne_of_none hq hp
  exact h.ext (ext_new hp more) (fun u e => by rw [upd_ne ne]; exact e) fun xs r => by
    rcases r with r | ⟨o, r⟩
    · exact .inl (by rw [upd_ne ne] at r; exact r)
    · exact .inr ⟨o, by rw [upd_ne ne] at r; exact r⟩
theorem Abs.tmp (A : Abs K ι H P w M) {p : Addr} {u : HO} (hp : H p = none) : Abs K ι (upd H p u) P w M :=
  ⟨A.len, A.nd, fun n a o h1 h2 => by have := (A.obj n a o h1 h2).new (u := u) (more := []) hp; simpa using this⟩
theorem Abs.new (A : Abs K ι H P w M) {p : Addr} {u : HO} {o : DO} (hp : H p = none) (ho : ORep K (ι ++ [p]) (upd H p u) P w p o) : Abs K (ι ++ [p]) (upd H p u) P w (M ++ [o]) where
  len := by simp [A.len]
  nd := by
    rw [List.nodup_append]
    refine ⟨A.nd, by simp, fun a ha b hb e => ?_⟩
    rw [List.mem_singleton.mp hb] at e
    rw [e] at ha
    exact A.notin hp ha
  obj := fun n a o' h1 h2 => by
    by_cases hn : n < ι.length
    · rw [List.getElem?_append_left hn] at h1
      rw [List.getElem?_append_left (by rw [← A.len]; exact hn)] at h2
      exact (A.obj n a o' h1 h2).new hp
    · rw [List.getElem?_append_right (by omega)] at h1
      rw [List.getElem?_append_right (by rw [← A.len]; omega)] at h2
      cases q : n - ι.length with
      | zero =>
        rw [q] at h1
        rw [← A.len, q] at h2
        simp at h1 h2
        subst h1 h2
        exact ho
      | succ k => rw [q] at h1; simp at h1
/-- what is not locked -/
def NF (H : Hp) (a : Addr) : Prop := ∀ o u, H a ≠ some (.frz o u)
theorem NF.of {H : Hp} {a : Addr} {x : HO} (h : H a = some x) (n : ∀ o u, x ≠ .frz o u) : NF H a := fun o u e => n o u (Option.some.inj (h.symm.trans e))
theorem ext_upd (nt : NT ι H) {a : Addr} {u : HO} (ha : a ∈ ι) (nf : NF H a) : Ext K ι H ι (upd H a u) where
  ix := fun _ _ e => e
  tup := fun b vs h => by
    rcases h with (h | ⟨o, h⟩) | h
    · exact .inl (.inl (by rw [upd_ne fun z => nt a ha vs (by rw [← z]; exact .inl h)]; exact h))
    · exact .inl (.inr ⟨o, by rw [upd_ne fun z => nt a ha vs (by rw [← z]; exact .inr ⟨o, h⟩)]; exact h⟩)
    · exact .inr h
  frz := fun b o u h => by rw [upd_ne fun z => nf o u (by rw [← z]; exact h)]; exact h
theorem step_upd {a : Addr} {u : HO} (ha : a ∈ ι) (nf : NF H a) : Step ι H ι (upd H a u) where
  pre := ⟨[], by simp⟩
  frame := fun b o h n => by rw [upd_ne fun z => n (by rw [z]; exact ha)]; exact h
  fresh := fun a h n => absurd h n
  frz := fun b o u h => by rw [upd_ne fun z => nf o u (by rw [← z]; exact h)]; exact h
theorem Abs.upd (A : Abs K ι H P w M) {n : Nat} {a : Addr} {u : HO} {o : DO} (nf : NF H a) (ha : ι[n]? = some a) (ho : ORep K ι (upd H a u) P w a o) : Abs K ι (upd H a u) P w (M.set n o) where
  len := by simp [A.len]
  nd := A.nd
  obj := fun m b o' h1 h2 => by
    by_cases e : n = m
    · subst e
      rw [ha] at h1; cases h1
      have hl : n < M.length := by rw [← A.len]; exact (List.getElem?_eq_some_iff.mp ha).1
      rw [List.getElem?_set_self hl] at h2; cases h2
      exact ho
    · rw [List.getElem?_set_ne e] at h2
      have ne : b ≠ a := fun z => e (ix_inj A.nd ha (by rw [← z]; exact h1))
      exact (A.obj m b o' h1 h2).ext (ext_upd A.nt (List.mem_of_getElem? ha) nf) (fun u q => by rw [upd_ne ne]; exact q) fun xs r => by
        rcases r with r | ⟨o, r⟩
        · exact .inl (by rw [upd_ne ne] at r; exact r)
        · exact .inr ⟨o, by rw [upd_ne ne] at r; exact r⟩
end
end Sh

namespace Sh
open PySem L2

/-! ### a meaning as a reading -/
/-- what is known of an exception: its class, its own attributes -/
def XRep (K : PySem.W.Frag) (ι : List Addr) (H : Hp) (c : Nat) (fs : List (Str × D)) (cls : Value) (d : Option Addr) : Prop :=
  cls = .ref (ca K c) ∧ ((fs = [] ∧ d = none) ∨ ∃ x vs, d = some x ∧ H x = some (.xd vs) ∧ x ∉ ι ∧ FRel K ι H fs vs)
/-- the ground: module, program, world -/
structure Gd where
  K : PySem.W.Frag
  P : Program
  w : World
abbrev cgd (X : Cx) : Gd := ⟨X.K, X.prog, X.w⟩
section
variable (G : Gd) (W : WX) (ι : List Addr) (H : Hp)
def Post {α β : Type} (R : List Addr → Hp → α → β → Prop) (σ : St) (r : Res α) (Q : β → Hp → Prop) : Prop := match r with
  | .ok d M' => ∀ ι' H' v, Step ι H ι' H' → Abs G.K ι' H' G.P G.w M' → R ι' H' d v → Q v H'
  | .exc c fs M' => ∀ ι' H' cls d, Step ι H ι' H' → Abs G.K ι' H' G.P G.w M' → XRep G.K ι' H' c fs cls d → W cls d σ H'
  | .bad => False
abbrev PostE := Post G W ι H (Rep G.K)
abbrev PostA := Post G W ι H (Reps G.K)
abbrev PostT := Post G W ι H (fun _ _ (b c : Bool) => b = c)
def PostS (r : Res Fl) (C : Ends) : Prop := match r with
  | .ok (.nx env) M' => ∀ ι' H' σ', Step ι H ι' H' → Abs G.K ι' H' G.P G.w M' → EnvR G.K ι' H' env σ' → C.nx σ' H'
  | .ok (.rt d) M' => ∀ ι' H' v, Step ι H ι' H' → Abs G.K ι' H' G.P G.w M' → Rep G.K ι' H' d v → C.rt v H'
  | .ok (.bk env) M' => ∀ ι' H' σ', Step ι H ι' H' → Abs G.K ι' H' G.P G.w M' → EnvR G.K ι' H' env σ' → C.bk σ' H'
  | .ok (.ct env) M' => ∀ ι' H' σ', Step ι H ι' H' → Abs G.K ι' H' G.P G.w M' → EnvR G.K ι' H' env σ' → C.ct σ' H'
  | .ok (.xc c fs env) M' => ∀ ι' H' σ' cls d, Step ι H ι' H' → Abs G.K ι' H' G.P G.w M' → EnvR G.K ι' H' env σ' → XRep G.K ι' H' c fs cls d → W cls d σ' H'
  | .exc _ _ _ => False
  | .bad => False
def PostO (r : Option (D × Store)) (Q : VK) : Prop := match r with
  | some (d, M') => ∀ ι' H' v, Step ι H ι' H' → Abs G.K ι' H' G.P G.w M' → Rep G.K ι' H' d v → Q v H'
  | none => False
end
def tE (G : Gd) (W : WX) (f : EF) : TE := fun σ H Q => ∃ ι M env, Abs G.K ι H G.P G.w M ∧ EnvR G.K ι H env σ ∧ PostE G W ι H σ (f env M) Q
def tT (G : Gd) (W : WX) (f : TF) : TT := fun σ H Q => ∃ ι M env, Abs G.K ι H G.P G.w M ∧ EnvR G.K ι H env σ ∧ PostT G W ι H σ (f env M) Q
def tA (G : Gd) (W : WX) (f : AF) : TA := fun σ H Q => ∃ ι M env, Abs G.K ι H G.P G.w M ∧ EnvR G.K ι H env σ ∧ PostA G W ι H σ (f env M) Q
def tS (G : Gd) (W : WX) (f : SF) : TS := fun C σ H => ∃ ι M env, Abs G.K ι H G.P G.w M ∧ EnvR G.K ι H env σ ∧ PostS G W ι H (f env M) C
theorem _root_.L2.PE.imp {X : Cx} {e : Expr} {t t' : TE} (h : PE X e t) (i : ∀ σ H Q, t' σ H Q → t σ H Q) : PE X e t' := ⟨fun pins s σ H Q I q => h.run pins s σ H Q I (i σ H Q q)⟩
theorem _root_.L2.PT.imp {X : Cx} {e : Expr} {t t' : TT} (h : PT X e t) (i : ∀ σ H Q, t' σ H Q → t σ H Q) : PT X e t' := ⟨fun pins s σ H Q I q => h.run pins s σ H Q I (i σ H Q q)⟩
theorem _root_.L2.PW.imp {X : Cx} {e : Expr} {t t' : TT} (h : PW X e t) (i : ∀ σ H Q, t' σ H Q → t σ H Q) : PW X e t' := ⟨fun wh pins s σ H Q I q => h.run wh pins s σ H Q I (i σ H Q q)⟩
theorem _root_.L2.PA.imp {X : Cx} {e : List Expr} {t t' : TA} (h : PA X e t) (i : ∀ σ H Q, t' σ H Q → t σ H Q) : PA X e t' := ⟨fun p pins s σ H Q I q => h.run p pins s σ H Q I (i σ H Q q)⟩
theorem _root_.L2.PS.imp {X : Cx} {e : Stmt} {t t' : TS} (h : PS X e t) (i : ∀ C σ H, t' C σ H → t C σ H) : PS X e t' := ⟨fun pins s σ H Q I q => h.run pins s σ H Q I (i Q σ H q)⟩
theorem _root_.L2.PSs.imp {X : Cx} {e : List Stmt} {t t' : TS} (h : PSs X e t) (i : ∀ C σ H, t' C σ H → t C σ H) : PSs X e t' := ⟨fun pins s σ H Q I q => h.run pins s σ H Q I (i Q σ H q)⟩

abbrev SE (X : Cx) (W : WX) (e : Expr) (f : EF) : Prop := PE X e (tE (cgd X) W f)
abbrev ST (X : Cx) (W : WX) (e : Expr) (f : TF) : Prop := PT X e (tT (cgd X) W f)
abbrev SA (X : Cx) (W : WX) (e : List Expr) (f : AF) : Prop := PA X e (tA (cgd X) W f)
abbrev SS (X : Cx) (W : WX) (e : Stmt) (f : SF) : Prop := PS X e (tS (cgd X) W f)
abbrev SSs (X : Cx) (W : WX) (e : List Stmt) (f : SF) : Prop := PSs X e (tS (cgd X) W f)

section
variable {G : Gd} {W : WX} {ι : List Addr} {H : Hp} {σ : St} {M : Store} {env : Env} {α β : Type} {R : List Addr → Hp → α → β → Prop}
theorem Post.mono {r : Res α} {Q Q' : β → Hp → Prop} (h : Post G W ι H R σ r Q) (i : ∀ v H', Q v H' → Q' v H') : Post G W ι H R σ r Q' := by
  cases r with
  | ok d M' => exact fun ι' H' v s a q => i _ _ (h ι' H' v s a q)
  | exc c fs M' => exact h
  | bad => exact h
theorem Post.step {ι' : List Addr} {H' : Hp} {r : Res α} {Q : β → Hp → Prop} (s : Step ι H ι' H') (h : Post G W ι H R σ r Q) : Post G W ι' H' R σ r Q := by
  cases r with
  | ok d M' => exact fun ι'' H'' v t a q => h ι'' H'' v (s.trans t) a q
  | exc c fs M' => exact fun ι'' H'' v d t a q => h ι'' H'' v d (s.trans t) a q
  | bad => exact h
theorem PostS.step {ι' : List Addr} {H' : Hp} {r : Res Fl} {C : Ends} (s : Step ι H ι' H') (h : PostS G W ι H r C) : PostS G W ι' H' r C := by
  cases r with
  | ok d M' => cases d with
    | xc c fs env => exact fun ι'' H'' v cls d t a e q => h ι'' H'' v cls d (s.trans t) a e q
    | _ => exact fun ι'' H'' v t a q => h ι'' H'' v (s.trans t) a q
  | exc c fs M' => exact h
  | bad => exact h
theorem PostO.step {ι' : List Addr} {H' : Hp} {r : Option (D × Store)} {Q : VK} (s : Step ι H ι' H') (h : PostO G ι H r Q) : PostO G ι' H' r Q := by
  cases r with
  | none => exact h
  | some p => exact fun ι'' H'' v t a q => h ι'' H'' v (s.trans t) a q
theorem Post.ofO {r : Option (D × Store)} {Q : VK} (h : PostE G W ι H σ (ofO r) Q) : PostO G ι H r Q := by
  cases r with
  | none => exact h
  | some p => exact h
theorem tE.mono {f : EF} {Q Q' : VK} (h : tE G W f σ H Q) (i : ∀ v H', Q v H' → Q' v H') : tE G W f σ H Q' := let ⟨ι, M, env, A, E, h⟩ := h; ⟨ι, M, env, A, E, Post.mono h i⟩
theorem tT.mono {f : TF} {Q Q' : Bool → Hp → Prop} (h : tT G W f σ H Q) (i : ∀ v H', Q v H' → Q' v H') : tT G W f σ H Q' := let ⟨ι, M, env, A, E, h⟩ := h; ⟨ι, M, env, A, E, Post.mono h i⟩
theorem tA.mono {f : AF} {Q Q' : List V → Hp → Prop} (h : tA G W f σ H Q) (i : ∀ v H', Q v H' → Q' v H') : tA G W f σ H Q' := let ⟨ι, M, env, A, E, h⟩ := h; ⟨ι, M, env, A, E, Post.mono h i⟩
/-- one part behind another: the reading of the first is asked with what the second wants -/
theorem tE.seq {γ : Type} {δ : Type} {R2 : List Addr → Hp → γ → δ → Prop} {f : EF} {g : D → Store → Res γ} {Q : δ → Hp → Prop} (A : Abs G.K ι H G.P G.w M) (E : EnvR G.K ι H env σ)
    (h : Post G W ι H R2 σ ((f env M).bind g) Q) :
    tE G W f σ H fun x H1 => ∃ ι1 M1 d, Step ι H ι1 H1 ∧ Abs G.K ι1 H1 G.P G.w M1 ∧ EnvR G.K ι1 H1 env σ ∧ Rep G.K ι1 H1 d x ∧ f env M = .ok d M1 ∧ Post G W ι1 H1 R2 σ (g d M1) Q := by
  refine ⟨ι, M, env, A, E, ?_⟩
  cases e : f env M with
  | ok d M1 =>
    rw [e] at h
    exact fun ι' H' v s a r => ⟨ι', M1, d, s, a, E.ext (s.ext A.nt), r, rfl, Post.step s h⟩
  | exc c fs M1 => rw [e] at h; exact h
  | bad => rw [e] at h; exact h
theorem tE.seqS {f : EF} {g : D → Store → Res Fl} {C : Ends} (A : Abs G.K ι H G.P G.w M) (E : EnvR G.K ι H env σ)
    (h : PostS G W ι H ((f env M).bindS env g) C) :
    tE G W f σ H fun x H1 => ∃ ι1 M1 d, Step ι H ι1 H1 ∧ Abs G.K ι1 H1 G.P G.w M1 ∧ EnvR G.K ι1 H1 env σ ∧ Rep G.K ι1 H1 d x ∧ f env M = .ok d M1 ∧ PostS G W ι1 H1 (g d M1) C := by
  refine ⟨ι, M, env, A, E, ?_⟩
  cases e : f env M with
  | ok d M1 =>
    rw [e] at h
    exact fun ι' H' v s a r => ⟨ι', M1, d, s, a, E.ext (s.ext A.nt), r, rfl, PostS.step s h⟩
  | exc c fs M1 => rw [e] at h; exact fun ι' H' cls d s a x => h ι' H' σ cls d s a (E.ext (s.ext A.nt)) x
  | bad => rw [e] at h; exact h
theorem tT.seq {γ : Type} {δ : Type} {R2 : List Addr → Hp → γ → δ → Prop} {f : TF} {g : Bool → Store → Res γ} {Q : δ → Hp → Prop} (A : Abs G.K ι H G.P G.w M) (E : EnvR G.K ι H env σ)
    (h : Post G W ι H R2 σ ((f env M).bind g) Q) :
    tT G W f σ H fun x H1 => ∃ ι1 M1, Step ι H ι1 H1 ∧ Abs G.K ι1 H1 G.P G.w M1 ∧ EnvR G.K ι1 H1 env σ ∧ f env M = .ok x M1 ∧ Post G W ι1 H1 R2 σ (g x M1) Q := by
  refine ⟨ι, M, env, A, E, ?_⟩
  cases e : f env M with
  | ok d M1 =>
    rw [e] at h
    exact fun ι' H' v s a r => by subst r; exact ⟨ι', M1, s, a, E.ext (s.ext A.nt), rfl, Post.step s h⟩
  | exc c fs M1 => rw [e] at h; exact h
  | bad => rw [e] at h; exact h
theorem tT.seqS {f : TF} {g : Bool → Store → Res Fl} {C : Ends} (A : Abs G.K ι H G.P G.w M) (E : EnvR G.K ι H env σ)
    (h : PostS G W ι H ((f env M).bindS env g) C) :
    tT G W f σ H fun x H1 => ∃ ι1 M1, Step ι H ι1 H1 ∧ Abs G.K ι1 H1 G.P G.w M1 ∧ EnvR G.K ι1 H1 env σ ∧ f env M = .ok x M1 ∧ PostS G W ι1 H1 (g x M1) C := by
  refine ⟨ι, M, env, A, E, ?_⟩
  cases e : f env M with
  | ok d M1 =>
    rw [e] at h
    exact fun ι' H' v s a r => by subst r; exact ⟨ι', M1, s, a, E.ext (s.ext A.nt), rfl, PostS.step s h⟩
  | exc c fs M1 => rw [e] at h; exact fun ι' H' cls d s a x => h ι' H' σ cls d s a (E.ext (s.ext A.nt)) x
  | bad => rw [e] at h; exact h
theorem tA.seq {γ : Type} {δ : Type} {R2 : List Addr → Hp → γ → δ → Prop} {f : AF} {g : List D → Store → Res γ} {Q : δ → Hp → Prop} (A : Abs G.K ι H G.P G.w M) (E : EnvR G.K ι H env σ)
    (h : Post G W ι H R2 σ ((f env M).bind g) Q) :
    tA G W f σ H fun x H1 => ∃ ι1 M1 d, Step ι H ι1 H1 ∧ Abs G.K ι1 H1 G.P G.w M1 ∧ EnvR G.K ι1 H1 env σ ∧ Reps G.K ι1 H1 d x ∧ f env M = .ok d M1 ∧ Post G W ι1 H1 R2 σ (g d M1) Q := by
  refine ⟨ι, M, env, A, E, ?_⟩
  cases e : f env M with
  | ok d M1 =>
    rw [e] at h
    exact fun ι' H' v s a r => ⟨ι', M1, d, s, a, E.ext (s.ext A.nt), r, rfl, Post.step s h⟩
  | exc c fs M1 => rw [e] at h; exact h
  | bad => rw [e] at h; exact h
/-- a value told at once -/
theorem PostO.val {d : D} {v : V} {Q : VK} (A : Abs G.K ι H G.P G.w M) (r : Rep G.K ι H d v) (h : PostO G ι H (some (d, M)) Q) : Q v H := h ι H v Step.refl A r
theorem PostO.tup {l : List D} {vs : List V} {Q : VK} (A : Abs G.K ι H G.P G.w M) (r : Reps G.K ι H l vs) (h : PostO G ι H (some (.tup l, M)) Q) : ∀ p, H p = none → Q (.ref p) (upd H p (.tup vs)) := fun p hp =>
  h ι _ _ (step_tmp hp) (A.tmp hp) (by
    have e : Ext G.K ι H ι (upd H p (.tup vs)) := by have := ext_new (K := G.K) (ι := ι) (u := .tup vs) hp []; simpa using this
    simp only [Rep]
    exact ⟨p, vs, rfl, SqT.of upd_same, r.ext e⟩)
theorem PostO.lst {l : List D} {vs : List V} {Q : VK} (A : Abs G.K ι H G.P G.w M) (r : Reps G.K ι H l vs) (h : PostO G ι H (some (.ref M.length, M ++ [.lst l])) Q) : ∀ p, H p = none → Q (.ref p) (upd H p (.lst vs)) := fun p hp =>
  h (ι ++ [p]) _ _ (step_new hp) (A.new hp ⟨vs, upd_same, r.ext (ext_new hp _)⟩) (by
    simp only [Rep]
    exact ⟨p, by rw [← A.len]; simp, rfl⟩)
end
end Sh

namespace Sh
open PySem L2

/-! ### values by values -/
abbrev O1 := D → Store → Option (D × Store)
abbrev O2 := D → D → Store → Option (D × Store)
abbrev ON := List D → Store → Option (D × Store)
section
variable (G : Gd)
def rO1 (op : O1) : V → Hp → VK → Prop := fun x H Q => ∃ ι M d, Abs G.K ι H G.P G.w M ∧ Rep G.K ι H d x ∧ PostO G ι H (op d M) Q
def rO2 (op : O2) : R2 := fun x y H Q => ∃ ι M d e, Abs G.K ι H G.P G.w M ∧ Rep G.K ι H d x ∧ Rep G.K ι H e y ∧ PostO G ι H (op d e M) Q
def rON (op : ON) : List V → Hp → VK → Prop := fun xs H Q => ∃ ι M ds, Abs G.K ι H G.P G.w M ∧ Reps G.K ι H ds xs ∧ PostO G ι H (op ds M) Q
end
theorem _root_.L2.OpR.imp {X : Cx} {f : Value → Value → Sem Value} {r r' : R2} (h : OpR X f r) (i : ∀ x y H Q, r' x y H Q → r x y H Q) : OpR X f r' := fun pins s σ H x y v u Q I a b q => h pins s σ H x y v u Q I a b (i x y H Q q)
theorem _root_.L2.CallR.imp {X : Cx} {f : Value} {r r' : List V → Hp → VK → Prop} (h : CallR X f r) (i : ∀ x H Q, r' x H Q → r x H Q) : CallR X f r' := fun pins s σ H x v Q I a q => h pins s σ H x v Q I a (i x H Q q)
theorem _root_.L2.UnR.imp {X : Cx} {f : Value → Sem Value} {r r' : V → Hp → VK → Prop} (h : UnR X f r) (i : ∀ x H Q, r' x H Q → r x H Q) : UnR X f r' := fun pins s σ H x v Q I a q => h pins s σ H x v Q I a (i x H Q q)
theorem _root_.L2.IxR.imp {X : Cx} {r r' : R2} (h : IxR X r) (i : ∀ x y H Q, r' x y H Q → r x y H Q) : IxR X r' := fun a b pins s σ H x y v u Q I h1 h2 q => h a b pins s σ H x y v u Q I h1 h2 (i x y H Q q)

abbrev SOp (X : Cx) (f : Value → Value → Sem Value) (op : O2) : Prop := OpR X f (rO2 (cgd X) op)
abbrev SUn (X : Cx) (f : Value → Sem Value) (op : O1) : Prop := UnR X f (rO1 (cgd X) op)
abbrev SCl (X : Cx) (f : Value) (op : ON) : Prop := CallR X f (rON (cgd X) op)

/-! ### meanings of expressions -/
def eVar (i : Nat) : EF := fun σ M => match σ[i]? with
  | some (some d) => .ok d M
  | _ => .bad
def eC (d : D) : EF := fun _ M => .ok d M
def eBin (op : O2) (a b : EF) : EF := fun σ M => (a σ M).bind fun x M1 => (b σ M1).bind fun y M2 => ofO (op x y M2)
def eUn (op : O1) (a : EF) : EF := fun σ M => (a σ M).bind fun x M1 => ofO (op x M1)
def aNil : AF := fun _ M => .ok [] M
def aCons (a : EF) (r : AF) : AF := fun σ M => (a σ M).bind fun x M1 => (r σ M1).bind fun xs M2 => .ok (x :: xs) M2
def toB : D → Option Bool
  | .bl b => some b
  | _ => none
def eAnd (a b : EF) : EF := fun σ M => (a σ M).bind fun x M1 => match x with
  | .bl true => b σ M1
  | .bl false => .ok (.bl false) M1
  | _ => .bad
def eOr (a b : EF) : EF := fun σ M => (a σ M).bind fun x M1 => match x with
  | .bl true => .ok (.bl true) M1
  | .bl false => b σ M1
  | _ => .bad
def eNot (a : EF) : EF := fun σ M => (a σ M).bind fun x M1 => match x with
  | .bl b => .ok (.bl (!b)) M1
  | _ => .bad
def eIf (c : TF) (a b : EF) : EF := fun σ M => (c σ M).bind fun x M1 => if x = true then a σ M1 else b σ M1
def tVal (a : EF) : TF := fun σ M => (a σ M).bind fun x M1 => match x with
  | .bl b => .ok b M1
  | _ => .bad
def tAnd (a b : TF) : TF := fun σ M => (a σ M).bind fun x M1 => if x = true then b σ M1 else .ok false M1
def tOr (a b : TF) : TF := fun σ M => (a σ M).bind fun x M1 => if x = true then .ok true M1 else b σ M1
def tNot (a : TF) : TF := fun σ M => (a σ M).bind fun x M1 => .ok (!x) M1
def eTup (a : AF) : EF := fun σ M => (a σ M).bind fun l M1 => if l.length ≤ 1000000 then .ok (.tup l) M1 else .bad
def eLst (a : AF) : EF := fun σ M => (a σ M).bind fun l M1 => if l.length ≤ 1000000 then .ok (.ref M1.length) (M1 ++ [.lst l]) else .bad
def eChain (op op' : O2) (a b c : EF) : EF := fun σ M => (a σ M).bind fun x M1 => (b σ M1).bind fun y M2 => (ofO (op x y M2)).bind fun k M3 => match k with
  | .bl true => (c σ M3).bind fun z M4 => ofO (op' y z M4)
  | .bl false => .ok (.bl false) M3
  | _ => .bad
def eFld (f : Str) (ok : Nat → Bool) (a : EF) : EF := fun σ M => (a σ M).bind fun x M1 => match x with
  | .ref n => match M1[n]? with
    | some (.ins c fs) => if ok c = true then (match fs.lookup f with
      | some d => .ok d M1
      | none => .bad) else .bad
    | _ => .bad
  | _ => .bad

theorem lim_le {n : Nat} (h : n ≤ 1000000) : n ≤ sizeLine := Nat.le_trans h (by decide)
section
variable {X : Cx} {W : WX}
theorem se_var {i : Nat} {x : Str} {pos : Pos} (hN : X.N[i]? = some x) (hv : Vis X.env.scope x) (hd : (x == ("__debug__" : Str)) = false := by decide) (hcd : (x == ("__classdict__" : Str)) = false := by decide) : SE X W (.Name x pos) (eVar i) :=
  (pe_var hN hv hd hcd).imp fun σ H Q h => by
    obtain ⟨ι, M, env, A, E, h⟩ := h
    unfold eVar at h
    cases e : env[i]? with
    | none => rw [e] at h; exact h.elim
    | some o =>
      cases o with
      | none => rw [e] at h; exact h.elim
      | some d =>
        rw [e] at h
        obtain ⟨v, e2, r⟩ := E.2 i d e
        exact ⟨v, e2, h ι H v Step.refl A r⟩
theorem se_c {e : Expr} {v : V} {d : D} (h : PE X e (tC v)) (hr : ∀ ι H, Rep X.K ι H d v) : SE X W e (eC d) := h.imp fun σ H Q h => by
  obtain ⟨ι, M, env, A, E, h⟩ := h
  exact h ι H v Step.refl A (hr ι H)
theorem se_int {i j pos} : SE X W (.Constant (.int i) j pos) (eC (.int i)) := se_c pe_int fun _ _ => by simp only [Rep]
theorem se_bl {b j pos} : SE X W (.Constant (.bool b) j pos) (eC (.bl b)) := se_c pe_bl fun _ _ => by simp only [Rep]
theorem se_non {j pos} : SE X W (.Constant .none j pos) (eC .non) := se_c pe_non fun _ _ => by simp only [Rep]
theorem se_str {x j pos} : SE X W (.Constant (.str x) j pos) (eC (.str x)) := se_c pe_str fun _ _ => by simp only [Rep]
theorem bin_imp {G : Gd} {f : O2} {fa fb : EF} {σ : St} {H : Hp} {Q : VK} (h : tE G W (eBin f fa fb) σ H Q) : tOp (rO2 G f) (tE G W fa) (tE G W fb) σ H Q := by
  obtain ⟨ι, M, env, A, E, h⟩ := h
  refine tE.mono (tE.seq A E h) fun x H1 ⟨ι1, M1, d1, s1, A1, E1, r1, _, h1⟩ => ?_
  refine tE.mono (tE.seq A1 E1 h1) fun y H2 ⟨ι2, M2, d2, s2, A2, E2, r2, _, h2⟩ => ?_
  exact ⟨ι2, M2, d1, d2, A2, r1.ext (s2.ext A1.nt), r2, Post.ofO h2⟩
theorem test_imp {G : Gd} {f : EF} {t : TE} (i : ∀ σ H Q, tE G W f σ H Q → t σ H Q) {σ : St} {H : Hp} {Q : Bool → Hp → Prop} (h : tT G W (tVal f) σ H Q) : tTest t σ H Q := by
  obtain ⟨ι, M, env, A, E, h⟩ := h
  refine i _ _ _ ⟨ι, M, env, A, E, ?_⟩
  have h : Post G W ι H (fun _ _ (b c : Bool) => b = c) σ ((f env M).bind fun x M1 => match x with | .bl b => .ok b M1 | _ => .bad) Q := h
  cases e : f env M with
  | ok d M1 =>
    rw [e] at h
    intro ι1 H1 v s1 A1 r1
    cases d with
    | bl k =>
      simp only [Rep] at r1
      exact ⟨k, r1, h ι1 H1 _ s1 A1 rfl⟩
    | _ => exact h.elim
  | exc c fs M1 => rw [e] at h; exact h
  | bad => rw [e] at h; exact h
theorem se_bin {op : Operator} {f : O2} {a b : Expr} {fa fb : EF} {pos : Pos} (ho : SOp X (binaryOp op) f) (ha : SE X W a fa) (hb : SE X W b fb) : SE X W (.BinOp a op b pos) (eBin f fa fb) :=
  (pe_op ho ha hb).imp fun σ H Q h => bin_imp h
theorem se_cmp {op : CmpOp} {f : O2} {a b : Expr} {fa fb : EF} {pos : Pos} (ho : SOp X (compareOp op) f) (ha : SE X W a fa) (hb : SE X W b fb) (hm : behindInMarks op b = false) : SE X W (.Compare a [op] [b] pos) (eBin f fa fb) :=
  (pe_cmpR ho ha hb hm).imp fun σ H Q h => bin_imp h
theorem st_cmp {op : CmpOp} {f : O2} {a b : Expr} {fa fb : EF} {pos : Pos} (ho : SOp X (compareOp op) f) (ha : SE X W a fa) (hb : SE X W b fb) (hm : behindInMarks op b = false) : ST X W (.Compare a [op] [b] pos) (tVal (eBin f fa fb)) :=
  (pt_cmpR ho ha hb hm).imp fun σ H Q h => test_imp (fun _ _ _ q => bin_imp q) h
theorem se_un {op : UnaryOp} {f : O1} {a : Expr} {fa : EF} {pos : Pos} (ho : SUn X (unaryOp op) f) (ha : SE X W a fa) : SE X W (.UnaryOp op a pos) (eUn f fa) :=
  (pe_un ho ha).imp fun σ H Q h => by
    obtain ⟨ι, M, env, A, E, h⟩ := h
    refine tE.mono (tE.seq A E h) fun x H1 ⟨ι1, M1, d1, s1, A1, E1, r1, _, h1⟩ => ?_
    exact ⟨ι1, M1, d1, A1, r1, Post.ofO h1⟩
theorem se_and {a b : Expr} {rest : List Expr} {fa fb : EF} {pos : Pos} (ha : SE X W a fa) (hb : SE X W (.BoolOp .And (b :: rest) pos) fb) : SE X W (.BoolOp .And (a :: b :: rest) pos) (eAnd fa fb) :=
  (pe_and ha hb).imp fun σ H Q h => by
    obtain ⟨ι, M, env, A, E, h⟩ := h
    refine tE.mono (tE.seq A E h) fun x H1 ⟨ι1, M1, d1, s1, A1, E1, r1, _, h1⟩ => ?_
    cases d1 with
    | bl k =>
      simp only [Rep] at r1
      subst r1
      cases k with
      | true => exact ⟨true, rfl, by rw [if_pos rfl]; exact ⟨ι1, M1, env, A1, E1, h1⟩⟩
      | false => exact ⟨false, rfl, by rw [if_neg (by decide)]; exact h1 ι1 H1 _ Step.refl A1 (by simp only [Rep])⟩
    | _ => exact h1.elim
theorem se_or {a b : Expr} {rest : List Expr} {fa fb : EF} {pos : Pos} (ha : SE X W a fa) (hb : SE X W (.BoolOp .Or (b :: rest) pos) fb) : SE X W (.BoolOp .Or (a :: b :: rest) pos) (eOr fa fb) :=
  (pe_or ha hb).imp fun σ H Q h => by
    obtain ⟨ι, M, env, A, E, h⟩ := h
    refine tE.mono (tE.seq A E h) fun x H1 ⟨ι1, M1, d1, s1, A1, E1, r1, _, h1⟩ => ?_
    cases d1 with
    | bl k =>
      simp only [Rep] at r1
      subst r1
      cases k with
      | true => exact ⟨true, rfl, by rw [if_pos rfl]; exact h1 ι1 H1 _ Step.refl A1 (by simp only [Rep])⟩
      | false => exact ⟨false, rfl, by rw [if_neg (by decide)]; exact ⟨ι1, M1, env, A1, E1, h1⟩⟩
    | _ => exact h1.elim
theorem se_one {op} {a : Expr} {fa : EF} {pos : Pos} (ha : SE X W a fa) : SE X W (.BoolOp op [a] pos) fa := pe_one ha
theorem se_not {a : Expr} {fa : EF} {pos : Pos} (ha : SE X W a fa) : SE X W (.UnaryOp .Not a pos) (eNot fa) :=
  (pe_not ha).imp fun σ H Q h => by
    obtain ⟨ι, M, env, A, E, h⟩ := h
    refine tE.mono (tE.seq A E h) fun x H1 ⟨ι1, M1, d1, s1, A1, E1, r1, _, h1⟩ => ?_
    cases d1 with
    | bl k =>
      simp only [Rep] at r1
      exact ⟨k, r1, h1 ι1 H1 _ Step.refl A1 (by simp only [Rep])⟩
    | _ => exact h1.elim
theorem se_if {c a b : Expr} {fc : TF} {fa fb : EF} {pos : Pos} (hc : ST X W c fc) (ha : SE X W a fa) (hb : SE X W b fb) : SE X W (.IfExp c a b pos) (eIf fc fa fb) :=
  (pe_ifExp hc ha hb).imp fun σ H Q h => by
    obtain ⟨ι, M, env, A, E, h⟩ := h
    refine tT.mono (tT.seq A E h) fun x H1 ⟨ι1, M1, s1, A1, E1, _, h1⟩ => ?_
    cases x with
    | true => rw [if_pos rfl] at h1 ⊢; exact ⟨ι1, M1, env, A1, E1, h1⟩
    | false => rw [if_neg (by decide)] at h1 ⊢; exact ⟨ι1, M1, env, A1, E1, h1⟩
/-! tests -/
theorem st_val {e : Expr} {f : EF} (h : SE X W e f) (he : ∀ whole, isTrue e X.env whole = (do let v ← whole; standAt e.pos; holding [v] (truthy v)) := by intro _; rfl) : ST X W e (tVal f) :=
  (pt_val h he).imp fun σ H Q h => by
    obtain ⟨ι, M, env, A, E, h⟩ := h
    refine tE.mono (tE.seq A E h) fun x H1 ⟨ι1, M1, d1, s1, A1, E1, r1, _, h1⟩ => ?_
    cases d1 with
    | bl k =>
      simp only [Rep] at r1
      exact ⟨k, r1, h1 ι1 H1 _ Step.refl A1 rfl⟩
    | _ => exact h1.elim
theorem sw_and1 {a : Expr} {fa : TF} {pos : Pos} (ha : ST X W a fa) : PW X (.BoolOp .And [a] pos) (tT (cgd X) W fa) := pw_and1 ha
theorem sw_or1 {a : Expr} {fa : TF} {pos : Pos} (ha : ST X W a fa) : PW X (.BoolOp .Or [a] pos) (tT (cgd X) W fa) := pw_or1 ha
theorem sw_and {a b : Expr} {rest : List Expr} {fa fb : TF} {pos : Pos} (ha : ST X W a fa) (hb : PW X (.BoolOp .And (b :: rest) pos) (tT (cgd X) W fb)) : PW X (.BoolOp .And (a :: b :: rest) pos) (tT (cgd X) W (tAnd fa fb)) :=
  (pw_and ha hb).imp fun σ H Q h => by
    obtain ⟨ι, M, env, A, E, h⟩ := h
    refine tT.mono (tT.seq A E h) fun x H1 ⟨ι1, M1, s1, A1, E1, _, h1⟩ => ?_
    cases x with
    | true => rw [if_pos rfl] at h1 ⊢; exact ⟨ι1, M1, env, A1, E1, h1⟩
    | false => rw [if_neg (by decide)] at h1 ⊢; exact h1 ι1 H1 _ Step.refl A1 rfl
theorem sw_or {a b : Expr} {rest : List Expr} {fa fb : TF} {pos : Pos} (ha : ST X W a fa) (hb : PW X (.BoolOp .Or (b :: rest) pos) (tT (cgd X) W fb)) : PW X (.BoolOp .Or (a :: b :: rest) pos) (tT (cgd X) W (tOr fa fb)) :=
  (pw_or ha hb).imp fun σ H Q h => by
    obtain ⟨ι, M, env, A, E, h⟩ := h
    refine tT.mono (tT.seq A E h) fun x H1 ⟨ι1, M1, s1, A1, E1, _, h1⟩ => ?_
    cases x with
    | true => rw [if_pos rfl] at h1 ⊢; exact h1 ι1 H1 _ Step.refl A1 rfl
    | false => rw [if_neg (by decide)] at h1 ⊢; exact ⟨ι1, M1, env, A1, E1, h1⟩
theorem st_w {e : Expr} {f : TF} (h : PW X e (tT (cgd X) W f)) : ST X W e f := h.pt
theorem st_not {a : Expr} {fa : TF} {pos : Pos} (ha : ST X W a fa) : ST X W (.UnaryOp .Not a pos) (tNot fa) :=
  (pt_not ha).imp fun σ H Q h => by
    obtain ⟨ι, M, env, A, E, h⟩ := h
    refine tT.mono (tT.seq A E h) fun x H1 ⟨ι1, M1, s1, A1, E1, _, h1⟩ => ?_
    exact h1 ι1 H1 _ Step.refl A1 rfl
/-! displays, arguments -/
theorem sa_nil : SA X W [] aNil := pa_nil.imp fun σ H Q h => by
  obtain ⟨ι, M, env, A, E, h⟩ := h
  exact h ι H _ Step.refl A (by simp only [Reps])
theorem sa_cons {e : Expr} {es : List Expr} {fe : EF} {fr : AF} (ha : SE X W e fe) (hr : SA X W es fr) (hs : starEach (e :: es) X.env = (false, eval e X.env) :: starEach es X.env := by rfl) : SA X W (e :: es) (aCons fe fr) :=
  (pa_cons ha hr hs).imp fun σ H Q h => by
    obtain ⟨ι, M, env, A, E, h⟩ := h
    refine tE.mono (tE.seq A E h) fun x H1 ⟨ι1, M1, d1, s1, A1, E1, r1, _, h1⟩ => ?_
    refine tA.mono (tA.seq A1 E1 h1) fun xs H2 ⟨ι2, M2, d2, s2, A2, E2, r2, _, h2⟩ => ?_
    exact h2 ι2 H2 _ Step.refl A2 (by simp only [Reps]; exact ⟨_, _, rfl, r1.ext (s2.ext A1.nt), r2⟩)
theorem Reps.length {K : PySem.W.Frag} {ι : List Addr} {H : Hp} : ∀ {l : List D} {vs : List V}, Reps K ι H l vs → l.length = vs.length
  | [], vs, h => by simp only [Reps] at h; simp [h]
  | d :: l, vs, h => by
    simp only [Reps] at h
    obtain ⟨v, r, rfl, _, h2⟩ := h
    simp [Reps.length h2]
theorem se_tup {es : List Expr} {x1} {f : AF} {pos : Pos} (h : SA X W es f) : SE X W (.Tuple es x1 pos) (eTup f) :=
  (pe_tup h).imp fun σ H Q h => by
    obtain ⟨ι, M, env, A, E, h⟩ := h
    refine tA.mono (tA.seq A E h) fun xs H1 ⟨ι1, M1, d1, s1, A1, E1, r1, _, h1⟩ => ?_
    by_cases hl : d1.length ≤ 1000000
    · rw [if_pos hl] at h1
      exact ⟨by rw [← r1.length]; exact lim_le hl, PostO.tup A1 r1 (fun ι' H' v s a r => h1 ι' H' v s a r)⟩
    · rw [if_neg hl] at h1; exact h1.elim
theorem se_lst {es : List Expr} {f : AF} {pos : Pos} (h : SA X W es f) : SE X W (.List es pos) (eLst f) :=
  (pe_lst h).imp fun σ H Q h => by
    obtain ⟨ι, M, env, A, E, h⟩ := h
    refine tA.mono (tA.seq A E h) fun xs H1 ⟨ι1, M1, d1, s1, A1, E1, r1, _, h1⟩ => ?_
    by_cases hl : d1.length ≤ 1000000
    · rw [if_pos hl] at h1
      exact ⟨by rw [← r1.length]; exact lim_le hl, PostO.lst A1 r1 (fun ι' H' v s a r => h1 ι' H' v s a r)⟩
    · rw [if_neg hl] at h1; exact h1.elim
theorem chain_imp {G : Gd} {f f' : O2} {fa fb fc : EF} {σ : St} {H : Hp} {Q : VK} (h : tE G W (eChain f f' fa fb fc) σ H Q) : tChain (rO2 G f) (rO2 G f') (tE G W fa) (tE G W fb) (tE G W fc) σ H Q := by
  obtain ⟨ι, M, env, A, E, h⟩ := h
  refine tE.mono (tE.seq A E h) fun x H1 ⟨ι1, M1, d1, s1, A1, E1, r1, _, h1⟩ => ?_
  refine tE.mono (tE.seq A1 E1 h1) fun y H2 ⟨ι2, M2, d2, s2, A2, E2, r2, _, h2⟩ => ?_
  refine ⟨ι2, M2, d1, d2, A2, r1.ext (s2.ext A1.nt), r2, ?_⟩
  cases e : f d1 d2 M2 with
  | none => rw [e] at h2; exact h2
  | some p =>
    rw [e] at h2
    intro ι3 H3 v s3 A3 r3
    obtain ⟨z, M3⟩ := p
    have h3 := Post.step s3 h2
    have E3 := E2.ext (s3.ext A2.nt)
    have r2' := r2.ext (s3.ext A2.nt)
    cases z with
    | bl k =>
      simp only [Rep] at r3
      refine ⟨k, r3, ?_⟩
      cases k with
      | true =>
        rw [if_pos rfl]
        refine tE.mono (tE.seq A3 E3 h3) fun z H4 ⟨ι4, M4, d4, s4, A4, E4, r4, _, h4⟩ => ?_
        exact ⟨ι4, M4, d2, d4, A4, r2'.ext (s4.ext A3.nt), r4, Post.ofO h4⟩
      | false => rw [if_neg (by decide)]; exact h3 ι3 H3 _ Step.refl A3 (by simp only [Rep])
    | _ => exact h3.elim
theorem se_chain {op op' : CmpOp} {f f' : O2} {a b c : Expr} {fa fb fc : EF} {pos : Pos} (ho : SOp X (compareOp op) f) (ho' : SOp X (compareOp op') f') (ha : SE X W a fa) (hb : SE X W b fb) (hc : SE X W c fc)
    (hm : lastMarks [op, op'] [b, c] = false := by with_unfolding_all rfl) : SE X W (.Compare a [op, op'] [b, c] pos) (eChain f f' fa fb fc) :=
  (pe_chain ho ho' ha hb hc hm).imp fun σ H Q h => chain_imp h
theorem st_chain {op op' : CmpOp} {f f' : O2} {a b c : Expr} {fa fb fc : EF} {pos : Pos} (ho : SOp X (compareOp op) f) (ho' : SOp X (compareOp op') f') (ha : SE X W a fa) (hb : SE X W b fb) (hc : SE X W c fc)
    (hm : lastMarks [op, op'] [b, c] = false := by with_unfolding_all rfl) : ST X W (.Compare a [op, op'] [b, c] pos) (tVal (eChain f f' fa fb fc)) :=
  (pt_chain ho ho' ha hb hc hm).imp fun σ H Q h => test_imp (fun _ _ _ q => chain_imp q) h
/-! fields -/
theorem FRel.look {K : PySem.W.Frag} {ι : List Addr} {H : Hp} {f : Str} {d : D} : ∀ {fs : List (Str × D)} {vs : List (Str × V)}, FRel K ι H fs vs → fs.lookup f = some d → ∃ v, vs.lookup f = some v ∧ Rep K ι H d v
  | _, _, .nil, e => by simp at e
  | (g, x) :: fs, (g', y) :: vs, .cons r t, e => by
    obtain ⟨q, r⟩ := r
    simp only at q
    subst q
    simp only [List.lookup_cons] at e ⊢
    cases h : f == g with
    | true => rw [h] at e; simp only at e ⊢; cases e; exact ⟨y, rfl, r⟩
    | false => rw [h] at e; simp only at e ⊢; exact FRel.look t e
theorem FRel.lookN {K : PySem.W.Frag} {ι : List Addr} {H : Hp} {f : Str} : ∀ {fs : List (Str × D)} {vs : List (Str × V)}, FRel K ι H fs vs → fs.lookup f = none → vs.lookup f = none
  | _, _, .nil, e => rfl
  | (g, x) :: fs, (g', y) :: vs, .cons r t, e => by
    obtain ⟨q, r⟩ := r
    simp only at q
    subst q
    simp only [List.lookup_cons] at e ⊢
    cases h : f == g with
    | true => rw [h] at e; simp only at e; cases e
    | false => rw [h] at e; simp only at e ⊢; exact FRel.lookN t e
theorem se_fld {e : Expr} {f : Str} {fe : EF} {ok : Nat → Bool} {pos : Pos} (hc : ∀ c, ok c = true → Cls X.K (ca X.K c) ∧ NoAttr X.K (ca X.K c) f) (he : SE X W e fe) (hb : attributeBase e f X.env (eval e X.env) = eval e X.env) : SE X W (.Attribute e f pos) (eFld f ok fe) :=
  (pe_fld he hb).imp fun σ H Q h => by
    obtain ⟨ι, M, env, A, E, h⟩ := h
    refine tE.mono (tE.seq A E h) fun x H1 ⟨ι1, M1, d1, s1, A1, E1, r1, _, h1⟩ => ?_
    cases d1 with
    | ref n =>
      simp only at h1
      cases e1 : M1[n]? with
      | none => rw [e1] at h1; exact h1.elim
      | some o =>
        rw [e1] at h1
        cases o with
        | ins c fs =>
          simp only at h1
          cases e2 : ok c with
          | false => rw [e2, if_neg (by decide)] at h1; exact h1.elim
          | true =>
            rw [e2, if_pos rfl] at h1
            cases e3 : fs.lookup f with
            | none => rw [e3] at h1; exact h1.elim
            | some d =>
              rw [e3] at h1
              simp only [Rep] at r1
              obtain ⟨a, ea, rfl⟩ := r1
              obtain ⟨dx, vs, hH, fr⟩ := A1.obj n a _ ea e1
              obtain ⟨v, hv, rv⟩ := fr.look e3
              exact ⟨a, ca X.K c, dx, vs, v, rfl, hH, (hc c e2).1, (hc c e2).2, hv, h1 ι1 H1 _ Step.refl A1 rv⟩
        | _ => exact h1.elim
    | _ => exact h1.elim
end
end Sh

namespace Sh
open PySem L2

/-! ### targets -/
abbrev GF := D → Env → Store → Option (Env × Store)
abbrev GFs := List D → Env → Store → Option (Env × Store)
section
variable (G : Gd)
def PostG (ι : List Addr) (H : Hp) (r : Option (Env × Store)) (Q : St → Hp → Prop) : Prop := match r with
  | some (env, M') => ∀ ι' H' σ', Step ι H ι' H' → Abs G.K ι' H' G.P G.w M' → EnvR G.K ι' H' env σ' → Q σ' H'
  | none => False
def tG (f : GF) : TG := fun v σ H Q => ∃ ι M env d, Abs G.K ι H G.P G.w M ∧ EnvR G.K ι H env σ ∧ Rep G.K ι H d v ∧ PostG G ι H (f d env M) Q
def tGs (f : GFs) : TGs := fun vs σ H Q => ∃ ι M env ds, Abs G.K ι H G.P G.w M ∧ EnvR G.K ι H env σ ∧ Reps G.K ι H ds vs ∧ PostG G ι H (f ds env M) Q
end
theorem _root_.L2.PG.imp {X : Cx} {e : Expr} {t t' : TG} (h : PG X e t) (i : ∀ v σ H Q, t' v σ H Q → t v σ H Q) : PG X e t' := ⟨fun pins s σ H v u Q I r q => h.run pins s σ H v u Q I r (i v σ H Q q)⟩
theorem _root_.L2.PGs.imp {X : Cx} {e : List Expr} {t t' : TGs} (h : PGs X e t) (i : ∀ v σ H Q, t' v σ H Q → t v σ H Q) : PGs X e t' := ⟨fun pins s σ H v u Q I r q => h.run pins s σ H v u Q I r (i v σ H Q q)⟩
theorem _root_.L2.PSet.imp {X : Cx} {t t' : TSet} (h : PSet X t) (i : ∀ x y v H Q, t' x y v H Q → t x y v H Q) : PSet X t' := fun pins s σ H o j v ov iv u Q I a b c q => h pins s σ H o j v ov iv u Q I a b c (i o j v H Q q)
theorem _root_.L2.PGet.imp {X : Cx} {t t' : V → V → Hp → VK → Prop} (h : PGet X t) (i : ∀ x y H Q, t' x y H Q → t x y H Q) : PGet X t' := fun pins s σ H o j ov iv Q I a b q => h pins s σ H o j ov iv Q I a b (i o j H Q q)
theorem _root_.L2.PIp.imp {X : Cx} {op : Operator} {t t' : TIp} (h : PIp X op t) (i : ∀ x y H Q, t' x y H Q → t x y H Q) : PIp X op t' := fun pins s σ H o j ov iv Q I a b q => h pins s σ H o j ov iv Q I a b (i o j H Q q)
abbrev SG (X : Cx) (e : Expr) (f : GF) : Prop := PG X e (tG (cgd X) f)
abbrev SGs (X : Cx) (e : List Expr) (f : GFs) : Prop := PGs X e (tGs (cgd X) f)
/-- a store by values -/
abbrev O3 := D → D → D → Store → Option Store
def rO3 (G : Gd) (op : O3) : TSet := fun o i v H Q => ∃ ι M a b c, Abs G.K ι H G.P G.w M ∧ Rep G.K ι H a o ∧ Rep G.K ι H b i ∧ Rep G.K ι H c v ∧ match op a b c M with
  | some M' => ∀ ι' H', Step ι H ι' H' → Abs G.K ι' H' G.P G.w M' → Q H'
  | none => False

def gNm (i : Nat) : GF := fun d env M => some (env.set i (some d), M)
def gsNil : GFs := fun ds env M => match ds with
  | [] => some (env, M)
  | _ => none
def gsCons (g : GF) (r : GFs) : GFs := fun ds env M => match ds with
  | d :: l => match g d env M with
    | some (env1, M1) => r l env1 M1
    | none => none
  | [] => none
def gTu (n : Nat) (r : GFs) : GF := fun d env M => match d with
  | .tup l => if l.length = n then r l env M else none
  | .ref k => match M[k]? with
    | some (.lst l) => if l.length = n then r l env M else none
    | _ => none
  | _ => none

/-! ### meanings of statements -/
def sSkip : SF := fun env M => .ok (.nx env) M
def sBad : SF := fun _ _ => .bad
def sSeq (a b : SF) : SF := fun env M => match a env M with
  | .ok (.nx env1) M1 => b env1 M1
  | r => r
def sExpr (f : EF) : SF := fun env M => (f env M).bindS env fun _ M1 => .ok (.nx env) M1
def sRet (f : EF) : SF := fun env M => (f env M).bindS env fun d M1 => .ok (.rt d) M1
def sRetN : SF := fun env M => .ok (.rt .non) M
def sBrk : SF := fun env M => .ok (.bk env) M
def sCont : SF := fun env M => .ok (.ct env) M
def sIf (c : TF) (a b : SF) : SF := fun env M => (c env M).bindS env fun x M1 => if x = true then a env M1 else b env M1
def sAsg (f : EF) (g : GF) : SF := fun env M => (f env M).bindS env fun d M1 => match g d env M1 with
  | some (env2, M2) => .ok (.nx env2) M2
  | none => .bad
abbrev sSet (i : Nat) (f : EF) : SF := sAsg f (gNm i)
def sStore (op : O3) (fv fo fi : EF) : SF := fun env M => (fv env M).bindS env fun v M1 => (fo env M1).bindS env fun o M2 => (fi env M2).bindS env fun i M3 => match op o i v M3 with
  | some M4 => .ok (.nx env) M4
  | none => .bad
def sAugS (get : O2) (ip : O2) (op : O3) (fo fi fv : EF) : SF := fun env M => (fo env M).bindS env fun o M1 => (fi env M1).bindS env fun i M2 => (ofO (get o i M2)).bindS env fun x M3 => (fv env M3).bindS env fun y M4 => (ofO (ip x y M4)).bindS env fun z M5 => match op o i z M5 with
  | some M6 => .ok (.nx env) M6
  | none => .bad
section
variable {X : Cx} {W : WX}
theorem EnvR.set {K : PySem.W.Frag} {ι : List Addr} {H : Hp} {env : Env} {σ : St} {i : Nat} {d : D} {v : V} (E : EnvR K ι H env σ) (r : Rep K ι H d v) : EnvR K ι H (env.set i (some d)) (σ.set i (some v)) := by
  refine ⟨by simp [E.1], fun j x e => ?_⟩
  by_cases h : i = j
  · subst h
    by_cases hl : i < env.length
    · rw [List.getElem?_set_self hl] at e
      cases e
      exact ⟨v, by rw [List.getElem?_set_self (by rw [← E.1]; exact hl)], r⟩
    · rw [List.getElem?_eq_none (by simpa using hl)] at e; cases e
  · rw [List.getElem?_set_ne h] at e ⊢
    exact E.2 j x e
theorem sg_nm {i : Nat} {x : Str} {pos : Pos} (hN : X.N.Nodup) (hi : X.N[i]? = some x) (hx : Loc X.env.scope x) (hf : X.fn x = true ∨ X.env.scope.names.lookup x = some .local := by first | exact .inl rfl | exact .inr rfl | assumption) : SG X (.Name x pos) (gNm i) :=
  (pg_name hN hi hx hf).imp fun v σ H Q h => by
    obtain ⟨ι, M, env, d, A, E, r, h⟩ := h
    exact h ι H _ Step.refl A (E.set r)
theorem sgs_nil : SGs X [] gsNil := pgs_nil.imp fun vs σ H Q h => by
  obtain ⟨ι, M, env, ds, A, E, r, h⟩ := h
  cases ds with
  | nil => simp only [Reps] at r; exact ⟨r, h ι H _ Step.refl A E⟩
  | cons _ _ => exact h.elim
theorem sgs_cons {e : Expr} {es : List Expr} {g : GF} {r : GFs} (h1 : SG X e g) (h2 : SGs X es r)
    (hs : (assignEach (e :: es) X.env).map (·.2) = assign e X.env :: (assignEach es X.env).map (·.2) := by rfl) : SGs X (e :: es) (gsCons g r) :=
  (pgs_cons h1 h2 hs).imp fun vs σ H Q h => by
    obtain ⟨ι, M, env, ds, A, E, rr, h⟩ := h
    cases ds with
    | nil => exact h.elim
    | cons d l =>
      simp only [Reps] at rr
      obtain ⟨v, rs, rfl, r1, r2⟩ := rr
      refine ⟨v, rs, rfl, ι, M, env, d, A, E, r1, ?_⟩
      have h : PostG (cgd X) ι H (match g d env M with | some (env1, M1) => r l env1 M1 | none => none) Q := h
      cases e : g d env M with
      | none => rw [e] at h; exact h
      | some p =>
        rw [e] at h
        intro ι1 H1 σ1 s1 A1 E1
        refine ⟨ι1, p.2, p.1, l, A1, E1, r2.ext (s1.ext A.nt), ?_⟩
        cases e2 : r l p.1 p.2 with
        | none => simp only [e2] at h; exact h
        | some q => simp only [e2] at h; exact fun ι2 H2 σ2 s2 A2 E2 => h ι2 H2 σ2 (s1.trans s2) A2 E2
/-- a, b = x : a tuple, or a list -/
theorem sg_tu {es : List Expr} {k : Nat} {r : GFs} {n : Nat} {pos : Pos} (hc : X.calm = true) (h : SGs X es r)
    (hn : (assignEach es X.env).length = n := by rfl) (hst : (assignEach es X.env).findIdx? (·.1) = none := by rfl) : SG X (.Tuple es k pos) (gTu n r) := by
  have p1 := pg_tup (pos := pos) (k := k) hc h hn hst
  have p2 := pg_lst (pos := pos) (k := k) hc h hn hst
  refine ⟨fun pins s σ H v u Q I rv q => ?_⟩
  obtain ⟨ι, M, env, d, A, E, rr, q⟩ := q
  cases d with
  | tup l =>
    simp only [Rep] at rr
    obtain ⟨a, vs, rfl, h1, h2⟩ := rr
    have q : PostG (cgd X) ι H (if l.length = n then r l env M else none) Q := q
    by_cases hl : l.length = n
    · rw [if_pos hl] at q
      exact p1.run pins s σ H _ u Q I rv ⟨a, vs, rfl, h1, by rw [← h2.length]; exact hl, ι, M, env, l, A, E, h2, q⟩
    · rw [if_neg hl] at q; exact q.elim
  | ref k =>
    simp only [Rep] at rr
    obtain ⟨a, ea, rfl⟩ := rr
    have q : PostG (cgd X) ι H (match M[k]? with | some (.lst l) => if l.length = n then r l env M else none | _ => none) Q := q
    cases e : M[k]? with
    | none => rw [e] at q; exact q.elim
    | some o =>
      rw [e] at q
      cases o with
      | lst l =>
        simp only at q
        obtain ⟨vs, h1, h2⟩ := A.obj k a _ ea e
        by_cases hl : l.length = n
        · rw [if_pos hl] at q
          exact p2.run pins s σ H _ u Q I rv ⟨a, vs, rfl, SqL.of h1, by rw [← h2.length]; exact hl, ι, M, env, l, A, E, h2, q⟩
        · rw [if_neg hl] at q; exact q.elim
      | _ => exact q.elim
  | _ => exact q.elim
/-! ### statements -/
theorem sss_nil : SSs X W [] sSkip := pss_nil.imp fun C σ H h => by
  obtain ⟨ι, M, env, A, E, h⟩ := h
  exact h ι H _ Step.refl A E
theorem ss_pass {pos : Pos} : SS X W (.Pass pos) sSkip := ps_pass.imp fun C σ H h => by
  obtain ⟨ι, M, env, A, E, h⟩ := h
  exact h ι H _ Step.refl A E
theorem ss_doc {x j pos pos'} : SS X W (.Expr (.Constant (.str x) j pos) pos') sSkip := ps_doc.imp fun C σ H h => by
  obtain ⟨ι, M, env, A, E, h⟩ := h
  exact h ι H _ Step.refl A E
theorem ss_bad {st : Stmt} : SS X W st sBad := ps_never.imp fun C σ H h => by
  obtain ⟨ι, M, env, A, E, h⟩ := h
  exact h.elim
theorem sss_bad {st : List Stmt} : SSs X W st sBad := pss_never.imp fun C σ H h => by
  obtain ⟨ι, M, env, A, E, h⟩ := h
  exact h.elim
theorem sss_cons {st : Stmt} {rest : List Stmt} {f g : SF} (h1 : SS X W st f) (h2 : SSs X W rest g) : SSs X W (st :: rest) (sSeq f g) :=
  (pss_cons h1 h2).imp fun C σ H h => by
    obtain ⟨ι, M, env, A, E, h⟩ := h
    refine ⟨ι, M, env, A, E, ?_⟩
    have h : PostS (cgd X) W ι H (match f env M with | .ok (.nx env1) M1 => g env1 M1 | r => r) C := h
    cases e : f env M with
    | ok fl M1 =>
      rw [e] at h
      cases fl with
      | nx env1 => exact fun ι1 H1 σ1 s1 A1 E1 => ⟨ι1, M1, env1, A1, E1, PostS.step s1 h⟩
      | _ => exact h
    | exc c fs M1 => rw [e] at h; exact h
    | bad => rw [e] at h; exact h
theorem sss_one {st : Stmt} {f : SF} (h1 : SS X W st f) : SSs X W [st] f := pss_one h1
theorem ss_expr {e : Expr} {f : EF} {pos : Pos} (he : SE X W e f) (hs : swapsWith e none pos.line X.env = pure false := by rfl) : SS X W (.Expr e pos) (sExpr f) :=
  (ps_expr he hs).imp fun C σ H h => by
    obtain ⟨ι, M, env, A, E, h⟩ := h
    refine tE.mono (tE.seqS A E h) fun x H1 ⟨ι1, M1, d1, s1, A1, E1, r1, _, h1⟩ => ?_
    exact h1 ι1 H1 _ Step.refl A1 E1
theorem ss_ret {e : Expr} {f : EF} {pos : Pos} (he : SE X W e f) : SS X W (.Return (some e) pos) (sRet f) :=
  (ps_ret he).imp fun C σ H h => by
    obtain ⟨ι, M, env, A, E, h⟩ := h
    refine tE.mono (tE.seqS A E h) fun x H1 ⟨ι1, M1, d1, s1, A1, E1, r1, _, h1⟩ => ?_
    exact h1 ι1 H1 _ Step.refl A1 r1
theorem ss_retN {pos : Pos} : SS X W (.Return none pos) sRetN := ps_retN.imp fun C σ H h => by
  obtain ⟨ι, M, env, A, E, h⟩ := h
  exact h ι H _ Step.refl A (by simp only [Rep])
theorem ss_brk {pos : Pos} : SS X W (.Break pos) sBrk := ps_break.imp fun C σ H h => by
  obtain ⟨ι, M, env, A, E, h⟩ := h
  exact h ι H _ Step.refl A E
theorem ss_cont {pos : Pos} : SS X W (.Continue pos) sCont := ps_continue.imp fun C σ H h => by
  obtain ⟨ι, M, env, A, E, h⟩ := h
  exact h ι H _ Step.refl A E
theorem ss_if {c : Expr} {a b : List Stmt} {fc : TF} {fa fb : SF} {pos : Pos} (hc : ST X W c fc) (ha : SSs X W a fa) (hb : SSs X W b fb) : SS X W (.If c a b pos) (sIf fc fa fb) :=
  (ps_if hc ha hb).imp fun C σ H h => by
    obtain ⟨ι, M, env, A, E, h⟩ := h
    refine tT.mono (tT.seqS A E h) fun x H1 ⟨ι1, M1, s1, A1, E1, _, h1⟩ => ?_
    cases x with
    | true => rw [if_pos rfl] at h1 ⊢; exact ⟨ι1, M1, env, A1, E1, h1⟩
    | false => rw [if_neg (by decide)] at h1 ⊢; exact ⟨ι1, M1, env, A1, E1, h1⟩
theorem asg_imp {f : EF} {g : GF} {C : Ends} {σ : St} {H : Hp} (h : tS (cgd X) W (sAsg f g) C σ H) : tAsg (tE (cgd X) W f) (tG (cgd X) g) C σ H := by
  obtain ⟨ι, M, env, A, E, h⟩ := h
  refine tE.mono (tE.seqS A E h) fun x H1 ⟨ι1, M1, d1, s1, A1, E1, r1, _, h1⟩ => ?_
  refine ⟨ι1, M1, env, d1, A1, E1, r1, ?_⟩
  cases e : g d1 env M1 with
  | none => rw [e] at h1; exact h1
  | some p => rw [e] at h1; exact h1
theorem ss_asg {tg e : Expr} {f : EF} {g : GF} {pos : Pos} (he : SE X W e f) (hg : SG X tg g) (hs : swapsWithSole [tg] e pos.line X.env = pure false := by rfl) (hw : swappedStores [tg] e X.env = pure none := by rfl)
    (h1 : (assignEach [tg] X.env).map (·.2) = [assign tg X.env] := by rfl) : SS X W (.Assign [tg] e pos) (sAsg f g) :=
  (ps_asg he hg hs hw h1).imp fun C σ H h => asg_imp h
theorem ss_set {i : Nat} {x : Str} {e : Expr} {f : EF} {pos pos' : Pos} (hN : X.N.Nodup) (hi : X.N[i]? = some x) (hx : Loc X.env.scope x) (he : SE X W e f) (hs : swapsWith e (some (.Name x pos')) pos.line X.env = pure false := by rfl) (hf : X.fn x = true ∨ X.env.scope.names.lookup x = some .local := by first | exact .inl rfl | exact .inr rfl | assumption) :
    SS X W (.Assign [.Name x pos'] e pos) (sSet i f) :=
  (ps_set hN hi hx he hs hf).imp fun C σ H h => by
    obtain ⟨ι, M, env, A, E, h⟩ := h
    refine tE.mono (tE.seqS A E h) fun x H1 ⟨ι1, M1, d1, s1, A1, E1, r1, _, h1⟩ => ?_
    exact h1 ι1 H1 _ Step.refl A1 (E1.set r1)
end
end Sh

namespace Sh
open PySem L2

/-! ### what is walked -/
structure Src where
  items : List D
  guard : Store → Bool
abbrev IF := Env → Store → Res Src
/-- the iterator J gives out the items, as long as the guard stands -/
def SimI (G : Gd) (ι0 : List Addr) (H0 : Hp) (J : It) (s : Src) : Prop := ∀ (i : Nat) (ι : List Addr) (H : Hp) (M : Store), Ext G.K ι0 H0 ι H → Abs G.K ι H G.P G.w M → s.guard M = true →
  (∀ d, s.items[i]? = some d → J.go i H ∧ ∀ x H', J.yld i H x H' → Step ι H ι H' ∧ Abs G.K ι H' G.P G.w M ∧ Rep G.K ι H' d x) ∧ (i = s.items.length → J.stop i H)
def tI (G : Gd) (W : WX) (f : IF) : TI := fun σ H R => ∃ ι M env, Abs G.K ι H G.P G.w M ∧ EnvR G.K ι H env σ ∧ Post G W ι H (fun ι' H' s J => SimI G ι' H' J s) σ (f env M) R
theorem _root_.L2.PI.imp {X : Cx} {tg e : Expr} {t t' : TI} (h : PI X tg e t) (i : ∀ σ H R, t' σ H R → t σ H R) : PI X tg e t' := ⟨fun pins s σ H R I q => h.run pins s σ H R I (i σ H R q)⟩
abbrev SI (X : Cx) (W : WX) (tg e : Expr) (f : IF) : Prop := PI X tg e (tI (cgd X) W f)
section
variable {G : Gd} {W : WX} {ι : List Addr} {H : Hp} {σ : St} {M : Store} {env : Env}
theorem tI.seqS {f : IF} {g : Src → Store → Res Fl} {C : Ends} (A : Abs G.K ι H G.P G.w M) (E : EnvR G.K ι H env σ)
    (h : PostS G W ι H ((f env M).bindS env g) C) :
    tI G W f σ H fun J H1 => ∃ ι1 M1 d, Step ι H ι1 H1 ∧ Abs G.K ι1 H1 G.P G.w M1 ∧ EnvR G.K ι1 H1 env σ ∧ SimI G ι1 H1 J d ∧ f env M = .ok d M1 ∧ PostS G W ι1 H1 (g d M1) C := by
  refine ⟨ι, M, env, A, E, ?_⟩
  cases e : f env M with
  | ok d M1 =>
    rw [e] at h
    exact fun ι' H' v s a r => ⟨ι', M1, d, s, a, E.ext (s.ext A.nt), r, rfl, PostS.step s h⟩
  | exc c fs M1 => rw [e] at h; exact fun ι' H' cls d s a x => h ι' H' σ cls d s a (E.ext (s.ext A.nt)) x
  | bad => rw [e] at h; exact h
theorem tI.seq {γ : Type} {δ : Type} {R2 : List Addr → Hp → γ → δ → Prop} {f : IF} {g : Src → Store → Res γ} {Q : δ → Hp → Prop} (A : Abs G.K ι H G.P G.w M) (E : EnvR G.K ι H env σ)
    (h : Post G W ι H R2 σ ((f env M).bind g) Q) :
    tI G W f σ H fun J H1 => ∃ ι1 M1 d, Step ι H ι1 H1 ∧ Abs G.K ι1 H1 G.P G.w M1 ∧ EnvR G.K ι1 H1 env σ ∧ SimI G ι1 H1 J d ∧ f env M = .ok d M1 ∧ Post G W ι1 H1 R2 σ (g d M1) Q := by
  refine ⟨ι, M, env, A, E, ?_⟩
  cases e : f env M with
  | ok d M1 =>
    rw [e] at h
    exact fun ι' H' v s a r => ⟨ι', M1, d, s, a, E.ext (s.ext A.nt), r, rfl, Post.step s h⟩
  | exc c fs M1 => rw [e] at h; exact h
  | bad => rw [e] at h; exact h
theorem tI.mono {f : IF} {R R' : It → Hp → Prop} (h : tI G W f σ H R) (i : ∀ v H', R v H' → R' v H') : tI G W f σ H R' := let ⟨ι, M, env, A, E, h⟩ := h; ⟨ι, M, env, A, E, Post.mono h i⟩
theorem Ext.refl {K : PySem.W.Frag} {ι : List Addr} {H : Hp} : Ext K ι H ι H := ⟨fun _ _ h => h, fun _ _ h => h, fun _ _ _ h => h⟩
theorem Ext.trans {K : PySem.W.Frag} {ι ι' ι'' : List Addr} {H H' H'' : Hp} (a : Ext K ι H ι' H') (b : Ext K ι' H' ι'' H'') : Ext K ι H ι'' H'' := ⟨fun n x h => b.ix n x (a.ix n x h), fun x v h => b.tup x v (a.tup x v h), fun x o u h => b.frz x o u (a.frz x o u h)⟩
end
/-! ### for -/
def forGo (guard : Store → Bool) (g : GF) (body : SF) : List D → Env → Store → Res Fl
  | [], env, M => if guard M = true then .ok (.nx env) M else .bad
  | x :: r, env, M => if guard M = true then (match g x env M with
    | none => .bad
    | some (env1, M1) => match body env1 M1 with
      | .ok (.nx e) M2 => forGo guard g body r e M2
      | .ok (.ct e) M2 => forGo guard g body r e M2
      | .ok (.bk e) M2 => .ok (.nx e) M2
      | q => q) else .bad
def sFor (fi : IF) (g : GF) (body : SF) : SF := fun env M => (fi env M).bindS env fun s M1 => forGo s.guard g body s.items env M1
def whGo (c : TF) (body : SF) : Nat → Env → Store → Res Fl
  | 0, _, _ => .bad
  | n + 1, env, M => (c env M).bindS env fun x M1 => if x = true then (match body env M1 with
      | .ok (.nx e) M2 => whGo c body n e M2
      | .ok (.ct e) M2 => whGo c body n e M2
      | .ok (.bk e) M2 => .ok (.nx e) M2
      | q => q) else .ok (.nx env) M1
def sWhile (n : Nat) (c : TF) (body : SF) : SF := fun env M => whGo c body n env M
section
variable {X : Cx} {W : WX}
theorem ss_for {tg iter : Expr} {body : List Stmt} {fi : IF} {g : GF} {fb : SF} {pos : Pos} (hp : PassesOwn (model X.prog X.w) X.A X.env X.xe) (hc : X.calm = true) (hi : SI X W tg iter fi) (hg : SG X tg g) (hb : SSs X W body fb) (hs : ∀ x, foldedSetIterable iter X.env x = pure x := by intro _; rfl) :
    SS X W (.For tg iter body [] pos) (sFor fi g fb) :=
  (ps_for hp hc hi hg hb hs).imp fun C σ H h => by
    obtain ⟨ι, M, env, A, E, h⟩ := h
    refine tI.mono (tI.seqS A E h) fun J H1 ⟨ι1, M1, s, s1, A1, E1, sim, _, h1⟩ => ?_
    refine ⟨fun i m σ H => m = s.items.length - i ∧ i ≤ s.items.length ∧ ∃ ι M env, Ext (cgd X).K ι1 H1 ι H ∧ Abs (cgd X).K ι H (cgd X).P (cgd X).w M ∧ EnvR (cgd X).K ι H env σ ∧ PostS (cgd X) W ι H (forGo s.guard g fb (s.items.drop i) env M) C,
      ⟨s.items.length, by simp, Nat.zero_le _, ι1, M1, env, Ext.refl, A1, E1, by simpa using h1⟩, ?_⟩
    rintro i m σ2 H2 ⟨rfl, hile, ι2, M2, env2, x2, A2, E2, h2⟩
    cases ei : s.items[i]? with
    | none =>
      have hl : s.items.length ≤ i := List.getElem?_eq_none_iff.mp ei
      rw [List.drop_eq_nil_of_le hl] at h2
      unfold forGo at h2
      by_cases hgd : s.guard M2 = true
      · rw [if_pos hgd] at h2
        exact .inl ⟨(sim i ι2 H2 M2 x2 A2 hgd).2 (Nat.le_antisymm hile hl), h2 ι2 H2 σ2 Step.refl A2 E2⟩
      · rw [if_neg hgd] at h2; exact h2.elim
    | some d =>
      obtain ⟨hl, ed⟩ := List.getElem?_eq_some_iff.mp ei
      rw [List.drop_eq_getElem_cons hl, ed] at h2
      unfold forGo at h2
      by_cases hgd : s.guard M2 = true
      · rw [if_pos hgd] at h2
        obtain ⟨go, yl⟩ := (sim i ι2 H2 M2 x2 A2 hgd).1 d ei
        refine .inr ⟨go, fun σ' H' => ∃ m', m' < s.items.length - i ∧ m' = s.items.length - (i + 1) ∧ i + 1 ≤ s.items.length ∧ ∃ ι M env, Ext (cgd X).K ι1 H1 ι H' ∧ Abs (cgd X).K ι H' (cgd X).P (cgd X).w M ∧ EnvR (cgd X).K ι H' env σ' ∧ PostS (cgd X) W ι H' (forGo s.guard g fb (s.items.drop (i + 1)) env M) C, fun σ' H' h => h, fun x H3 hy => ?_⟩
        obtain ⟨s3, A3, r3⟩ := yl x H3 hy
        have x3 := x2.trans (s3.ext A2.nt)
        refine ⟨ι2, M2, env2, d, A3, E2.ext (s3.ext A2.nt), r3, ?_⟩
        cases eg : g d env2 M2 with
        | none => rw [eg] at h2; exact h2
        | some p =>
          rw [eg] at h2
          intro ι4 H4 σ4 s4 A4 E4
          have x4 := x3.trans (s4.ext A3.nt)
          refine ⟨ι4, p.2, p.1, A4, E4, ?_⟩
          have h4 := PostS.step (s3.trans s4) h2
          have lt : s.items.length - (i + 1) < s.items.length - i := by omega
          cases eb : fb p.1 p.2 with
          | ok fl M5 =>
            simp only [eb] at h4
            cases fl with
            | nx e => exact fun ι5 H5 σ5 s5 A5 E5 => ⟨_, lt, rfl, hl, ι5, M5, e, x4.trans (s5.ext A4.nt), A5, E5, PostS.step s5 h4⟩
            | ct e => exact fun ι5 H5 σ5 s5 A5 E5 => ⟨_, lt, rfl, hl, ι5, M5, e, x4.trans (s5.ext A4.nt), A5, E5, PostS.step s5 h4⟩
            | bk e => exact h4
            | rt d => exact h4
            | xc c fs e => exact h4
          | exc c fs M5 => simp only [eb] at h4; exact h4
          | bad => simp only [eb] at h4; exact h4
      · rw [if_neg hgd] at h2; exact h2.elim
theorem ss_while {c : Expr} {body : List Stmt} {n : Nat} {fc : TF} {fb : SF} {pos : Pos} (hp : PassesOwn (model X.prog X.w) X.A X.env X.xe) (hc : ST X W c fc) (hb : SSs X W body fb) : SS X W (.While c body [] pos) (sWhile n fc fb) :=
  (ps_while hp hc hb).imp fun C σ H h => by
    obtain ⟨ι, M, env, A, E, h⟩ := h
    refine ⟨fun m σ H => ∃ ι M env, Abs (cgd X).K ι H (cgd X).P (cgd X).w M ∧ EnvR (cgd X).K ι H env σ ∧ PostS (cgd X) W ι H (whGo fc fb m env M) C, ⟨n, ι, M, env, A, E, h⟩, ?_⟩
    rintro m σ1 H1 ⟨ι1, M1, env1, A1, E1, h1⟩
    cases m with
    | zero => exact h1.elim
    | succ m =>
      unfold whGo at h1
      refine tT.mono (tT.seqS A1 E1 h1) fun x H2 ⟨ι2, M2, s2, A2, E2, _, h2⟩ => ?_
      cases x with
      | false => rw [if_neg (by decide)] at h2 ⊢; exact h2 ι2 H2 σ1 Step.refl A2 E2
      | true =>
        rw [if_pos rfl] at h2 ⊢
        refine ⟨fun σ' H' => ∃ ι M env, Abs (cgd X).K ι H' (cgd X).P (cgd X).w M ∧ EnvR (cgd X).K ι H' env σ' ∧ PostS (cgd X) W ι H' (whGo fc fb m env M) C, fun σ' H' h => ⟨m, Nat.lt_succ_self m, h⟩, ι2, M2, env1, A2, E2, ?_⟩
        cases eb : fb env1 M2 with
        | ok fl M3 =>
          simp only [eb] at h2
          cases fl with
          | nx e => exact fun ι3 H3 σ3 s3 A3 E3 => ⟨ι3, M3, e, A3, E3, PostS.step s3 h2⟩
          | ct e => exact fun ι3 H3 σ3 s3 A3 E3 => ⟨ι3, M3, e, A3, E3, PostS.step s3 h2⟩
          | bk e => exact h2
          | rt d => exact h2
          | xc c fs e => exact h2
        | exc c fs M3 => simp only [eb] at h2; exact h2
        | bad => simp only [eb] at h2; exact h2
/-! #### sources -/
theorem Reps.get {K : PySem.W.Frag} {ι : List Addr} {H : Hp} : ∀ {l : List D} {vs : List V} {i : Nat} {d : D}, Reps K ι H l vs → l[i]? = some d → ∃ v, vs[i]? = some v ∧ Rep K ι H d v
  | [], _, _, _, _, e => by simp at e
  | x :: l, vs, i, d, h, e => by
    simp only [Reps] at h
    obtain ⟨v, r, rfl, h1, h2⟩ := h
    cases i with
    | zero => simp at e; subst e; exact ⟨v, rfl, h1⟩
    | succ i => simp at e; obtain ⟨u, e2, h3⟩ := Reps.get h2 e; exact ⟨u, by simpa using e2, h3⟩
/-- a list or a tuple, walked -/
def iSeq (f : EF) : IF := fun env M => (f env M).bind fun d M1 => match d with
  | .tup l => .ok ⟨l, fun _ => true⟩ M1
  | .ref n => match M1[n]? with
    | some (.lst l) => .ok ⟨l, fun M => decide (M[n]? = some (.lst l))⟩ M1
    | some (.fz l) => .ok ⟨l, fun M => decide (M[n]? = some (.fz l))⟩ M1
    | _ => .bad
  | _ => .bad
theorem sq_fz {K : PySem.W.Frag} {ι : List Addr} {H : Hp} {P : Program} {w : World} {a : Addr} {l : List D} (h : ORep K ι H P w a (.fz l)) : ∃ vs, SqL K H a vs ∧ Reps K ι H l vs := let ⟨vs, o, h1, h2⟩ := h; ⟨vs, .inl (.inr ⟨o, h1⟩), h2⟩
theorem sq_lst {K : PySem.W.Frag} {ι : List Addr} {H : Hp} {P : Program} {w : World} {a : Addr} {l : List D} (h : ORep K ι H P w a (.lst l)) : ∃ vs, SqL K H a vs ∧ Reps K ι H l vs := let ⟨vs, h1, h2⟩ := h; ⟨vs, SqL.of h1, h2⟩
/-- a list or a tuple, whichever comes -/
theorem pi_both {tg l : Expr} {tl : TE} (hl : PE X l tl) : PI X tg l (fun σ H R => tl σ H fun x H1 => ∃ a, x = .ref a ∧ ((∃ xs, SqL X.K H1 a xs ∧ R (Itl X.K a) H1) ∨ ∃ xs, SqT X.K H1 a xs ∧ R (Itt X.K a) H1)) := by
  refine ⟨fun pins s σ H R I h => ?_⟩
  refine thn (hl.run pins s σ H _ I h) fun v s1 ⟨x, H1, I1, r1, q1⟩ => ?_
  obtain ⟨a, e, q⟩ := q1
  subst e
  cases r1
  rcases q with ⟨xs, hq, q⟩ | ⟨xs, hq, q⟩
  · obtain ⟨its, rv, p, hz⟩ := I1.list hq
    refine wpAny_pyIter_list p.isList ?_
    refine ⟨s1.heap.objs.size, [s1.heap.objs.size], _, _, H1, rfl, I1.kept (t' := s1.toks) fun b o e => Heap.get?_push_of_some _ e, turn_list a _, ⟨_, Heap.get?_push_size _ rfl, rfl, rfl⟩, fun b hb => ?_, q⟩
    have e : b = s1.heap.objs.size := by simpa using hb
    exact I1.fpOk (Nat.le_of_eq e.symm) (by rw [e]; exact I1.hok.fresh (Nat.le_refl _))
  · obtain ⟨its, rv, p, hz⟩ := I1.tuple hq
    refine wpAny_pyIter_tuple (show s1.heap.IsTuple a its.toArray from p) ?_
    refine ⟨s1.heap.objs.size, [s1.heap.objs.size], _, _, H1, rfl, I1.kept (t' := s1.toks) fun b o e => Heap.get?_push_of_some _ e, turn_tuple a _, ⟨_, Heap.get?_push_size _ rfl, rfl, rfl⟩, fun b hb => ?_, q⟩
    have e : b = s1.heap.objs.size := by simpa using hb
    exact I1.fpOk (Nat.le_of_eq e.symm) (by rw [e]; exact I1.hok.fresh (Nat.le_refl _))
theorem sim_tup {G : Gd} {ι0 : List Addr} {H0 : Hp} {a : Addr} {vs : List V} {l : List D} (h : SqT G.K H0 a vs) (r : Reps G.K ι0 H0 l vs) : SimI G ι0 H0 (Itt G.K a) ⟨l, fun _ => true⟩ := fun i ι H M x A _ => by
  have h' := x.tup a vs h
  refine ⟨fun d e => ?_, fun e => ⟨vs, h', by rw [← r.length]; exact Nat.le_of_eq e.symm⟩⟩
  obtain ⟨v, ev, rv⟩ := r.get e
  refine ⟨⟨vs, v, h', ev⟩, fun y H' q => ?_⟩
  obtain ⟨rfl, q⟩ := q
  have := q vs h'
  rw [ev] at this
  cases this
  exact ⟨Step.refl, A, rv.ext x⟩
theorem sim_lst {G : Gd} {ι0 : List Addr} {H0 : Hp} {a : Addr} {n : Nat} {l : List D} {o : DO} (ea : ι0[n]? = some a) (ho : ∀ {ι : List Addr} {H : Hp} , ORep G.K ι H G.P G.w a o → ∃ vs, SqL G.K H a vs ∧ Reps G.K ι H l vs) :
    SimI G ι0 H0 (Itl G.K a) ⟨l, fun M => decide (M[n]? = some o)⟩ := fun i ι H M x A gd => by
  have e : M[n]? = some o := of_decide_eq_true gd
  obtain ⟨vs, h', r⟩ := ho (A.obj n a o (x.ix n a ea) e)
  refine ⟨fun d e => ?_, fun e => ⟨vs, h', by rw [← r.length]; exact Nat.le_of_eq e.symm⟩⟩
  obtain ⟨v, ev, rv⟩ := r.get e
  refine ⟨⟨vs, v, h', ev⟩, fun y H' q => ?_⟩
  obtain ⟨rfl, q⟩ := q
  have := q vs h'
  rw [ev] at this
  cases this
  exact ⟨Step.refl, A, rv⟩
theorem si_seq {tg e : Expr} {f : EF} (he : SE X W e f) : SI X W tg e (iSeq f) :=
  (pi_both he).imp fun σ H R h => by
    obtain ⟨ι, M, env, A, E, h⟩ := h
    refine tE.mono (tE.seq A E h) fun x H1 ⟨ι1, M1, d1, s1, A1, E1, r1, _, h1⟩ => ?_
    cases d1 with
    | tup l =>
      simp only [Rep] at r1
      obtain ⟨a, vs, rfl, q1, q2⟩ := r1
      exact ⟨a, rfl, .inr ⟨vs, q1, h1 ι1 H1 _ Step.refl A1 (sim_tup q1 q2)⟩⟩
    | ref n =>
      simp only [Rep] at r1
      obtain ⟨a, ea, rfl⟩ := r1
      simp only at h1
      cases e1 : M1[n]? with
      | none => rw [e1] at h1; exact h1.elim
      | some o =>
        rw [e1] at h1
        cases o with
        | lst l =>
          obtain ⟨vs, q1, q2⟩ := sq_lst (A1.obj n a _ ea e1)
          exact ⟨a, rfl, .inl ⟨vs, q1, h1 ι1 H1 _ Step.refl A1 (sim_lst ea sq_lst)⟩⟩
        | fz l =>
          obtain ⟨vs, q1, q2⟩ := sq_fz (A1.obj n a _ ea e1)
          exact ⟨a, rfl, .inl ⟨vs, q1, h1 ι1 H1 _ Step.refl A1 (sim_lst ea sq_fz)⟩⟩
        | _ => exact h1.elim
    | _ => exact h1.elim
/-- range(n), range(a, b) -/
def rngD (lo hi : Int) : List D := (List.range (hi - lo).toNat).map fun (i : Nat) => D.int (lo + (i : Int))
def iRng1 (f : EF) : IF := fun env M => (f env M).bind fun d M1 => match d with
  | .int j => if -1000000 ≤ j ∧ j ≤ 1000000 then .ok ⟨rngD 0 j, fun _ => true⟩ M1 else .bad
  | _ => .bad
def iRng2 (f g : EF) : IF := fun env M => (f env M).bind fun d M1 => (g env M1).bind fun e M2 => match d, e with
  | .int i, .int j => if -1000000 ≤ i ∧ i ≤ 1000000 ∧ -1000000 ≤ j ∧ j ≤ 1000000 then .ok ⟨rngD i j, fun _ => true⟩ M2 else .bad
  | _, _ => .bad
theorem sim_rng {G : Gd} {ι0 : List Addr} {H0 : Hp} {lo hi : Int} : SimI G ι0 H0 (Itr lo (hi - lo).toNat) ⟨rngD lo hi, fun _ => true⟩ := fun i ι H M x A _ => by
  refine ⟨fun d e => ?_, fun e => ?_⟩
  · unfold rngD at e
    simp only [List.getElem?_map] at e
    cases q : (List.range (hi - lo).toNat)[i]? with
    | none => rw [q] at e; cases e
    | some j =>
      rw [q] at e
      obtain ⟨hl, ej⟩ := List.getElem?_eq_some_iff.mp q
      simp at ej hl
      subst ej
      simp at e
      subst e
      refine ⟨by show i < (hi - lo).toNat; omega, fun y H' z => ?_⟩
      obtain ⟨rfl, rfl⟩ := z
      exact ⟨Step.refl, A, by simp only [Rep]⟩
  · simp [rngD] at e
    show (hi - lo).toNat ≤ i
    omega
theorem si_rng1 {tg a : Expr} {f : EF} {p pos : Pos} (hg : Gl X "range") (hm : X.mg "range" = none) (ha : SE X W a f) (hs : starEach [a] X.env = [(false, eval a X.env)] := by rfl) : SI X W tg (.Call (.Name "range" p) [a] [] pos) (iRng1 f) :=
  (pi_range1 hg hm (pa_cons ha pa_nil hs) hs).imp fun σ H R h => by
    obtain ⟨ι, M, env, A, E, h⟩ := h
    refine tE.mono (tE.seq A E h) fun x H1 ⟨ι1, M1, d1, s1, A1, E1, r1, _, h1⟩ => ?_
    cases d1 with
    | int j =>
      simp only [Rep] at r1
      subst r1
      have h1 : Post (cgd X) W ι1 H1 _ σ (if -1000000 ≤ j ∧ j ≤ 1000000 then Res.ok (Src.mk (rngD 0 j) fun _ => true) M1 else .bad) R := h1
      by_cases hj : -1000000 ≤ j ∧ j ≤ 1000000
      · rw [if_pos hj] at h1
        refine ⟨j, rfl, by omega, by omega, ?_⟩
        have := h1 ι1 H1 (Itr 0 (j - 0).toNat) Step.refl A1 sim_rng
        rwa [Int.sub_zero] at this
      · rw [if_neg hj] at h1; exact h1.elim
    | _ => exact h1.elim
theorem si_rng2 {tg a b : Expr} {f g : EF} {p pos : Pos} (hg : Gl X "range") (hm : X.mg "range" = none) (ha : SE X W a f) (hb : SE X W b g) (hs : starEach [a, b] X.env = (false, eval a X.env) :: starEach [b] X.env := by rfl) (hs2 : starEach [b] X.env = (false, eval b X.env) :: starEach [] X.env := by rfl) : SI X W tg (.Call (.Name "range" p) [a, b] [] pos) (iRng2 f g) :=
  (pi_range2 hg hm (pa_cons ha (pa_cons hb pa_nil hs2) hs) (hs.trans (congrArg _ hs2)) hs2).imp fun σ H R h => by
    obtain ⟨ι, M, env, A, E, h⟩ := h
    refine tE.mono (tE.seq A E h) fun x H1 ⟨ι1, M1, d1, s1, A1, E1, r1, _, h1⟩ => ?_
    refine tE.mono (tE.seq A1 E1 h1) fun y H2 ⟨ι2, M2, d2, s2, A2, E2, r2, _, h2⟩ => ?_
    cases d1 with
    | int i =>
      cases d2 with
      | int j =>
        simp only [Rep] at r1 r2
        subst r1 r2
        have h2 : Post (cgd X) W ι2 H2 _ σ (if -1000000 ≤ i ∧ i ≤ 1000000 ∧ -1000000 ≤ j ∧ j ≤ 1000000 then Res.ok (Src.mk (rngD i j) fun _ => true) M2 else .bad) R := h2
        by_cases hj : -1000000 ≤ i ∧ i ≤ 1000000 ∧ -1000000 ≤ j ∧ j ≤ 1000000
        · rw [if_pos hj] at h2
          exact ⟨i, j, rfl, ⟨by omega, by omega, by omega, by omega⟩, h2 ι2 H2 _ Step.refl A2 sim_rng⟩
        · rw [if_neg hj] at h2; exact h2.elim
      | _ => exact h2.elim
    | _ => exact h2.elim
end
end Sh

namespace Sh
open PySem L2

/-! ### a def's promise by its meaning -/
def PostF (G : Gd) (ι : List Addr) (H : Hp) (r : Res D) (Q : VK) (E : XK) : Prop := match r with
  | .ok d M' => ∀ ι' H' v, Step ι H ι' H' → Abs G.K ι' H' G.P G.w M' → Rep G.K ι' H' d v → Q v H'
  | .exc c fs M' => ∀ ι' H' cls d, Step ι H ι' H' → Abs G.K ι' H' G.P G.w M' → XRep G.K ι' H' c fs cls d → E cls d H'
  | .bad => False
def spF (G : Gd) (n : Nat) (f : FF) : Sp := fun vs H Q E => ∃ ι M ds, Abs G.K ι H G.P G.w M ∧ Reps G.K ι H ds vs ∧ ds.length = n ∧ PostF G ι H (f ds M) Q E
/-- a def by the meaning of its body: np parameters, ns names -/
def fnS (np ns : Nat) (body : SF) : FF := fun ds M => match body (ds.map some ++ List.replicate (ns - np) none) M with
  | .ok (.rt d) M' => .ok d M'
  | .ok (.nx _) M' => .ok .non M'
  | .ok (.xc c fs _) M' => .exc c fs M'
  | _ => .bad
theorem envR_start {K : PySem.W.Frag} {ι : List Addr} {H : Hp} {ds : List D} {vs : List V} (r : Reps K ι H ds vs) (k : Nat) : EnvR K ι H (ds.map some ++ List.replicate k none) (vs.map some ++ List.replicate k none) := by
  refine ⟨by simp [r.length], fun i d e => ?_⟩
  by_cases hi : i < ds.length
  · rw [List.getElem?_append_left (by simpa using hi)] at e
    rw [List.getElem?_append_left (by simpa [← r.length] using hi)]
    simp only [List.getElem?_map] at e ⊢
    cases q : ds[i]? with
    | none => rw [q] at e; cases e
    | some x =>
      rw [q] at e
      simp at e
      subst e
      obtain ⟨v, ev, rv⟩ := r.get q
      exact ⟨v, by rw [ev]; rfl, rv⟩
  · rw [List.getElem?_append_right (by simpa using hi)] at e
    simp [List.getElem?_replicate] at e
section
variable {P : Program} {w : World} {K : PySem.W.Frag} {mg : Str → Option Value} {base : Heap} {x qual : Str} {params : Arguments} {bd : List Stmt} {scope : Scope} {dvs : List V} {kws : List (Str × V)} {f : Addr} {fd : FuncData}
theorem fn_sh {N ps : List Str} {k np ns : Nat} {body : SF} (F : FunD K x qual params bd scope dvs kws f fd) (S : FnScope N ps scope) (hp : ps.length = np) (hn : N.length = ns)
    (hb : ∀ (cdv : Value) (A : Around) (outer : List PySem.Env) (s : Shared) (H : Hp) (E : XK), Room k (A.deeper (PyProof.Rows.envOfC qual scope s.heap.objs.size f cdv)) →
      SSs (cxOf (L2.CX P w) P w K mg base N qual scope f cdv A outer s H E) (fun cls d _ H => E cls d H) bd body) :
    FnOk P w K mg base (L2.CX P w) (k + 1) f fd ps (spF ⟨K, P, w⟩ np (fnS np ns body)) := by
  refine F.ok S (fun vs H Q E h => ?_) fun cdv A outer s H vs Q E hr h => ?_
  · obtain ⟨ι, M, ds, _, r, l, _⟩ := h
    rw [← r.length, l, hp]
  · obtain ⟨ι, M, ds, Ab, r, l, h⟩ := h
    refine ⟨_, hb cdv A outer s H E hr, ι, M, ds.map some ++ List.replicate (ns - np) none, Ab, ?_, ?_⟩
    · unfold L2.start
      have := envR_start r (N.length - vs.length)
      rw [hn, ← r.length, l] at this ⊢
      exact this
    · unfold fnS at h
      cases e : body (ds.map some ++ List.replicate (ns - np) none) M with
      | ok fl M' =>
        rw [e] at h
        cases fl with
        | nx env => exact fun ι' H' σ' s a _ => h ι' H' _ s a (by simp only [Rep])
        | rt d => exact h
        | xc c fs env => exact fun ι' H' σ' cls d s a _ q => h ι' H' cls d s a q
        | bk _ => exact h.elim
        | ct _ => exact h.elim
      | exc c fs M' => rw [e] at h; exact h
      | bad => rw [e] at h; exact h
end
/-! ### what is new and not handed back is forgotten -/
mutual
def D.blw (n : Nat) : D → Bool
  | .ref m => decide (m < n)
  | .tup l => D.blws n l
  | _ => true
def D.blws (n : Nat) : List D → Bool
  | [] => true
  | d :: l => D.blw n d && D.blws n l
end
def DO.blw (n : Nat) : DO → Bool
  | .lst l => D.blws n l
  | .fz l => D.blws n l
  | .dct kvs => kvs.all fun p => D.blw n p.1 && D.blw n p.2
  | .dlk kvs => kvs.all fun p => D.blw n p.1 && D.blw n p.2
  | .ins _ fs => fs.all fun p => D.blw n p.2
  | .set _ => true
  | .dead => true
/-- k new objects are kept -/
def trim (k : Nat) (M : Store) (r : Res D) : Res D := match r with
  | .ok d M' => if M.isPrefixOf M' = true ∧ D.blw (M.length + k) d = true ∧ ((M'.drop M.length).take k).all (DO.blw (M.length + k)) = true then .ok d (M'.take (M.length + k)) else .ok d M'
  | r => r
def fnT (k : Nat) (f : FF) : FF := fun ds M => trim k M (f ds M)
section
variable {K : PySem.W.Frag} {ι : List Addr} {H : Hp} {P : Program} {w : World}
mutual
theorem Rep.take {n : Nat} : ∀ {d : D} {v : V}, D.blw n d = true → Rep K ι H d v → Rep K (ι.take n) H d v
  | .non, _, _, h => by simpa only [Rep] using h
  | .bl _, _, _, h => by simpa only [Rep] using h
  | .int _, _, _, h => by simpa only [Rep] using h
  | .str _, _, _, h => by simpa only [Rep] using h
  | .ty _, _, _, h => by simpa only [Rep] using h
  | .ref m, _, b, h => by
    simp only [Rep] at h ⊢
    simp only [D.blw, decide_eq_true_eq] at b
    obtain ⟨a, e, rfl⟩ := h
    exact ⟨a, by rw [List.getElem?_take_of_lt b]; exact e, rfl⟩
  | .tup l, _, b, h => by
    simp only [Rep] at h ⊢
    simp only [D.blw] at b
    obtain ⟨a, vs, rfl, h1, h2⟩ := h
    exact ⟨a, vs, rfl, h1, Reps.take b h2⟩
theorem Reps.take {n : Nat} : ∀ {l : List D} {vs : List V}, D.blws n l = true → Reps K ι H l vs → Reps K (ι.take n) H l vs
  | [], _, _, h => by simpa only [Reps] using h
  | d :: l, _, b, h => by
    simp only [Reps] at h ⊢
    simp only [D.blws, Bool.and_eq_true] at b
    obtain ⟨v, r, rfl, h1, h2⟩ := h
    exact ⟨v, r, rfl, Rep.take b.1 h1, Reps.take b.2 h2⟩
end
theorem paired_mem {α β : Type} {F G : α → β → Prop} : ∀ {l₁ : List α} {l₂ : List β}, Paired F l₁ l₂ → (∀ a b, a ∈ l₁ → F a b → G a b) → Paired G l₁ l₂
  | _, _, .nil, _ => .nil
  | _, _, .cons r t, f => .cons (f _ _ List.mem_cons_self r) (paired_mem t fun a b m q => f a b (List.mem_cons_of_mem _ m) q)
theorem ORep.take {n : Nat} {a : Addr} {o : DO} (b : DO.blw n o = true) (h : ORep K ι H P w a o) : ORep K (ι.take n) H P w a o := by
  cases o with
  | lst l => obtain ⟨vs, h1, h2⟩ := h; exact ⟨vs, h1, h2.take b⟩
  | fz l => obtain ⟨vs, o, h1, h2⟩ := h; exact ⟨vs, o, h1, h2.take b⟩
  | ins c fs =>
    obtain ⟨dx, vs, h1, h2⟩ := h
    simp only [DO.blw, List.all_eq_true] at b
    exact ⟨dx, vs, h1, paired_mem h2 fun p q m z => ⟨z.1, z.2.take (b p m)⟩⟩
  | dct kvs =>
    obtain ⟨o, h1, h2, h3, h4, es, ep, xs, h5, h6, h7, h8⟩ := h
    simp only [DO.blw, List.all_eq_true, Bool.and_eq_true] at b
    exact ⟨o, h1, h2, h3, h4, es, ep, xs, h5, h6, h7, paired_mem h8 fun p q m z => ⟨z.1, z.2.1.take (b p m).1, let ⟨v, r, y⟩ := z.2.2; ⟨v, r, y.take (b p m).2⟩⟩⟩
  | dlk kvs =>
    obtain ⟨o, h1, h2, h3, h4, es, ep, xs, h5, h6, h7, h8⟩ := h
    simp only [DO.blw, List.all_eq_true, Bool.and_eq_true] at b
    exact ⟨o, h1, h2, h3, h4, es, ep, xs, h5, h6, h7, paired_mem h8 fun p q m z => ⟨z.1, z.2.1.take (b p m).1, let ⟨v, r, y⟩ := z.2.2; ⟨v, r, y.take (b p m).2⟩⟩⟩
  | set l => exact h
  | dead => exact h
mutual
theorem Rep.isBelow : ∀ {d : D} {v : V}, Rep K ι H d v → D.blw ι.length d = true
  | .non, _, _ => rfl
  | .bl _, _, _ => rfl
  | .int _, _, _ => rfl
  | .str _, _, _ => rfl
  | .ty _, _, _ => rfl
  | .ref m, _, h => by
    simp only [Rep] at h
    obtain ⟨a, e, _⟩ := h
    simp only [D.blw, decide_eq_true_eq]
    exact (List.getElem?_eq_some_iff.mp e).1
  | .tup l, _, h => by
    simp only [Rep] at h
    obtain ⟨a, vs, _, _, h2⟩ := h
    simp only [D.blw]
    exact Reps.isBelow h2
theorem Reps.isBelow : ∀ {l : List D} {vs : List V}, Reps K ι H l vs → D.blws ι.length l = true
  | [], _, _ => rfl
  | d :: l, _, h => by
    simp only [Reps] at h
    obtain ⟨v, r, _, h1, h2⟩ := h
    simp only [D.blws, Bool.and_eq_true]
    exact ⟨Rep.isBelow h1, Reps.isBelow h2⟩
end
theorem paired_all {α β : Type} {F : α → β → Prop} {p : α → Prop} : ∀ {l₁ : List α} {l₂ : List β}, Paired F l₁ l₂ → (∀ a b, F a b → p a) → ∀ a ∈ l₁, p a
  | _, _, .nil, _, a, m => nomatch m
  | _, _, .cons r t, f, a, m => by
    rcases List.mem_cons.mp m with e | m
    · rw [e]; exact f _ _ r
    · exact paired_all t f a m
theorem ORep.isBelow {a : Addr} {o : DO} (h : ORep K ι H P w a o) : DO.blw ι.length o = true := by
  cases o with
  | lst l => obtain ⟨vs, _, h2⟩ := h; exact h2.isBelow
  | fz l => obtain ⟨vs, o, _, h2⟩ := h; exact h2.isBelow
  | ins c fs =>
    obtain ⟨dx, vs, _, h2⟩ := h
    simp only [DO.blw, List.all_eq_true]
    exact paired_all h2 fun p q z => z.2.isBelow
  | dct kvs =>
    obtain ⟨o, h1, h2, h3, h4, es, ep, xs, h5, h6, h7, h8⟩ := h
    simp only [DO.blw, List.all_eq_true, Bool.and_eq_true]
    exact paired_all h8 fun p q z => ⟨z.2.1.isBelow, let ⟨v, r, y⟩ := z.2.2; y.isBelow⟩
  | dlk kvs =>
    obtain ⟨o, h1, h2, h3, h4, es, ep, xs, h5, h6, h7, h8⟩ := h
    simp only [DO.blw, List.all_eq_true, Bool.and_eq_true]
    exact paired_all h8 fun p q z => ⟨z.2.1.isBelow, let ⟨v, r, y⟩ := z.2.2; y.isBelow⟩
  | set l => rfl
  | dead => rfl
mutual
theorem D.blw_mono {n m : Nat} (h : n ≤ m) : ∀ {d : D}, D.blw n d = true → D.blw m d = true
  | .non, _ => rfl
  | .bl _, _ => rfl
  | .int _, _ => rfl
  | .str _, _ => rfl
  | .ty _, _ => rfl
  | .ref k, b => by simp only [D.blw, decide_eq_true_eq] at b ⊢; omega
  | .tup l, b => by simp only [D.blw] at b ⊢; exact D.blws_mono h b
theorem D.blws_mono {n m : Nat} (h : n ≤ m) : ∀ {l : List D}, D.blws n l = true → D.blws m l = true
  | [], _ => rfl
  | d :: l, b => by
    simp only [D.blws, Bool.and_eq_true] at b ⊢
    exact ⟨D.blw_mono h b.1, D.blws_mono h b.2⟩
end
theorem DO.blw_mono {n m : Nat} (h : n ≤ m) {o : DO} (b : DO.blw n o = true) : DO.blw m o = true := by
  cases o with
  | lst l => exact D.blws_mono h b
  | fz l => exact D.blws_mono h b
  | ins c fs => simp only [DO.blw, List.all_eq_true] at b ⊢; exact fun p q => D.blw_mono h (b p q)
  | dct kvs => simp only [DO.blw, List.all_eq_true, Bool.and_eq_true] at b ⊢; exact fun p q => ⟨D.blw_mono h (b p q).1, D.blw_mono h (b p q).2⟩
  | dlk kvs => simp only [DO.blw, List.all_eq_true, Bool.and_eq_true] at b ⊢; exact fun p q => ⟨D.blw_mono h (b p q).1, D.blw_mono h (b p q).2⟩
  | set l => rfl
  | dead => rfl
theorem Abs.take {M : Store} {n : Nat} (A : Abs K ι H P w M) (b : ∀ o ∈ M.take n, DO.blw n o = true) : Abs K (ι.take n) H P w (M.take n) where
  len := by simp [A.len]
  nd := A.nd.sublist (List.take_sublist _ _)
  obj := fun m a o h1 h2 => by
    have hm : m < n := by
      have := (List.getElem?_eq_some_iff.mp h2).1
      simp at this; omega
    have bo := b o (List.mem_of_getElem? h2)
    rw [List.getElem?_take_of_lt hm] at h1 h2
    exact (A.obj m a o h1 h2).take bo
theorem Abs.allBelow {M : Store} (A : Abs K ι H P w M) : ∀ o ∈ M, DO.blw M.length o = true := fun o m => by
  obtain ⟨n, hn, e⟩ := List.getElem_of_mem m
  obtain ⟨a, _, h⟩ := A.have (n := n) (o := o) (by rw [List.getElem?_eq_getElem hn, e])
  rw [← A.len]
  exact h.isBelow
end
theorem PostF.trim {G : Gd} {ι : List Addr} {H : Hp} {M : Store} {k : Nat} {r : Res D} {Q : VK} {E : XK} (A : Abs G.K ι H G.P G.w M) (h : PostF G ι H (trim k M r) Q E) : PostF G ι H r Q E := by
  cases r with
  | ok d M' =>
    unfold Sh.trim at h
    by_cases c : M.isPrefixOf M' = true ∧ D.blw (M.length + k) d = true ∧ ((M'.drop M.length).take k).all (DO.blw (M.length + k)) = true
    · simp only [if_pos c] at h
      intro ι' H' v s A' r
      obtain ⟨c1, c2, c3⟩ := c
      obtain ⟨more, rfl⟩ := List.isPrefixOf_iff_prefix.mp c1
      have hm : ∀ o ∈ (M ++ more).take (M.length + k), DO.blw (M.length + k) o = true := fun o m => by
        rw [List.take_length_add_append] at m
        rcases List.mem_append.mp m with m | m
        · exact DO.blw_mono (Nat.le_add_right _ _) (A.allBelow o m)
        · rw [List.drop_left] at c3
          exact List.all_eq_true.mp c3 o m
      refine h (ι'.take (M.length + k)) H' v ⟨?_, s.frame, fun a m n => s.fresh a (List.mem_of_mem_take m) n, s.frz⟩ (A'.take hm) (r.take c2)
      obtain ⟨p, rfl⟩ := s.pre
      refine ⟨p.take k, ?_⟩
      rw [← A.len, List.take_length_add_append]
    · simp only [if_neg c] at h
      exact h
  | exc c fs M' => exact h
  | bad => exact h
theorem fn_trim {P : Program} {w : World} {K : PySem.W.Frag} {mg : Str → Option Value} {base : Heap} {CX : CXT} {j n k : Nat} {f : Addr} {fd : FuncData} {ps : List Str} {ff : FF} (F : FnOk P w K mg base CX j f fd ps (spF ⟨K, P, w⟩ n ff)) :
    FnOk P w K mg base CX j f fd ps (spF ⟨K, P, w⟩ n (fnT k ff)) := F.imp fun vs H Q E h => by
  obtain ⟨ι, M, ds, A, r, l, h⟩ := h
  exact ⟨ι, M, ds, A, r, l, PostF.trim A h⟩
/-! ### calls -/
def eCall (n : Nat) (ff : FF) (fa : AF) : EF := fun env M => (fa env M).bind fun ds M1 => if ds.length = n then ff ds M1 else .bad
/-- a def that may be called: its level, its parameters' number, its meaning -/
def Fn (X : Cx) (k : Nat) (f : Addr) (n : Nat) (ff : FF) : Prop := ∃ fd ps, FnOk X.prog X.w X.K X.mg X.base (L2.CX X.prog X.w) k f fd ps (spF (cgd X) n ff) ∧ Binds X.K fd ps []
section
variable {X : Cx} {W : WX} {k n : Nat} {f : Addr} {ff : FF} {fa : AF} {x : Str} {e : Expr} {es : List Expr} {p pos : Pos}
theorem postF_of {ι : List Addr} {H : Hp} {σ : St} {r : Res D} {Q : VK} {G : Gd} (h : PostE G W ι H σ r Q) : PostF G ι H r Q (WE W σ) := by
  cases r with
  | ok d M => exact h
  | exc c fs M => exact h
  | bad => exact h
theorem call_imp {σ : St} {H : Hp} {Q : VK} (h : tE (cgd X) W (eCall n ff fa) σ H Q) : tCallS (spF (cgd X) n ff) (WE W) (tA (cgd X) W fa) σ H Q := by
  obtain ⟨ι, M, env, A, E, h⟩ := h
  refine tA.mono (tA.seq A E h) fun xs H1 ⟨ι1, M1, d1, s1, A1, E1, r1, _, h1⟩ => ?_
  by_cases hl : d1.length = n
  · rw [if_pos hl] at h1
    exact ⟨ι1, M1, d1, A1, r1, hl, postF_of h1⟩
  · rw [if_neg hl] at h1; exact h1.elim
theorem se_call (F : Fn X k f n ff) (hr : Room k X.A) (hg : Gl X x) (hm : X.mg x = some (.ref f)) (hk : PySem.W.keepIn X.K (.ref f) = true) (tk : Takes X W) (ha : SA X W (e :: es) fa)
    (hdb : (x == ("__debug__" : Str)) = false := by decide) (he : starEach (e :: es) X.env = (false, eval e X.env) :: starEach es X.env := by rfl) (hpl : (backTo pos (starEach es X.env)).any (·.1) = false := by rfl) :
    SE X W (.Call (.Name x p) (e :: es) [] pos) (eCall n ff fa) := by
  obtain ⟨fd, ps, F, hb⟩ := F
  exact (pe_callS F hr hg hm hk hb (fun σ => passAt tk σ) ha hdb he hpl).imp fun σ H Q h => call_imp h
theorem se_call0 (F : Fn X k f n ff) (hr : Room k X.A) (hg : Gl X x) (hm : X.mg x = some (.ref f)) (hk : PySem.W.keepIn X.K (.ref f) = true) (tk : Takes X W)
    (hdb : (x == ("__debug__" : Str)) = false := by decide) : SE X W (.Call (.Name x p) [] [] pos) (eCall n ff aNil) := by
  obtain ⟨fd, ps, F, hb⟩ := F
  refine ⟨fun pins s σ H Q I h => ?_⟩
  obtain ⟨ι, M, env, A, E, h⟩ := h
  refine wpAny_Call_Name_kw (ld_glob I hg hm ?_ hdb)
  refine PySem.W.callWith_K0 I.kIn hk (run_fnS F hr hb (passAt tk σ) I .nil ?_)
  have h : PostE (cgd X) W ι H σ (if ([] : List D).length = n then ff [] M else .bad) Q := h
  by_cases hl : ([] : List D).length = n
  · rw [if_pos hl] at h
    exact ⟨ι, M, [], A, by simp only [Reps], hl, postF_of h⟩
  · rw [if_neg hl] at h; exact h.elim
/-! #### methods, by the class of the instance -/
def eMeth (m : Str) (disp : Nat → Option (Nat × FF)) (fo : EF) (fa : AF) : EF := fun env M => (fo env M).bind fun o M1 => match o with
  | .ref i => match M1[i]? with
    | some (.ins c fs) => match disp c with
      | some (n, ff) => if fs.lookup m = none then (fa env M1).bind fun ds M2 => if ds.length + 1 = n then ff (.ref i :: ds) M2 else .bad else .bad
      | none => .bad
    | _ => .bad
  | _ => .bad
theorem methImp {m : Str} {disp : Nat → Option (Nat × FF)} {fo : EF} {σ : St} {H : Hp} {Q : VK} (h : tE (cgd X) W (eMeth m disp fo fa) σ H Q) :
    tE (cgd X) W fo σ H fun x H1 => ∃ a c dx vs n ff, x = .ref a ∧ H1 a = some (.ins (ca X.K c) dx vs) ∧ disp c = some (n, ff) ∧ vs.lookup m = none ∧ tA (cgd X) W fa σ H1 fun us H2 => spF (cgd X) n ff (.ref a :: us) H2 Q (WE W σ) := by
  obtain ⟨ι, M, env, A, E, h⟩ := h
  refine tE.mono (tE.seq A E h) fun x H1 ⟨ι1, M1, d1, s1, A1, E1, r1, _, h1⟩ => ?_
  cases d1 with
  | ref i =>
    simp only at h1
    cases e1 : M1[i]? with
    | none => rw [e1] at h1; exact h1.elim
    | some o =>
      rw [e1] at h1
      cases o with
      | ins c fs =>
        simp only at h1
        cases e2 : disp c with
        | none => rw [e2] at h1; exact h1.elim
        | some q =>
          rw [e2] at h1
          obtain ⟨n, ff⟩ := q
          simp only at h1
          by_cases hl : fs.lookup m = none
          · rw [if_pos hl] at h1
            simp only [Rep] at r1
            obtain ⟨a, ea, rfl⟩ := r1
            obtain ⟨dx, vs, hH, fr⟩ := A1.obj i a _ ea e1
            refine ⟨a, c, dx, vs, n, ff, rfl, hH, e2, fr.lookN hl, ?_⟩
            refine tA.mono (tA.seq A1 E1 h1) fun us H2 ⟨ι2, M2, d2, s2, A2, E2, r2, _, h2⟩ => ?_
            by_cases hn : d2.length + 1 = n
            · rw [if_pos hn] at h2
              exact ⟨ι2, M2, .ref i :: d2, A2, by simp only [Reps]; exact ⟨_, _, rfl, by simp only [Rep]; exact ⟨a, s2.ix ea, rfl⟩, r2⟩, by simpa using hn, postF_of h2⟩
            · rw [if_neg hn] at h2; exact h2.elim
          · rw [if_neg hl] at h1; exact h1.elim
      | _ => exact h1.elim
  | _ => exact h1.elim
theorem se_meth {o : Expr} {m : Str} {apos : Pos} {disp : Nat → Option (Nat × FF)} {fo : EF} {pl : Sem Bool} (he : SE X W o fo) (hd : ∀ c n ff, disp c = some (n, ff) → Cls X.K (ca X.K c) ∧ ∃ f, Meth X.K (ca X.K c) m f ∧ Fn X k f n ff) (hr : Room k X.A) (tk : Takes X W) (ha : SA X W (e :: es) fa)
    (hst : starEach (e :: es) X.env = (false, eval e X.env) :: starEach es X.env := by rfl) (hpl : (backTo pos (starEach es X.env)).any (·.1) = false := by rfl)
    (ht : eval (.Call (.Attribute o m apos) (e :: es) [] pos) X.env = (do
      let ov ← eval o X.env
      standAt apos.atName
      let (f, first) ← holding [ov] (getMethod ov m pl)
      callWith pos f first (backTo pos (starEach (e :: es) X.env)) (backToKw pos (keywordEach [] X.env))) := by rfl) :
    SE X W (.Call (.Attribute o m apos) (e :: es) [] pos) (eMeth m disp fo fa) := by
  refine ⟨fun pins s σ H Q I h => ?_⟩
  refine PySem.W.methodCall_KW (pl := pl) (thn (he.run pins s σ H _ I (methImp h)) fun u s1 ⟨x, H1, I1, rx, a, c, dx, fs, n, ff, ex, ea, ed, l, q⟩ => ?_) ht
  subst ex
  obtain rfl : u = Value.ref a := rx
  obtain ⟨cl, f, mt, fd, ps, F, hb⟩ := hd c n ff ed
  refine getmeth_ok I1 ea cl mt l ?_
  refine PySem.W.callWith_K (first := [.ref a]) (h₀ := X.base) I.ok.mod.kin mt.kp (thn (ha.run pos pins s1 σ H1 _ I1 q) fun us s2 ⟨vs, H2, I2, r, q2⟩ => ⟨I2.kIn, ?_⟩) hst hpl
  exact run_fnS (us := .ref a :: us) (vs := .ref a :: vs) F hr hb (passAt tk σ) I2 (.cons rfl r) q2
theorem se_meth0 {o : Expr} {m : Str} {apos : Pos} {disp : Nat → Option (Nat × FF)} {fo : EF} {pl : Sem Bool} (he : SE X W o fo) (hd : ∀ c n ff, disp c = some (n, ff) → Cls X.K (ca X.K c) ∧ ∃ f, Meth X.K (ca X.K c) m f ∧ Fn X k f n ff) (hr : Room k X.A) (tk : Takes X W)
    (ht : eval (.Call (.Attribute o m apos) [] [] pos) X.env = (do
      let ov ← eval o X.env
      standAt apos.atName
      let (f, first) ← holding [ov] (getMethod ov m pl)
      callWith pos f first (backTo pos (starEach [] X.env)) (backToKw pos (keywordEach [] X.env))) := by rfl) :
    SE X W (.Call (.Attribute o m apos) [] [] pos) (eMeth m disp fo aNil) := by
  refine ⟨fun pins s σ H Q I h => ?_⟩
  refine PySem.W.methodCall_KW (pl := pl) (thn (he.run pins s σ H _ I (methImp h)) fun u s1 ⟨x, H1, I1, rx, a, c, dx, fs, n, ff, ex, ea, ed, l, q⟩ => ?_) ht
  subst ex
  obtain rfl : u = Value.ref a := rx
  obtain ⟨cl, f, mt, fd, ps, F, hb⟩ := hd c n ff ed
  refine getmeth_ok I1 ea cl mt l ?_
  obtain ⟨ι, M, env, A, E, q⟩ := q
  exact PySem.W.callWith_K0 (first := [.ref a]) I1.kIn mt.kp (run_fnS (us := [.ref a]) (vs := [.ref a]) F hr hb (passAt tk σ) I1 (.cons rfl .nil) (q ι H1 [] Step.refl A (by simp only [Reps])))
end
end Sh

namespace Sh
open PySem L2

/-! ### instances made, fields stored -/
/-- how values come to parameters: positional ones, keywords; ks: the keywords -/
structure BD (K : PySem.W.Frag) (fd : FuncData) (ps : List Str) (n : Nat) (ks : List Str) (gD : List D → List D → List D) : Prop where
  ex : ∃ g gV, KBn K fd ps n ks g gV ∧ ∀ ι H ds es vs zs, Reps K ι H ds vs → Reps K ι H es zs → Reps K ι H (gD ds es) (gV vs zs)
def FnK (X : Cx) (k : Nat) (f : Addr) (n : Nat) (ks : List Str) (np : Nat) (gD : List D → List D → List D) (ff : FF) : Prop := ∃ fd ps, FnOk X.prog X.w X.K X.mg X.base (L2.CX X.prog X.w) k f fd ps (spF (cgd X) np ff) ∧ BD X.K fd ps n ks gD
def eMake (c : Nat) (n m np : Nat) (gD : List D → List D → List D) (ff : FF) (fa fk : AF) : EF := fun env M => (fa env M).bind fun ds M1 => (fk env M1).bind fun es M2 =>
  if ds.length = n ∧ es.length = m ∧ (gD (.ref M2.length :: ds) es).length = np then (match ff (gD (.ref M2.length :: ds) es) (M2 ++ [.ins c []]) with
    | .ok .non M3 => .ok (.ref M2.length) M3
    | .ok _ _ => .bad
    | r => r) else .bad
section
variable {X : Cx} {W : WX} {k n np : Nat} {f : Addr} {ff : FF} {fa fk : AF} {x : Str} {e : Expr} {es : List Expr} {p pos : Pos} {c : Nat} {ks : List Str} {gD : List D → List D → List D} {kws : List Keyword}
theorem run_makeS {C f : Addr} {fd : FuncData} {ps : List Str} {sp : Sp} {E : St → XK} {g : List Value → List Value → List Value} {gV : List V → List V → List V} {pins : List (Addr × Obj)} {σ : St} {H : Hp} {s : Shared} {Q : VK} {us ws : List Value} {vs zs : List V} (M : Mk X.K C f) (F : FnOk X.prog X.w X.K X.mg X.base (L2.CX X.prog X.w) k f fd ps sp) (hr : Room (k + 1) X.A) (hb : KBn X.K fd ps (n + 1) ks g gV) (tk : Takes X W)
    (I : Inv X pins σ H s) (r : Vals vs us) (rz : Vals zs ws) (l1 : vs.length = n) (l2 : zs.length = ks.length)
    (h : ∀ x dx, H x = none → H dx = none → dx ≠ x → sp (gV (.ref x :: vs) zs) (upd (upd H dx (.own x)) x (.ins C dx [])) (fun v H2 => v = .non ∧ Q (.ref x) H2) (WE W σ)) :
    wpAny (model X.prog X.w) X.A (call (.ref C) us (ks.zip ws)) (EP X pins σ Q) X.xe s := by
  have hq := h (s.heap.objs.size + 1) s.heap.objs.size (I.hok.fresh (Nat.le_succ _)) (I.hok.fresh (Nat.le_refl _)) (Nat.ne_of_lt (Nat.lt_succ_self _))
  have I2 := Inv.made (C := C) I
  have r1 : Vals (V.ref (s.heap.objs.size + 1) :: vs) (Value.ref (s.heap.objs.size + 1) :: us) := .cons rfl r
  have r2 := hb.rel r1 rz
  have n1 : (Value.ref (s.heap.objs.size + 1) :: us).length = n + 1 := by
    rw [List.length_cons, ← r.length, l1]
  refine wpAny_call (make_map (f := f) I.kIn M.makes M.init (beq_iff_eq.mp M.fn) (codeAny_mono (F.run _ X.stack _ _ ⟨Value.ref (s.heap.objs.size + 1) :: us, ks.zip ws⟩ (g (Value.ref (s.heap.objs.size + 1) :: us) ws) _ _ (WE W σ) (hr.make C us (ks.zip ws))
    (I2.env0.make C us (ks.zip ws)) (hb.to _ (Value.ref (s.heap.objs.size + 1) :: us) ws I2.kIn n1 (rz.length.symm.trans l2)) r2 hq) fun r s' hq' => ?_))
  cases r with
  | error e => exact passAt tk σ pins _ _ e s' I2 hq'
  | ok fl =>
    cases fl with
    | ret u =>
      obtain ⟨v, H', I3, rv, ev, q3⟩ := I2.after hq'
      subst ev
      exact ⟨rv, ⟨V.ref (s.heap.objs.size + 1), H', I3, rfl, q3⟩⟩
    | next => exact False.elim hq'
    | brk => exact False.elim hq'
    | cont => exact False.elim hq'
def tMk (X : Cx) (W : WX) (c n m np : Nat) (gV : List V → List V → List V) (ff : FF) (t tk : TA) : TE := fun σ H Q => t σ H fun vs H1 => tk σ H1 fun zs H2 => vs.length = n ∧ zs.length = m ∧ ∀ x dx, H2 x = none → H2 dx = none → dx ≠ x →
  spF (cgd X) np ff (gV (.ref x :: vs) zs) (upd (upd H2 dx (.own x)) x (.ins (ca X.K c) dx [])) (fun v H3 => v = .non ∧ Q (.ref x) H3) (WE W σ)
theorem make_imp {gV : List V → List V → List V} (hg : ∀ ι H ds es vs zs, Reps X.K ι H ds vs → Reps X.K ι H es zs → Reps X.K ι H (gD ds es) (gV vs zs)) {m : Nat} {σ : St} {H : Hp} {Q : VK} (h : tE (cgd X) W (eMake c n m np gD ff fa fk) σ H Q) :
    tMk X W c n m np gV ff (tA (cgd X) W fa) (tA (cgd X) W fk) σ H Q := by
  obtain ⟨ι, M, env, A, E, h⟩ := h
  refine tA.mono (tA.seq A E h) fun vs H1 ⟨ι1, M1, ds, s1, A1, E1, r1, _, h1⟩ => ?_
  refine tA.mono (tA.seq A1 E1 h1) fun zs H2 ⟨ι2, M2, es, s2, A2, E2, r2, _, h2⟩ => ?_
  by_cases hl : ds.length = n ∧ es.length = m ∧ (gD (.ref M2.length :: ds) es).length = np
  · rw [if_pos hl] at h2
    have r1' := r1.ext (s2.ext A1.nt)
    refine ⟨by rw [← r1.length]; exact hl.1, by rw [← r2.length]; exact hl.2.1, fun x dx nx ndx ne => ?_⟩
    have nx' : upd H2 dx (.own x) x = none := by rw [upd_ne (Ne.symm ne)]; exact nx
    have A3 := (A2.tmp (u := .own x) ndx)
    have A4 := A3.new (o := .ins c []) (u := .ins (ca X.K c) dx []) nx' ⟨dx, [], upd_same, .nil⟩
    have S4 : Step ι2 H2 (ι2 ++ [x]) (upd (upd H2 dx (.own x)) x (.ins (ca X.K c) dx [])) := (step_tmp ndx).trans (step_new nx')
    have X4 := S4.ext (K := X.K) A2.nt
    have hx : (ι2 ++ [x])[M2.length]? = some x := by rw [← A2.len]; simp
    refine ⟨ι2 ++ [x], M2 ++ [.ins c []], gD (.ref M2.length :: ds) es, A4, hg _ _ _ _ _ _ ?_ (r2.ext X4), hl.2.2, ?_⟩
    · simp only [Reps]
      exact ⟨_, _, rfl, by simp only [Rep]; exact ⟨x, hx, rfl⟩, r1'.ext X4⟩
    · have h4 := Post.step S4 h2
      cases e : ff (gD (.ref M2.length :: ds) es) (M2 ++ [.ins c []]) with
      | ok d M5 =>
        simp only [e] at h4
        intro ι5 H5 v s5 A5 r5
        cases d with
        | non =>
          simp only [Rep] at r5
          exact ⟨r5, h4 ι5 H5 _ s5 A5 (by simp only [Rep]; exact ⟨x, s5.ix hx, rfl⟩)⟩
        | _ => exact h4.elim
      | exc c fs M5 => simp only [e] at h4; exact h4
      | bad => simp only [e] at h4; exact h4
  · rw [if_neg hl] at h2; exact h2.elim
theorem se_make {fi : Addr} (M : Mk X.K (ca X.K c) fi) (F : FnK X k fi (n + 1) [] np gD ff) (hr : Room (k + 1) X.A) (hg : Gl X x) (hm : X.mg x = some (.ref (ca X.K c))) (tk : Takes X W) (ha : SA X W (e :: es) fa)
    (hdb : (x == ("__debug__" : Str)) = false := by decide) (he : starEach (e :: es) X.env = (false, eval e X.env) :: starEach es X.env := by rfl) (hpl : (backTo pos (starEach es X.env)).any (·.1) = false := by rfl) :
    SE X W (.Call (.Name x p) (e :: es) [] pos) (eMake c n 0 np gD ff fa aNil) := by
  obtain ⟨fd, ps, F, g, gV, hb, hgd⟩ := F
  refine ⟨fun pins s σ H Q I h => ?_⟩
  refine wpAny_Call_Name_kw (ld_glob I hg hm ?_ hdb)
  refine PySem.W.callWith_K (h₀ := X.base) I.ok.mod.kin M.kp (thn (ha.run pos pins s σ H _ I (make_imp hgd h)) fun us s1 ⟨vs, H1, I1, r, q⟩ => ⟨I1.kIn, ?_⟩) he hpl
  obtain ⟨ι, M', env, A, E, q⟩ := q
  obtain ⟨l1, l2, q⟩ := q ι H1 [] Step.refl A (by simp only [Reps])
  exact run_makeS (ws := []) (zs := []) (E := fun _ => WE W σ) M F hr hb tk I1 r .nil l1 rfl q
theorem se_makeK {fi : Addr} (M : Mk X.K (ca X.K c) fi) (F : FnK X k fi (n + 1) ks np gD ff) (hr : Room (k + 1) X.A) (hg : Gl X x) (hm : X.mg x = some (.ref (ca X.K c))) (tk : Takes X W) (ha : SA X W (e :: es) fa) (hkw : PK X kws (tA (cgd X) W fk))
    (hall : (backToKw pos (keywordEach kws X.env)).all (·.1.isSome) = true := by rfl) (hks : (backToKw pos (keywordEach kws X.env)).filterMap (·.1) = ks := by rfl) (hdb : (x == ("__debug__" : Str)) = false := by decide)
    (he : starEach (e :: es) X.env = (false, eval e X.env) :: starEach es X.env := by rfl) (hpl : ((backTo pos (starEach (e :: es) X.env)).any (·.1) || (backToKw pos (keywordEach kws X.env)).any (·.1.isNone)) = false := by rfl) :
    SE X W (.Call (.Name x p) (e :: es) kws pos) (eMake c n ks.length np gD ff fa fk) := by
  obtain ⟨fd, ps, F, g, gV, hb, hgd⟩ := F
  refine ⟨fun pins s σ H Q I h => ?_⟩
  refine wpAny_Call_Name_kw (ld_glob I hg hm ?_ hdb)
  refine PySem.W.callWith_KW (h₀ := X.base) I.ok.mod.kin M.kp hall (thn (ha.run pos pins s σ H _ I (make_imp hgd h)) fun us s1 ⟨vs, H1, I1, r, q⟩ => ?_) hpl he
  refine thn (hkw.run pos pins s1 σ H1 _ I1 q) fun ws s2 ⟨zs, H2, I2, rz, l1, l2, q2⟩ => ⟨I2.kIn, ?_⟩
  rw [hks]
  exact run_makeS (E := fun _ => WE W σ) M F hr hb tk I2 r rz l1 l2 q2
theorem _root_.L2.PK.imp {X : Cx} {e : List Keyword} {t t' : TA} (h : PK X e t) (i : ∀ σ H Q, t' σ H Q → t σ H Q) : PK X e t' := ⟨fun p pins s σ H Q I q => h.run p pins s σ H Q I (i σ H Q q)⟩
theorem sk_nil : PK X [] (tA (cgd X) W aNil) := pk_nil.imp fun σ H Q h => by
  obtain ⟨ι, M, env, A, E, h⟩ := h
  exact h ι H _ Step.refl A (by simp only [Reps])
theorem sk_cons {nm : Option Str} {e : Expr} {kpos : Pos} {kws : List Keyword} {fe : EF} {fr : AF} (ha : SE X W e fe) (hr : PK X kws (tA (cgd X) W fr)) : PK X (⟨nm, e, kpos⟩ :: kws) (tA (cgd X) W (aCons fe fr)) :=
  (pk_cons ha hr).imp fun σ H Q h => by
    obtain ⟨ι, M, env, A, E, h⟩ := h
    refine tE.mono (tE.seq A E h) fun x H1 ⟨ι1, M1, d1, s1, A1, E1, r1, _, h1⟩ => ?_
    refine tA.mono (tA.seq A1 E1 h1) fun xs H2 ⟨ι2, M2, d2, s2, A2, E2, r2, _, h2⟩ => ?_
    exact h2 ι2 H2 _ Step.refl A2 (by simp only [Reps]; exact ⟨_, _, rfl, r1.ext (s2.ext A1.nt), r2⟩)
/-! #### o.f = e -/
def putD (f : Str) (v : D) : List (Str × D) → List (Str × D)
  | [] => [(f, v)]
  | (g, x) :: r => if g = f then (g, v) :: r else (g, x) :: putD f v r
def sFld (f : Str) (ok : Nat → Bool) (fo fv : EF) : SF := fun env M => (fv env M).bindS env fun v M1 => (fo env M1).bindS env fun o M2 => match o with
  | .ref n => match M2[n]? with
    | some (.ins c fs) => if ok c = true ∧ fs.length < 1000 then .ok (.nx env) (M2.set n (.ins c (putD f v fs))) else .bad
    | _ => .bad
  | _ => .bad
theorem FRel.put {K : PySem.W.Frag} {ι : List Addr} {H : Hp} {f : Str} {d : D} {v : V} (r : Rep K ι H d v) : ∀ {fs : List (Str × D)} {vs : List (Str × V)}, FRel K ι H fs vs → FRel K ι H (putD f d fs) (putF f v vs)
  | _, _, .nil => .cons ⟨rfl, r⟩ .nil
  | (g, x) :: fs, (g', y) :: vs, .cons z t => by
    obtain ⟨q, z⟩ := z
    simp only at q
    subst q
    unfold putD putF
    by_cases h : g = f
    · rw [if_pos h, if_pos h]; exact .cons ⟨rfl, r⟩ t
    · rw [if_neg h, if_neg h]; exact .cons ⟨rfl, z⟩ (FRel.put r t)
theorem FRel.length {K : PySem.W.Frag} {ι : List Addr} {H : Hp} {fs : List (Str × D)} {vs : List (Str × V)} (h : FRel K ι H fs vs) : fs.length = vs.length := Paired.length h
theorem ss_fld {o value : Expr} {f : Str} {pos' : Pos} {ok : Nat → Bool} {fo fv : EF} (hc : ∀ c, ok c = true → Cls X.K (ca X.K c) ∧ NoAttr X.K (ca X.K c) f) (ho : SE X W o fo) (hv : SE X W value fv) (hs : swapsWith value (some (.Attribute o f pos')) pos.line X.env = pure false) :
    SS X W (.Assign [.Attribute o f pos'] value pos) (sFld f ok fo fv) :=
  (ps_fld ho hv hs).imp fun C σ H h => by
    obtain ⟨ι, M, env, A, E, h⟩ := h
    refine tE.mono (tE.seqS A E h) fun y H1 ⟨ι1, M1, v, s1, A1, E1, r1, _, h1⟩ => ?_
    refine tE.mono (tE.seqS A1 E1 h1) fun x H2 ⟨ι2, M2, d2, s2, A2, E2, r2, _, h2⟩ => ?_
    cases d2 with
    | ref n =>
      simp only at h2
      cases e1 : M2[n]? with
      | none => rw [e1] at h2; exact h2.elim
      | some o =>
        rw [e1] at h2
        cases o with
        | ins c fs =>
          simp only at h2
          by_cases hl : ok c = true ∧ fs.length < 1000
          · rw [if_pos hl] at h2
            simp only [Rep] at r2
            obtain ⟨a, ea, rfl⟩ := r2
            obtain ⟨dx, vs, hH, fr⟩ := A2.obj n a _ ea e1
            have ha := List.mem_of_getElem? ea
            refine ⟨a, ca X.K c, dx, vs, rfl, hH, (hc c hl.1).1, (hc c hl.1).2, by rw [← fr.length]; exact hl.2, ?_⟩
            have nf : NF H2 a := NF.of hH fun _ _ z => nomatch z
            have x3 := ext_upd (K := X.K) (u := .ins (ca X.K c) dx (putF f y vs)) A2.nt ha nf
            exact h2 ι2 _ σ (step_upd ha nf) (A2.upd nf ea ⟨dx, _, upd_same, FRel.put (r1.ext ((s2.ext A1.nt).trans x3)) (fr.ext x3)⟩) (E2.ext x3)
          · rw [if_neg hl] at h2; exact h2.elim
        | _ => exact h2.elim
    | _ => exact h2.elim
end
end Sh

namespace Sh
open PySem L2

/-! ### operators -/
section
variable {X : Cx}
theorem PostO.int {G : Gd} {ι : List Addr} {H : Hp} {M : Store} {i : Int} {Q : VK} (A : Abs G.K ι H G.P G.w M) (h : PostO G ι H (some (.int i, M)) Q) : Q (.int i) H := h.val A (by simp only [Rep])
theorem PostO.bl {G : Gd} {ι : List Addr} {H : Hp} {M : Store} {b : Bool} {Q : VK} (A : Abs G.K ι H G.P G.w M) (h : PostO G ι H (some (.bl b, M)) Q) : Q (.bl b) H := h.val A (by simp only [Rep])
def oII (C : Int → Int → Bool) (g : Int → Int → D) : O2 := fun x y M => match x, y with
  | .int i, .int j => if C i j = true then some (g i j, M) else none
  | _, _ => none
theorem so_II {f : Value → Value → Sem Value} {C : Int → Int → Prop} {Cb : Int → Int → Bool} {g : Int → Int → V} {gD : Int → Int → D} (h : OpR X f (rI C g)) (hc : ∀ i j, Cb i j = true → C i j) (hg : ∀ ι H i j, Rep X.K ι H (gD i j) (g i j)) : SOp X f (oII Cb gD) :=
  h.imp fun x y H Q q => by
    obtain ⟨ι, M, d, e, A, r1, r2, q⟩ := q
    cases d with
    | int i =>
      cases e with
      | int j =>
        simp only [Rep] at r1 r2
        subst r1 r2
        have q : PostO (cgd X) ι H (if Cb i j = true then some (gD i j, M) else none) Q := q
        by_cases c : Cb i j = true
        · rw [if_pos c] at q
          exact ⟨i, j, rfl, rfl, hc i j c, q.val A (hg ι H i j)⟩
        · rw [if_neg c] at q; exact q.elim
      | _ => exact q.elim
    | _ => exact q.elim
theorem rI_of {f : Value → Value → Sem Value} {g : Int → Int → V} (h : OpR X f (rI0 g)) : OpR X f (rI (fun _ _ => True) g) := h.imp fun x y H Q ⟨i, j, a, b, _, q⟩ => ⟨i, j, a, b, q⟩
abbrev tt2 : Int → Int → Bool := fun _ _ => true
abbrev oSub : O2 := oII tt2 fun i j => .int (i - j)
abbrev oLt : O2 := oII tt2 fun i j => .bl (decide (i < j))
abbrev oLe : O2 := oII tt2 fun i j => .bl (decide (i ≤ j))
abbrev oGt : O2 := oII tt2 fun i j => .bl (decide (j < i))
abbrev oGe : O2 := oII tt2 fun i j => .bl (decide (j ≤ i))
abbrev oMod : O2 := oII (fun _ j => decide (0 < j)) fun i j => .int (i % j)
abbrev oFdiv : O2 := oII (fun _ j => decide (0 < j) && decide (j.natAbs.log2 < 9000)) fun i j => .int (i / j)
abbrev oPow : O2 := oII (fun i j => decide (0 ≤ j) && decide (j ≤ 1000000) && decide (i.natAbs < 2 ^ 64)) fun i j => .int (i ^ j.toNat)
theorem so_sub : SOp X (binaryOp .Sub) oSub := so_II (rI_of op_sub) (fun _ _ _ => trivial) fun _ _ _ _ => by simp only [Rep]
theorem so_isub : SOp X (inplaceOp .Sub) oSub := so_II (rI_of iop_sub) (fun _ _ _ => trivial) fun _ _ _ _ => by simp only [Rep]
theorem so_lt : SOp X (compareOp .Lt) oLt := so_II (rI_of op_lt) (fun _ _ _ => trivial) fun _ _ _ _ => by simp only [Rep]
theorem so_le : SOp X (compareOp .LtE) oLe := so_II (rI_of op_le) (fun _ _ _ => trivial) fun _ _ _ _ => by simp only [Rep]
theorem so_gt : SOp X (compareOp .Gt) oGt := so_II (rI_of op_gt) (fun _ _ _ => trivial) fun _ _ _ _ => by simp only [Rep]
theorem so_ge : SOp X (compareOp .GtE) oGe := so_II (rI_of op_ge) (fun _ _ _ => trivial) fun _ _ _ _ => by simp only [Rep]
theorem so_mod : SOp X (binaryOp .Mod) oMod := so_II op_mod (fun _ _ h => of_decide_eq_true h) fun _ _ _ _ => by simp only [Rep]
theorem so_fdiv : SOp X (binaryOp .FloorDiv) oFdiv := so_II op_fdivW (fun _ _ h => by
  simp only [Bool.and_eq_true, decide_eq_true_eq] at h; exact h) fun _ _ _ _ => by simp only [Rep]
theorem so_pow : SOp X (binaryOp .Pow) oPow := so_II op_pow (fun _ _ h => by
  simp only [Bool.and_eq_true, decide_eq_true_eq] at h; exact ⟨h.1.1, h.1.2, h.2⟩) fun _ _ _ _ => by simp only [Rep]
/-! + -/
def oAdd : O2 := fun x y M => match x, y with
  | .int i, .int j => some (.int (i + j), M)
  | .tup l, .tup r => if l.length + r.length ≤ 1000000 then some (.tup (l ++ r), M) else none
  | .ref n, .ref m => match M[n]?, M[m]? with
    | some (.lst l), some (.lst r) => if l.length + r.length ≤ 1000000 then some (.ref M.length, M ++ [.lst (l ++ r)]) else none
    | _, _ => none
  | .str a, .str b => if a.length + b.length ≤ 1000000 then some (.str (a ++ b), M) else none
  | _, _ => none
theorem Reps.append {K : PySem.W.Frag} {ι : List Addr} {H : Hp} : ∀ {l r : List D} {vs us : List V}, Reps K ι H l vs → Reps K ι H r us → Reps K ι H (l ++ r) (vs ++ us)
  | [], _, _, _, h, g => by simp only [Reps] at h; subst h; exact g
  | d :: l, r, _, _, h, g => by
    simp only [Reps] at h
    obtain ⟨v, rs, rfl, h1, h2⟩ := h
    show Reps K ι H (d :: (l ++ r)) (v :: (rs ++ _))
    simp only [Reps]
    exact ⟨_, _, rfl, h1, Reps.append h2 g⟩
theorem Reps.nil_iff {K : PySem.W.Frag} {ι : List Addr} {H : Hp} {l : List D} {vs : List V} (h : Reps K ι H l vs) : vs = [] ↔ l = [] := by
  have := h.length
  cases l <;> cases vs <;> simp at this ⊢
theorem rep_tup {K : PySem.W.Frag} {ι : List Addr} {H : Hp} {a : Addr} {vs : List V} {l : List D} (h : SqT K H a vs) (r : Reps K ι H l vs) : Rep K ι H (.tup l) (.ref a) := by simp only [Rep]; exact ⟨a, vs, rfl, h, r⟩
theorem so_add : SOp X (binaryOp .Add) oAdd :=
  (((op_add.or op_catA).or op_cat).or op_add_str).imp fun x y H Q q => by
    obtain ⟨ι, M, d, e, A, r1, r2, q⟩ := q
    cases d with
    | int i =>
      cases e with
      | int j =>
        simp only [Rep] at r1 r2
        exact .inl (.inl (.inl ⟨i, j, r1, r2, q.int A⟩))
      | _ => exact q.elim
    | tup l =>
      cases e with
      | tup r =>
        simp only [Rep] at r1 r2
        obtain ⟨a, vs, rfl, h1, h2⟩ := r1
        obtain ⟨b, us, rfl, h3, h4⟩ := r2
        have q : PostO (cgd X) ι H (if l.length + r.length ≤ 1000000 then some (.tup (l ++ r), M) else none) Q := q
        by_cases c : l.length + r.length ≤ 1000000
        · rw [if_pos c] at q
          refine .inl (.inl (.inr ⟨a, b, vs, us, rfl, rfl, h1, h3, by rw [← h2.length, ← h4.length]; exact lim_le c, fun e => ?_, fun _ e => ?_, fun _ _ => q.tup A (h2.append h4)⟩))
          · have el := h2.nil_iff.mp e
            subst el
            exact q.val A (rep_tup h3 h4)
          · have er := h4.nil_iff.mp e
            subst er
            rw [List.append_nil] at q
            exact q.val A (rep_tup h1 h2)
        · rw [if_neg c] at q; exact q.elim
      | _ => exact q.elim
    | ref n =>
      cases e with
      | ref m =>
        simp only [Rep] at r1 r2
        obtain ⟨a, ea, rfl⟩ := r1
        obtain ⟨b, eb, rfl⟩ := r2
        have q : PostO (cgd X) ι H (match M[n]?, M[m]? with
          | some (.lst l), some (.lst r) => if l.length + r.length ≤ 1000000 then some (.ref M.length, M ++ [.lst (l ++ r)]) else none
          | _, _ => none) Q := q
        cases e1 : M[n]? with
        | none => rw [e1] at q; exact q.elim
        | some o =>
          cases e2 : M[m]? with
          | none => rw [e1, e2] at q; cases o <;> exact q.elim
          | some o' =>
            rw [e1, e2] at q
            cases o with
            | lst l =>
              cases o' with
              | lst r =>
                obtain ⟨vs, h1, h2⟩ := A.obj n a _ ea e1
                obtain ⟨us, h3, h4⟩ := A.obj m b _ eb e2
                simp only at q
                by_cases c : l.length + r.length ≤ 1000000
                · rw [if_pos c] at q
                  exact .inl (.inr ⟨a, b, vs, us, rfl, rfl, h1, h3, by rw [← h2.length, ← h4.length]; exact lim_le c, q.lst A (h2.append h4)⟩)
                · rw [if_neg c] at q; exact q.elim
              | _ => exact q.elim
            | _ => exact q.elim
      | _ => exact q.elim
    | str a =>
      cases e with
      | str b =>
        simp only [Rep] at r1 r2
        have q : PostO (cgd X) ι H (if a.length + b.length ≤ 1000000 then some (.str (a ++ b), M) else none) Q := q
        by_cases c : a.length + b.length ≤ 1000000
        · rw [if_pos c] at q
          exact .inr ⟨a, b, r1, r2, lim_le c, q.val A (by simp only [Rep])⟩
        · rw [if_neg c] at q; exact q.elim
      | _ => exact q.elim
    | _ => exact q.elim
theorem so_iadd : SOp X (inplaceOp .Add) (oII tt2 fun i j => .int (i + j)) := so_II (rI_of iop_add) (fun _ _ _ => trivial) fun _ _ _ _ => by simp only [Rep]
/-! * -/
def mulOk (i j : Int) : Bool := decide ((Builtin.Int.intBits i : Int) + (Builtin.Int.intBits j : Int) ≤ 134217728)
def oMul : O2 := fun x y M => match x, y with
  | .int i, .int j => if mulOk i j = true then some (.int (i * j), M) else none
  | .ref n, .int k => match M[n]? with
    | some (.lst l) => if -1000000 ≤ k ∧ k ≤ 1000000 ∧ l.length * k.toNat ≤ 1000000 then some (.ref M.length, M ++ [.lst (List.replicate k.toNat l).flatten]) else none
    | _ => none
  | .tup l, .int k => if l ≠ [] ∧ 2 ≤ k ∧ k ≤ 1000 ∧ l.length ≤ 1000 then some (.tup (List.replicate k.toNat l).flatten, M) else none
  | _, _ => none
theorem Reps.rep {K : PySem.W.Frag} {ι : List Addr} {H : Hp} {l : List D} {vs : List V} (h : Reps K ι H l vs) : ∀ k : Nat, Reps K ι H (List.replicate k l).flatten (List.replicate k vs).flatten
  | 0 => by simp [Reps]
  | k + 1 => by simp only [List.replicate_succ, List.flatten_cons]; exact h.append (Reps.rep h k)
theorem so_mul : SOp X (binaryOp .Mult) oMul :=
  ((op_mulX.or op_rep).or op_repT).imp fun x y H Q q => by
    obtain ⟨ι, M, d, e, A, r1, r2, q⟩ := q
    cases d with
    | int i =>
      cases e with
      | int j =>
        simp only [Rep] at r1 r2
        have q : PostO (cgd X) ι H (if mulOk i j = true then some (.int (i * j), M) else none) Q := q
        by_cases c : mulOk i j = true
        · rw [if_pos c] at q
          exact .inl (.inl ⟨i, j, r1, r2, of_decide_eq_true (p := (Builtin.Int.intBits i : Int) + (Builtin.Int.intBits j : Int) ≤ 134217728) c, q.int A⟩)
        · rw [if_neg c] at q; exact q.elim
      | _ => exact q.elim
    | ref n =>
      cases e with
      | int k =>
        simp only [Rep] at r1 r2
        obtain ⟨a, ea, rfl⟩ := r1
        have q : PostO (cgd X) ι H (match M[n]? with
          | some (.lst l) => if -1000000 ≤ k ∧ k ≤ 1000000 ∧ l.length * k.toNat ≤ 1000000 then some (.ref M.length, M ++ [.lst (List.replicate k.toNat l).flatten]) else none
          | _ => none) Q := q
        cases e1 : M[n]? with
        | none => rw [e1] at q; exact q.elim
        | some o =>
          rw [e1] at q
          cases o with
          | lst l =>
            simp only at q
            obtain ⟨vs, h1, h2⟩ := A.obj n a _ ea e1
            by_cases c : -1000000 ≤ k ∧ k ≤ 1000000 ∧ l.length * k.toNat ≤ 1000000
            · rw [if_pos c] at q
              exact .inl (.inr ⟨a, k, vs, rfl, r2, h1, by omega, by omega, by rw [← h2.length]; exact lim_le c.2.2, q.lst A (h2.rep k.toNat)⟩)
            · rw [if_neg c] at q; exact q.elim
          | _ => exact q.elim
      | _ => exact q.elim
    | tup l =>
      cases e with
      | int k =>
        simp only [Rep] at r1 r2
        obtain ⟨a, vs, rfl, h1, h2⟩ := r1
        have q : PostO (cgd X) ι H (if l ≠ [] ∧ 2 ≤ k ∧ k ≤ 1000 ∧ l.length ≤ 1000 then some (.tup (List.replicate k.toNat l).flatten, M) else none) Q := q
        by_cases c : l ≠ [] ∧ 2 ≤ k ∧ k ≤ 1000 ∧ l.length ≤ 1000
        · rw [if_pos c] at q
          exact .inr ⟨a, k, vs, rfl, r2, h1, fun z => c.1 (h2.nil_iff.mp z), c.2.1, c.2.2.1, by rw [← h2.length]; exact c.2.2.2, q.tup A (h2.rep k.toNat)⟩
        · rw [if_neg c] at q; exact q.elim
      | _ => exact q.elim
    | _ => exact q.elim
/-! == -/
def optAll {α : Type} : List (Option α) → Option (List α)
  | [] => some []
  | some a :: r => (optAll r).map (a :: ·)
  | none :: _ => none
def pyd (M : Store) : Nat → D → Option PyData
  | 0, _ => none
  | n + 1, d => match d with
    | .non => some .none
    | .bl b => some (.bool b)
    | .int i => some (.int i)
    | .str x => some (.str x)
    | .tup l => (optAll (l.map (pyd M n))).map .tuple
    | .ref k => match M[k]? with
      | some (.lst l) => (optAll (l.map (pyd M n))).map .list
      | some (.fz l) => (optAll (l.map (pyd M n))).map .list
      | _ => none
    | .ty _ => none
theorem dps {K : PySem.W.Frag} {ι : List Addr} {H : Hp} {f : D → Option PyData} (hf : ∀ d v p, Rep K ι H d v → f d = some p → Dp K H v p) : ∀ {l : List D} {vs : List V} {ps : List PyData}, Reps K ι H l vs → optAll (l.map f) = some ps → DpAll K H vs ps
  | [], vs, ps, h, e => by
    simp only [Reps] at h
    simp [optAll] at e
    subst h e
    exact .nil
  | d :: l, vs, ps, h, e => by
    simp only [Reps] at h
    obtain ⟨v, r, rfl, h1, h2⟩ := h
    simp only [List.map_cons] at e
    cases q : f d with
    | none => rw [q] at e; simp [optAll] at e
    | some p =>
      rw [q] at e
      simp only [optAll, Option.map_eq_some_iff] at e
      obtain ⟨ps', e1, rfl⟩ := e
      exact .cons (hf d v p h1 q) (dps hf h2 e1)
theorem dp_of {G : Gd} {ι : List Addr} {H : Hp} {M : Store} (A : Abs G.K ι H G.P G.w M) : ∀ (n : Nat) (d : D) (v : V) (p : PyData), Rep G.K ι H d v → pyd M n d = some p → Dp G.K H v p
  | 0, _, _, _, _, e => by simp [pyd] at e
  | n + 1, d, v, p, r, e => by
    cases d with
    | non => simp only [Rep] at r; simp [pyd] at e; subst r e; exact .non
    | bl b => simp only [Rep] at r; simp [pyd] at e; subst r e; exact .bl b
    | int i => simp only [Rep] at r; simp [pyd] at e; subst r e; exact .int i
    | str x => simp only [Rep] at r; simp [pyd] at e; subst r e; exact .str x
    | ty n => simp [pyd] at e
    | tup l =>
      simp only [Rep] at r
      obtain ⟨a, vs, rfl, h1, h2⟩ := r
      simp only [pyd, Option.map_eq_some_iff] at e
      obtain ⟨ps, e, rfl⟩ := e
      exact .tup h1 (dps (dp_of A n) h2 e)
    | ref k =>
      simp only [Rep] at r
      obtain ⟨a, ea, rfl⟩ := r
      simp only [pyd] at e
      cases e1 : M[k]? with
      | none => rw [e1] at e; cases e
      | some o =>
        rw [e1] at e
        cases o with
        | lst l =>
          simp only [Option.map_eq_some_iff] at e
          obtain ⟨ps, e, rfl⟩ := e
          obtain ⟨vs, h1, h2⟩ := A.obj k a _ ea e1
          exact .lst (SqL.of h1) (dps (dp_of A n) h2 e)
        | fz l =>
          simp only [Option.map_eq_some_iff] at e
          obtain ⟨ps, e, rfl⟩ := e
          obtain ⟨vs, h1, h2⟩ := sq_fz (A.obj k a _ ea e1)
          exact .lst h1 (dps (dp_of A n) h2 e)
        | _ => cases e
/-- deep == of data -/
def eqD (M : Store) (x y : D) : Option Bool := match pyd M 8 x, pyd M 8 y with
  | some p, some q => if SeqAt.shaped p = true ∧ SeqAt.shaped q = true then some (PyData.eqv p q) else none
  | _, _ => none
def oEq : O2 := fun x y M => (eqD M x y).map fun b => (.bl b, M)
def oNe : O2 := fun x y M => (eqD M x y).map fun b => (.bl (!b), M)
theorem eqD_of {G : Gd} {ι : List Addr} {H : Hp} {M : Store} {x y : D} {v u : V} {b : Bool} (A : Abs G.K ι H G.P G.w M) (r1 : Rep G.K ι H x v) (r2 : Rep G.K ι H y u) (h : eqD M x y = some b) :
    ∃ p q, Dp G.K H v p ∧ Dp G.K H u q ∧ SeqAt.shaped p = true ∧ SeqAt.shaped q = true ∧ b = PyData.eqv p q := by
  unfold eqD at h
  cases e1 : pyd M 8 x with
  | none => rw [e1] at h; cases h
  | some p =>
    cases e2 : pyd M 8 y with
    | none => rw [e1, e2] at h; cases h
    | some q =>
      rw [e1, e2] at h
      simp only at h
      by_cases c : SeqAt.shaped p = true ∧ SeqAt.shaped q = true
      · rw [if_pos c] at h
        cases h
        exact ⟨p, q, dp_of A 8 _ _ _ r1 e1, dp_of A 8 _ _ _ r2 e2, c.1, c.2, rfl⟩
      · rw [if_neg c] at h; cases h
theorem so_eq (hu : X.A.units + 64 < cLine) : SOp X (compareOp .Eq) oEq := (op_eqD hu).imp fun x y H Q q => by
  obtain ⟨ι, M, d, e, A, r1, r2, q⟩ := q
  unfold oEq at q
  cases h : eqD M d e with
  | none => rw [h] at q; exact q.elim
  | some b =>
    rw [h] at q
    obtain ⟨p, q', h1, h2, h3, h4, rfl⟩ := eqD_of A r1 r2 h
    exact ⟨p, q', h1, h2, h3, h4, PostO.bl A q⟩
theorem so_ne (hu : X.A.units + 64 < cLine) : SOp X (compareOp .NotEq) oNe := (op_neD hu).imp fun x y H Q q => by
  obtain ⟨ι, M, d, e, A, r1, r2, q⟩ := q
  unfold oNe at q
  cases h : eqD M d e with
  | none => rw [h] at q; exact q.elim
  | some b =>
    rw [h] at q
    obtain ⟨p, q', h1, h2, h3, h4, rfl⟩ := eqD_of A r1 r2 h
    exact ⟨p, q', h1, h2, h3, h4, PostO.bl A q⟩
end
end Sh

namespace Sh
open PySem L2

/-! ### dicts with tuple keys -/
mutual
theorem nk_inj : ∀ (a b : D) (k : NestedKey), nk a = some k → nk b = some k → a = b
  | .non, b, k, h, g => by
    simp only [nk, Option.some.injEq] at h
    subst h
    cases b with
    | tup l => simp [nk] at g
    | _ => simp [nk] at g ⊢
  | .int i, b, k, h, g => by
    simp only [nk, Option.some.injEq] at h
    subst h
    cases b with
    | tup l => simp [nk] at g
    | int j => simp [nk] at g; rw [g]
    | _ => simp [nk] at g
  | .str i, b, k, h, g => by
    simp only [nk, Option.some.injEq] at h
    subst h
    cases b with
    | tup l => simp [nk] at g
    | str j => simp [nk] at g; rw [g]
    | _ => simp [nk] at g
  | .tup l, b, k, h, g => by
    simp only [nk, Option.map_eq_some_iff] at h
    obtain ⟨ks, h, rfl⟩ := h
    cases b with
    | tup r =>
      simp only [nk, Option.map_eq_some_iff, NestedKey.tup.injEq] at g
      obtain ⟨ks', g, e⟩ := g
      rw [nks_inj l r ks h (by rw [← e]; exact g)]
    | _ => simp [nk] at g
  | .bl _, _, _, h, _ => by simp [nk] at h
  | .ref _, _, _, h, _ => by simp [nk] at h
  | .ty _, _, _, h, _ => by simp [nk] at h
theorem nks_inj : ∀ (a b : List D) (k : List NestedKey), nks a = some k → nks b = some k → a = b
  | [], [], _, _, _ => rfl
  | [], d :: l, k, h, g => by
    simp only [nks, Option.some.injEq] at h
    subst h
    unfold nks at g
    cases e1 : nk d <;> cases e2 : nks l <;> simp [e1, e2] at g
  | d :: l, [], k, h, g => by
    simp only [nks, Option.some.injEq] at g
    subst g
    unfold nks at h
    cases e1 : nk d <;> cases e2 : nks l <;> simp [e1, e2] at h
  | d :: l, e :: r, k, h, g => by
    unfold nks at h g
    cases e1 : nk d with
    | none => simp [e1] at h
    | some x =>
      cases e2 : nks l with
      | none => simp [e1, e2] at h
      | some y =>
        cases e3 : nk e with
        | none => simp [e3] at g
        | some x' =>
          cases e4 : nks r with
          | none => simp [e3, e4] at g
          | some y' =>
            simp [e1, e2] at h
            simp [e3, e4] at g
            subst h
            simp at g
            rw [nk_inj d e x e1 (by rw [e3, g.1]), nks_inj l r y e2 (by rw [e4, g.2])]
end
theorem nkey_nk {d : D} {k : NestedKey} (h : nkey d = some k) : nk d = some k ∧ k.depth ≤ 8 := by
  cases d with
  | tup l =>
    simp only [nkey] at h
    cases e : nks l with
    | none => rw [e] at h; cases h
    | some ks =>
      rw [e] at h
      simp only at h
      by_cases c : (NestedKey.tup ks).depth ≤ 8
      · rw [if_pos c] at h
        cases h
        exact ⟨by simp [nk, e], c⟩
      · rw [if_neg c] at h; cases h
  | _ => simp [nkey] at h
theorem nkey_inj {a b : D} {k : NestedKey} (h : nkey a = some k) (g : nkey b = some k) : a = b := nk_inj a b k (nkey_nk h).1 (nkey_nk g).1
section
variable {X : Cx} {pins : List (Addr × Obj)} {σ : St} {H : Hp} {s : Shared} {ι : List Addr}
mutual
theorem nested_of (I : Inv X pins σ H s) : ∀ (d : D) (v : V) (u : Value) (k : NestedKey), Rep X.K ι H d v → RelV v u → nk d = some k → NestedIs s.heap k u
  | .non, v, u, k, r, q, e => by
    simp only [Rep] at r
    subst r
    simp [nk] at e
    subst e
    rw [show u = Value.none from q]
    exact .none
  | .int i, v, u, k, r, q, e => by
    simp only [Rep] at r
    subst r
    simp [nk] at e
    subst e
    obtain ⟨t, rfl⟩ := q
    exact .int i t
  | .str i, v, u, k, r, q, e => by
    simp only [Rep] at r
    subst r
    simp [nk] at e
    subst e
    obtain ⟨t, rfl⟩ := q
    exact .text i t
  | .tup l, v, u, k, r, q, e => by
    simp only [Rep] at r
    obtain ⟨a, vs, rfl, h1, h2⟩ := r
    simp only [nk, Option.map_eq_some_iff] at e
    obtain ⟨ks, e, rfl⟩ := e
    obtain ⟨its, rv, ⟨o, ho, hc, n, hd⟩, _⟩ := I.tuple h1
    rw [show u = Value.ref a from q]
    exact .tup ho hc hd (by simpa using nested_all I l vs its ks h2 rv e)
  | .bl _, _, _, _, _, _, e => by simp [nk] at e
  | .ref _, _, _, _, _, _, e => by simp [nk] at e
  | .ty _, _, _, _, _, _, e => by simp [nk] at e
theorem nested_all (I : Inv X pins σ H s) : ∀ (l : List D) (vs : List V) (us : List Value) (ks : List NestedKey), Reps X.K ι H l vs → Vals vs us → nks l = some ks → NestedAll s.heap ks us
  | [], vs, us, ks, r, q, e => by
    simp only [Reps] at r
    subst r
    simp [nks] at e
    subst e
    cases q
    exact .nil
  | d :: l, vs, us, ks, r, q, e => by
    simp only [Reps] at r
    obtain ⟨v, rs, rfl, h1, h2⟩ := r
    cases q with
    | cons q1 q2 =>
      unfold nks at e
      cases e1 : nk d with
      | none => simp [e1] at e
      | some x =>
        cases e2 : nks l with
        | none => simp [e1, e2] at e
        | some y =>
          simp [e1, e2] at e
          subst e
          exact .cons (nested_of I d v _ x h1 q1 e1) (nested_all I l rs _ y h2 q2 e2)
end
theorem key_is (I : Inv X pins σ H s) {d : D} {a : Addr} {k : NestedKey} (r : Rep X.K ι H d (.ref a)) (h : nkey d = some k) : (nestedKind X.prog X.w).is s.heap k a := ⟨nested_of I d _ _ k r rfl (nkey_nk h).1, (nkey_nk h).2⟩
theorem dct_of (I : Inv X pins σ H s) {a : Addr} {kvs : List (D × D)} {o : Obj} (ho : s.heap.get? a = some o) (h : DctAt X.K ι H X.prog X.w a kvs o) :
    ∃ xs, s.heap.DictOfH (nestedKind X.prog X.w) a xs ∧ Paired (EntR X.K ι H) kvs xs ∧ xs.length = kvs.length ∧ kvs.length ≤ sizeLine ∧ (a == sysModules) = false := by
  obtain ⟨h1, h2, h3, es, ep, xs, h5, h6, h7, h8⟩ := h
  refine ⟨xs, ⟨o, es, ep, ho, h3, h5, h6, fun x m => ?_, h7⟩, h8, (Paired.length h8).symm, h2, h1⟩
  have : ∀ {l₁ : List (D × D)} {l₂ : List (NestedKey × Addr × Value)}, Paired (EntR X.K ι H) l₁ l₂ → x ∈ l₂ → (nestedKind X.prog X.w).is s.heap x.1 x.2.1 := by
    intro l₁ l₂ p
    induction p with
    | nil => intro m; cases m
    | cons r t ih =>
      intro m
      rcases List.mem_cons.mp m with e | m
      · subst e
        exact key_is I r.2.1 r.1
      · exact ih m
  exact this h8 m
/-- the dict's object is known -/
theorem dct_at (I : Inv X pins σ H s) {a : Addr} {o : Obj} (e : H a = some (dctO a o)) : s.heap.get? a = some o := (I.hok a _ e).1
theorem dlk_at (I : Inv X pins σ H s) {a : Addr} {o o' : Obj} (e : H a = some (.frz o' (dctO a o))) : s.heap.get? a = some o' ∧ s.heap.get? a = some o := ⟨(I.hok a _ e).1, (I.hok a _ e).2.1⟩
end
def lookD (kvs : List (D × D)) (k : D) : Option D := (kvs.find? fun p => decide (p.1 = k)).map (·.2)
def putKD (kvs : List (D × D)) (k v : D) : List (D × D) := if (lookD kvs k).isSome then kvs.map (fun p => if p.1 = k then (p.1, v) else p) else kvs ++ [(k, v)]
section
variable {K : PySem.W.Frag} {ι : List Addr} {H : Hp}
theorem look_rel {k : D} {x : NestedKey} (hk : nkey k = some x) : ∀ {kvs : List (D × D)} {xs : List (NestedKey × Addr × Value)}, Paired (EntR K ι H) kvs xs →
    (∀ d, lookD kvs k = some d → ∃ p v, atKey xs x = some p ∧ RelV v p.2 ∧ Rep K ι H d v) ∧ (lookD kvs k = none → atKey xs x = none)
  | _, _, .nil => ⟨fun d e => by simp [lookD] at e, fun _ => rfl⟩
  | (k', d') :: kvs, (x', a', u') :: xs, .cons r t => by
    obtain ⟨h1, h2, v, h3, h4⟩ := r
    by_cases e : k' = k
    · subst e
      have ex : x' = x := Option.some.inj (h1.symm.trans hk)
      subst ex
      refine ⟨fun d e => ?_, fun e => ?_⟩
      · simp [lookD] at e
        subst e
        exact ⟨(a', u'), v, by simp [atKey], h3, h4⟩
      · simp [lookD] at e
    · have nx : ¬ x' = x := fun z => e (nkey_inj h1 (by rw [z]; exact hk))
      have ih := look_rel hk t
      simpa [lookD, atKey, List.find?_cons, e, nx] using ih
theorem put_rel {k d : D} {x : NestedKey} {a : Addr} {u : Value} {v : V} (hk : nkey k = some x) (ra : Rep K ι H k (.ref a)) (ru : RelV v u) (rd : Rep K ι H d v) {kvs : List (D × D)} {xs : List (NestedKey × Addr × Value)} (p : Paired (EntR K ι H) kvs xs) :
    Paired (EntR K ι H) (putKD kvs k d) (storedH xs x a u) := by
  obtain ⟨l1, l2⟩ := look_rel hk p
  unfold putKD storedH
  cases e : lookD kvs k with
  | some d' =>
    obtain ⟨q, v', e2, _⟩ := l1 d' e
    rw [e2, if_pos (show (some d').isSome = true from rfl), if_pos (show (some q).isSome = true from rfl)]
    clear l1 l2 e e2
    induction p with
    | nil => exact .nil
    | @cons p0 q0 _ _ r t ih =>
      refine .cons ?_ ih
      obtain ⟨h1, h2, h3⟩ := r
      by_cases e : p0.1 = k
      · have ex : q0.1 = x := Option.some.inj (h1.symm.trans (by rw [e]; exact hk))
        simp only [putAt, e, ex, if_true]
        exact ⟨hk, by rw [← e]; exact h2, v, ru, rd⟩
      · have nx : ¬ q0.1 = x := fun z => e (nkey_inj h1 (by rw [z]; exact hk))
        simp only [putAt, e, nx, if_false]
        exact ⟨h1, h2, h3⟩
  | none =>
    rw [l2 e, if_neg (by simp), if_neg (by simp)]
    clear l1 l2 e
    induction p with
    | nil => exact .cons ⟨hk, ra, v, ru, rd⟩ .nil
    | cons r t ih => exact .cons r ih
end
theorem putKD_length (kvs : List (D × D)) (k v : D) : (putKD kvs k v).length ≤ kvs.length + 1 := by
  unfold putKD
  split <;> simp
/-- the dict at n, locked or not -/
def dctM (M : Store) (n : Nat) : Option (List (D × D)) := match M[n]? with
  | some (.dct kvs) => some kvs
  | some (.dlk kvs) => some kvs
  | _ => none
section
variable {X : Cx} {W : WX}
theorem dct_get {pins : List (Addr × Obj)} {σ : St} {H : Hp} {s : Shared} {ι : List Addr} {M : Store} {n : Nat} {a : Addr} {kvs : List (D × D)} (I : Inv X pins σ H s) (A : Abs X.K ι H X.prog X.w M) (ea : ι[n]? = some a) (e : dctM M n = some kvs) :
    ∃ o, s.heap.get? a = some o ∧ DctAt X.K ι H X.prog X.w a kvs o := by
  unfold dctM at e
  cases e1 : M[n]? with
  | none => rw [e1] at e; cases e
  | some ob =>
    rw [e1] at e
    cases ob with
    | dct l =>
      cases e
      obtain ⟨o, h1, h2⟩ := A.obj n a _ ea e1
      exact ⟨o, dct_at I h1, h2⟩
    | dlk l =>
      cases e
      obtain ⟨o, h1, h2⟩ := A.obj n a _ ea e1
      exact ⟨o, (dlk_at I h1).1, h2⟩
    | _ => cases e
theorem room_in1 {A : Around} (hu : A.units + 64 < cLine) {P : Program} {w : World} : (nestedKind P w).room A.in1 := by
  show A.units + 1 + 8 < cLine
  omega
def oGetD : O2 := fun x y M => match x with
  | .ref n => match dctM M n, nkey y with
    | some kvs, some _ => (lookD kvs y).map fun d => (d, M)
    | _, _ => none
  | _ => none
theorem getD_run {pins : List (Addr × Obj)} {s : Shared} {σ : St} {H : Hp} {x y : V} {v u : Value} {Q : VK} (hu : X.A.units + 64 < cLine) (I : Inv X pins σ H s) (rx : RelV x v) (ry : RelV y u) (q : rO2 (cgd X) oGetD x y H Q) :
    s.TypeIs v "dict" ∧ ∃ w, wpAny (model X.prog X.w) X.A (getItem v u) (fun r s' => r = w ∧ EP X pins σ Q r s') X.xe s := by
  obtain ⟨ι, M, d, e, A, r1, r2, q⟩ := q
  cases d with
  | ref n =>
    simp only [Rep] at r1
    obtain ⟨a, ea, rfl⟩ := r1
    rw [show v = Value.ref a from rx]
    have q : PostO (cgd X) ι H (match dctM M n, nkey e with | some kvs, some _ => (lookD kvs e).map fun d => (d, M) | _, _ => none) Q := q
    cases e1 : dctM M n with
    | none => rw [e1] at q; exact q.elim
    | some kvs =>
      cases e2 : nkey e with
      | none => rw [e1, e2] at q; exact q.elim
      | some k =>
        rw [e1, e2] at q
        simp only at q
        cases e3 : lookD kvs e with
        | none => rw [e3] at q; exact q.elim
        | some d =>
          rw [e3] at q
          obtain ⟨o, ho, da⟩ := dct_get I A ea e1
          obtain ⟨xs, hx, pr, _, _, _⟩ := dct_of I ho da
          obtain ⟨p, v', h1, h2, h3⟩ := (look_rel e2 pr).1 d e3
          obtain ⟨b, rfl⟩ : ∃ b, y = .ref b := by
            cases e with
            | tup l => simp only [Rep] at r2; obtain ⟨b, _, rfl, _⟩ := r2; exact ⟨b, rfl⟩
            | _ => simp [nkey] at e2
          rw [show u = Value.ref b from ry]
          refine ⟨hx.typeIs, p.2, wpAny_getItem_heap (room_in1 hu) (key_is I r2 e2) hx h1 ⟨rfl, v', H, I.tok _, h2, q.val A h3⟩⟩
  | _ => exact q.elim
theorem ix_dct (hu : X.A.units + 64 < cLine) : IxR X (rO2 (cgd X) oGetD) := by
  intro value slice pins s σ H x y v u Q I rx ry h hs
  obtain ⟨ht, w, hw⟩ := getD_run hu I rx ry h
  exact PyProof.Rows.subscriptTail_builtinR ht PySem.F.slot_dict_getitem.lookup hw hs
theorem pget_dct (hu : X.A.units + 64 < cLine) : PGet X (rO2 (cgd X) oGetD) := by
  intro pins s σ H o i ov iv Q I ro ri h
  obtain ⟨ht, w, hw⟩ := getD_run hu I ro ri h
  exact thn hw fun r s' z => z.2
/-! in, not in -/
def oInD (neg : Bool) : O2 := fun x y M => match y with
  | .ref n => match dctM M n, nkey x with
    | some kvs, some _ => some (.bl (if neg then !(lookD kvs x).isSome else (lookD kvs x).isSome), M)
    | _, _ => none
  | _ => none
theorem oInD_run {neg : Bool} {pins : List (Addr × Obj)} {s : Shared} {σ : St} {H : Hp} {x y : V} {v u : Value} {Q : VK} (hu : X.A.units + 64 < cLine) (I : Inv X pins σ H s) (rx : RelV x v) (ry : RelV y u) (q : rO2 (cgd X) (oInD neg) x y H Q) :
    ∃ a b k xs, v = .ref a ∧ u = .ref b ∧ (nestedKind X.prog X.w).is s.heap k a ∧ (b == sysModules) = false ∧ s.heap.DictOfH (nestedKind X.prog X.w) b xs ∧ Q (.bl (if neg then !(atKey xs k).isSome else (atKey xs k).isSome)) H := by
  obtain ⟨ι, M, d, e, A, r1, r2, q⟩ := q
  cases e with
  | ref n =>
    simp only [Rep] at r2
    obtain ⟨b, eb, rfl⟩ := r2
    have q : PostO (cgd X) ι H (match dctM M n, nkey d with | some kvs, some _ => some (.bl (if neg then !(lookD kvs d).isSome else (lookD kvs d).isSome), M) | _, _ => none) Q := q
    cases e1 : dctM M n with
    | none => rw [e1] at q; exact q.elim
    | some kvs =>
      cases e2 : nkey d with
      | none => rw [e1, e2] at q; exact q.elim
      | some k =>
        rw [e1, e2] at q
        obtain ⟨o, ho, da⟩ := dct_get I A eb e1
        obtain ⟨xs, hx, pr, _, _, hs⟩ := dct_of I ho da
        obtain ⟨a, rfl⟩ : ∃ a, x = .ref a := by
          cases d with
          | tup l => simp only [Rep] at r1; obtain ⟨b, _, rfl, _⟩ := r1; exact ⟨b, rfl⟩
          | _ => simp [nkey] at e2
        have es : (lookD kvs d).isSome = (atKey xs k).isSome := by
          obtain ⟨l1, l2⟩ := look_rel e2 pr
          cases h : lookD kvs d with
          | none => rw [l2 h]; rfl
          | some z => obtain ⟨p, _, h1, _⟩ := l1 z h; rw [h1]; rfl
        refine ⟨a, b, k, xs, rx, ry, key_is I r1 e2, hs, hx, ?_⟩
        rw [← es]
        exact PostO.bl A q
  | _ => exact q.elim
theorem so_inD (hu : X.A.units + 64 < cLine) : SOp X (compareOp .In) (oInD false) := fun pins s σ H x y v u Q I rx ry q => by
  obtain ⟨a, b, k, xs, rfl, rfl, h1, h2, h3, h4⟩ := oInD_run hu I rx ry q
  exact wpAny_in_heap (room_in1 hu) h1 h2 h3 ⟨.bl _, H, I.tok _, rfl, h4⟩
theorem so_notInD (hu : X.A.units + 64 < cLine) : SOp X (compareOp .NotIn) (oInD true) := fun pins s σ H x y v u Q I rx ry q => by
  obtain ⟨a, b, k, xs, rfl, rfl, h1, h2, h3, h4⟩ := oInD_run hu I rx ry q
  show wpAny _ _ (do return Value.bool (!(← contains (.ref b) (.ref a)))) _ _ s
  exact wpAny_bind (wpAny_contains_heap (room_in1 hu) h1 h2 h3 (wpAny_pure ⟨.bl _, H, I.tok _, rfl, h4⟩))
/-! d[k] = v -/
def oSetD : O3 := fun o i v M => match o with
  | .ref n => match M[n]?, nkey i with
    | some (.dct kvs), some _ => if kvs.length < 1000000 then some (M.set n (.dct (putKD kvs i v))) else none
    | _, _ => none
  | _ => none
theorem mut_dct {a : Addr} {o : Obj} : Mut (some (dctO a o)) := trivial
theorem dctO_new {X : Cx} {H : Hp} {h : Heap} {a : Addr} {o : Obj} (e : h.get? a = some o) : ObjOk X.prog X.w H h a (dctO a o) := ⟨e, ⟨o, e⟩, fun h1 h2 p k => k o p⟩
theorem set_dct (hu : X.A.units + 64 < cLine) : PSet X (rO3 (cgd X) oSetD) := by
  intro pins s σ H o i v ov iv u Q I ro ri rv q
  obtain ⟨ι, M, a, b, c, A, r1, r2, r3, q⟩ := q
  cases a with
  | ref n =>
    simp only [Rep] at r1
    obtain ⟨p, ea, rfl⟩ := r1
    rw [show ov = Value.ref p from ro]
    unfold oSetD at q
    cases e1 : M[n]? with
    | none => simp only [e1] at q
    | some ob =>
      cases e2 : nkey b with
      | none => cases ob <;> simp only [e1, e2] at q
      | some k =>
        cases ob with
        | dct kvs =>
          simp only [e1, e2] at q
          by_cases hl : kvs.length < 1000000
          · rw [if_pos hl] at q
            simp only at q
            obtain ⟨o, h1, h2⟩ := A.obj n p _ ea e1
            obtain ⟨xs, hx, pr, hxl, _, hs⟩ := dct_of I (dct_at I h1) h2
            obtain ⟨bb, rfl⟩ : ∃ b, i = .ref b := by
              cases b with
              | tup l => simp only [Rep] at r2; obtain ⟨b, _, rfl, _⟩ := r2; exact ⟨b, rfl⟩
              | _ => simp [nkey] at e2
            rw [show iv = Value.ref bb from ri]
            have ha := List.mem_of_getElem? ea
            have nf : NF H p := NF.of h1 fun _ _ z => nomatch z
            refine wpAny_setItem_heap (room_in1 hu) (key_is I r2 e2) hx (fun h' hd sb => ?_) (by rw [hxl]; exact lim_le (Nat.le_of_lt hl))
            obtain ⟨o', es, ep, ho', hex, hdt, hes, _, hnd⟩ := hd
            have I' : Inv X pins σ (upd H p (dctO p o')) { s with heap := h', toks := s.toks + (nestedKind X.prog X.w).draws k } :=
              I.write (x := p) (e := p) (by rw [h1]; exact mut_dct) (.inl rfl) (fun b ob hb e => (sb.2 b hb).trans e) ⟨o', ho'⟩ (dctO_new ho')
            have x3 := ext_upd (K := X.K) (u := dctO p o') A.nt ha nf
            refine ⟨_, I', q ι _ (step_upd ha nf) (A.upd nf ea ⟨o', upd_same, hs, ?_, hex, es, ep, _, hdt, hes, hnd, ?_⟩)⟩
            · exact lim_le (Nat.le_trans (putKD_length _ _ _) hl)
            · exact Paired.mapP (put_rel e2 r2 rv r3 pr) fun _ _ z => z.ext x3
          · rw [if_neg hl] at q; exact q.elim
        | _ => simp only [e1, e2] at q
  | _ => exact q.elim
end
end Sh

namespace Sh
open PySem L2

/-! ### sequences -/
/-- the items of a list in the store -/
def lstM (M : Store) (n : Nat) : Option (List D) := match M[n]? with
  | some (.lst l) => some l
  | some (.fz l) => some l
  | _ => none
theorem lst_get {K : PySem.W.Frag} {ι : List Addr} {H : Hp} {P : Program} {w : World} {M : Store} {n : Nat} {a : Addr} {l : List D} (A : Abs K ι H P w M) (ea : ι[n]? = some a) (e : lstM M n = some l) : ∃ vs, SqL K H a vs ∧ Reps K ι H l vs := by
  unfold lstM at e
  cases e1 : M[n]? with
  | none => rw [e1] at e; cases e
  | some ob =>
    rw [e1] at e
    cases ob with
    | lst l => cases e; exact sq_lst (A.obj n a _ ea e1)
    | fz l => cases e; exact sq_fz (A.obj n a _ ea e1)
    | _ => cases e
/-- the items of a list or a tuple -/
def seqM (M : Store) : D → Option (List D)
  | .tup l => some l
  | .ref n => lstM M n
  | _ => none
theorem seq_get {K : PySem.W.Frag} {ι : List Addr} {H : Hp} {P : Program} {w : World} {M : Store} {d : D} {v : V} {l : List D} (A : Abs K ι H P w M) (r : Rep K ι H d v) (e : seqM M d = some l) : ∃ a vs, v = .ref a ∧ (SqL K H a vs ∨ SqT K H a vs) ∧ Reps K ι H l vs := by
  cases d with
  | tup l' =>
    cases e
    simp only [Rep] at r
    obtain ⟨a, vs, rfl, h1, h2⟩ := r
    exact ⟨a, vs, rfl, .inr h1, h2⟩
  | ref n =>
    simp only [Rep] at r
    obtain ⟨a, ea, rfl⟩ := r
    obtain ⟨vs, h1, h2⟩ := lst_get A ea e
    exact ⟨a, vs, rfl, .inl h1, h2⟩
  | _ => cases e
theorem Reps.atI {K : PySem.W.Frag} {ι : List Addr} {H : Hp} {l : List D} {vs : List V} {i : Int} {d : D} (r : Reps K ι H l vs) (e : L2.atI l i = some d) : ∃ v, L2.atI vs i = some v ∧ Rep K ι H d v := by
  unfold L2.atI at e ⊢
  rw [← r.length]
  cases q : ixN l.length i with
  | none => rw [q] at e; cases e
  | some j => rw [q] at e; exact r.get e
section
variable {X : Cx} {W : WX}
def oIx : O2 := fun x y M => match y with
  | .int i => match x with
    | .str z => if z.length ≤ 1000000 then (atI z.cps.toList i).map fun c => (.str ⟨#[c]⟩, M) else none
    | _ => match seqM M x with
      | some l => (atI l i).map fun d => (d, M)
      | none => none
  | _ => oGetD x y M
theorem ix_all (hu : X.A.units + 64 < cLine) : IxR X (rO2 (cgd X) oIx) :=
  (ix_seq.or (ix_dct hu)).imp fun x y H Q q => by
    obtain ⟨ι, M, d, e, A, r1, r2, q⟩ := q
    cases e with
    | int i =>
      simp only [Rep] at r2
      subst r2
      refine .inl ?_
      have main : ∀ l, seqM M d = some l → PostO (cgd X) ι H ((atI l i).map fun d => (d, M)) Q → rIx X.K x (.int i) H Q := by
        intro l hl q
        obtain ⟨a, vs, rfl, hs, r⟩ := seq_get A r1 hl
        cases e : atI l i with
        | none => rw [e] at q; exact q.elim
        | some z =>
          rw [e] at q
          obtain ⟨v, ev, rv⟩ := r.atI e
          rcases hs with hs | hs
          · exact .inl ⟨a, vs, i, v, rfl, rfl, hs, ev, PostO.val A rv q⟩
          · exact .inr (.inl ⟨a, vs, i, v, rfl, rfl, hs, ev, PostO.val A rv q⟩)
      cases d with
      | str z =>
        simp only [Rep] at r1
        have q : PostO (cgd X) ι H (if z.length ≤ 1000000 then (atI z.cps.toList i).map fun c => (.str ⟨#[c]⟩, M) else none) Q := q
        by_cases c : z.length ≤ 1000000
        · rw [if_pos c] at q
          cases e : atI z.cps.toList i with
          | none => rw [e] at q; exact q.elim
          | some ch => rw [e] at q; exact .inr (.inr ⟨z, i, ch, r1, rfl, lim_le c, e, PostO.val A (by simp only [Rep]) q⟩)
        · rw [if_neg c] at q; exact q.elim
      | tup l => exact main l rfl q
      | ref n =>
        have q : PostO (cgd X) ι H (match seqM M (.ref n) with | some l => (atI l i).map fun d => (d, M) | none => none) Q := q
        cases e : seqM M (.ref n) with
        | none => rw [e] at q; exact q.elim
        | some l => rw [e] at q; exact main l e q
      | _ => exact q.elim
    | _ => exact .inr ⟨ι, M, d, _, A, r1, r2, q⟩
theorem se_ix {a b : Expr} {fa fb : EF} {pos : Pos} {op : O2} (h : IxR X (rO2 (cgd X) op)) (ha : SE X W a fa) (hb : SE X W b fb) (hs : PlainIx b) : SE X W (.Subscript a b pos) (eBin op fa fb) :=
  (pe_ix h ha hb hs).imp fun σ H Q h => bin_imp h
/-! slices -/
def cutD (l : List D) (lo hi : Option Int) : List D := (l.drop (HT.sIx l.length 0 lo)).take (HT.sIx l.length l.length hi - HT.sIx l.length 0 lo)
theorem Reps.drop {K : PySem.W.Frag} {ι : List Addr} {H : Hp} : ∀ {l : List D} {vs : List V} (n : Nat), Reps K ι H l vs → Reps K ι H (l.drop n) (vs.drop n)
  | _, _, 0, h => h
  | [], vs, n + 1, h => by simp only [Reps] at h; subst h; simp [Reps]
  | d :: l, vs, n + 1, h => by
    simp only [Reps] at h
    obtain ⟨v, r, rfl, h1, h2⟩ := h
    exact Reps.drop n h2
theorem Reps.takeN {K : PySem.W.Frag} {ι : List Addr} {H : Hp} : ∀ {l : List D} {vs : List V} (n : Nat), Reps K ι H l vs → Reps K ι H (l.take n) (vs.take n)
  | _, _, 0, h => by simp [Reps]
  | [], vs, n + 1, h => by simp only [Reps] at h; subst h; simp [Reps]
  | d :: l, vs, n + 1, h => by
    simp only [Reps] at h
    obtain ⟨v, r, rfl, h1, h2⟩ := h
    simp only [List.take_succ_cons, Reps]
    exact ⟨_, _, rfl, h1, Reps.takeN n h2⟩
theorem Reps.cut {K : PySem.W.Frag} {ι : List Addr} {H : Hp} {l : List D} {vs : List V} (lo hi : Option Int) (h : Reps K ι H l vs) : Reps K ι H (cutD l lo hi) (cutV vs lo hi) := by
  unfold cutD cutV
  rw [← h.length]
  exact (h.drop _).takeN _
abbrev OF := Env → Store → Res (Option Int)
def pNone : OF := fun _ M => .ok none M
def pSome (f : EF) : OF := fun env M => (f env M).bind fun d M1 => match d with
  | .int i => .ok (some i) M1
  | _ => .bad
def tO (G : Gd) (W : WX) (f : OF) : TO := fun σ H Q => ∃ ι M env, Abs G.K ι H G.P G.w M ∧ EnvR G.K ι H env σ ∧ Post G W ι H (fun _ _ (b c : Option Int) => b = c) σ (f env M) Q
theorem tO.seq {G : Gd} {ι : List Addr} {H : Hp} {σ : St} {M : Store} {env : Env} {γ : Type} {δ : Type} {R2 : List Addr → Hp → γ → δ → Prop} {f : OF} {g : Option Int → Store → Res γ} {Q : δ → Hp → Prop} (A : Abs G.K ι H G.P G.w M) (E : EnvR G.K ι H env σ)
    (h : Post G W ι H R2 σ ((f env M).bind g) Q) :
    tO G W f σ H fun x H1 => ∃ ι1 M1, Step ι H ι1 H1 ∧ Abs G.K ι1 H1 G.P G.w M1 ∧ EnvR G.K ι1 H1 env σ ∧ f env M = .ok x M1 ∧ Post G W ι1 H1 R2 σ (g x M1) Q := by
  refine ⟨ι, M, env, A, E, ?_⟩
  cases e : f env M with
  | ok d M1 =>
    rw [e] at h
    exact fun ι' H' v s a r => by subst r; exact ⟨ι', M1, s, a, E.ext (s.ext A.nt), rfl, Post.step s h⟩
  | exc c fs M1 => rw [e] at h; exact h
  | bad => rw [e] at h; exact h
theorem tO.mono {G : Gd} {H : Hp} {σ : St} {f : OF} {Q Q' : Option Int → Hp → Prop} (h : tO G W f σ H Q) (i : ∀ v H', Q v H' → Q' v H') : tO G W f σ H Q' := let ⟨ι, M, env, A, E, h⟩ := h; ⟨ι, M, env, A, E, Post.mono h i⟩
theorem _root_.L2.PO.imp {X : Cx} {e : Option Expr} {t t' : TO} (h : PO X e t) (i : ∀ σ H Q, t' σ H Q → t σ H Q) : PO X e t' := ⟨fun pins s σ H Q I q => h.run pins s σ H Q I (i σ H Q q)⟩
abbrev SO (X : Cx) (W : WX) (e : Option Expr) (f : OF) : Prop := PO X e (tO (cgd X) W f)
theorem so_none : SO X W none pNone := po_none.imp fun σ H Q h => by
  obtain ⟨ι, M, env, A, E, h⟩ := h
  exact h ι H _ Step.refl A rfl
theorem so_some {e : Expr} {f : EF} (he : SE X W e f) : SO X W (some e) (pSome f) := (po_some he).imp fun σ H Q h => by
  obtain ⟨ι, M, env, A, E, h⟩ := h
  refine tE.mono (tE.seq A E h) fun x H1 ⟨ι1, M1, d1, s1, A1, E1, r1, _, h1⟩ => ?_
  cases d1 with
  | int i => simp only [Rep] at r1; exact ⟨i, r1, h1 ι1 H1 _ Step.refl A1 rfl⟩
  | _ => exact h1.elim
def oSl (x : D) (lo hi : Option Int) (M : Store) : Option (D × Store) := match x with
  | .tup l => some (.tup (cutD l lo hi), M)
  | .ref n => match lstM M n with
    | some l => some (.ref M.length, M ++ [.lst (cutD l lo hi)])
    | none => none
  | .str z => if z.length ≤ 1000000 then some (.str (cutS z lo hi), M) else none
  | _ => none
def eSl (fe : EF) (fl fh : OF) : EF := fun env M => (fe env M).bind fun x M1 => (fl env M1).bind fun lo M2 => (fh env M2).bind fun hi M3 => ofO (oSl x lo hi M3)
theorem cutD_self {l : List D} {lo hi : Option Int} (h : HT.sIx l.length 0 lo = 0 ∧ HT.sIx l.length l.length hi = l.length) : cutD l lo hi = l := by
  unfold cutD
  rw [h.1, h.2]
  simp
theorem se_sl {e : Expr} {lo hi : Option Expr} {fe : EF} {fl fh : OF} {p2 pos : Pos} (he : SE X W e fe) (hl : SO X W lo fl) (hh : SO X W hi fh) : SE X W (.Subscript e (.Slice lo hi none p2) pos) (eSl fe fl fh) :=
  (pe_slice ((sl_list.or sl_tupA).or sl_str) he hl hh).imp fun σ H Q h => by
    obtain ⟨ι, M, env, A, E, h⟩ := h
    refine tE.mono (tE.seq A E h) fun x H1 ⟨ι1, M1, d1, s1, A1, E1, r1, _, h1⟩ => ?_
    refine tO.mono (tO.seq A1 E1 h1) fun l H2 ⟨ι2, M2, s2, A2, E2, _, h2⟩ => ?_
    refine tO.mono (tO.seq A2 E2 h2) fun u H3 ⟨ι3, M3, s3, A3, E3, _, h3⟩ => ?_
    have r3 := (r1.ext (s2.ext A1.nt)).ext (s3.ext A2.nt)
    have q := Post.ofO h3
    cases d1 with
    | tup l' =>
      simp only [Rep] at r3
      obtain ⟨a, vs, rfl, h1, h2⟩ := r3
      refine .inl (.inr ⟨a, vs, rfl, h1, fun z => ?_, fun _ => PostO.tup A3 (h2.cut _ _) q⟩)
      rw [← h2.length] at z
      have q : PostO (cgd X) ι3 H3 (some (.tup (cutD l' l u), M3)) Q := q
      rw [cutD_self z] at q
      exact q.val A3 (rep_tup h1 h2)
    | ref n =>
      simp only [Rep] at r3
      obtain ⟨a, ea, rfl⟩ := r3
      have q : PostO (cgd X) ι3 H3 (match lstM M3 n with | some l' => some (.ref M3.length, M3 ++ [.lst (cutD l' l u)]) | none => none) Q := q
      cases e : lstM M3 n with
      | none => rw [e] at q; exact q.elim
      | some l' =>
        rw [e] at q
        obtain ⟨vs, h1, h2⟩ := lst_get A3 ea e
        exact .inl (.inl ⟨a, vs, rfl, h1, PostO.lst A3 (h2.cut _ _) q⟩)
    | str z =>
      simp only [Rep] at r3
      have q : PostO (cgd X) ι3 H3 (if z.length ≤ 1000000 then some (.str (cutS z l u), M3) else none) Q := q
      by_cases c : z.length ≤ 1000000
      · rw [if_pos c] at q
        exact .inr ⟨z, r3, lim_le c, q.val A3 (by simp only [Rep])⟩
      · rw [if_neg c] at q; exact q.elim
    | _ => exact q.elim
/-! methods of built-in types -/
abbrev OM := D → List D → Store → Option (D × Store)
def tyD (M : Store) (T : String) : D → Bool
  | .str _ => T == "str"
  | .ref n => match M[n]? with
    | some (.lst _) => T == "list"
    | some (.fz _) => T == "list"
    | some (.dct _) => T == "dict"
    | some (.dlk _) => T == "dict"
    | _ => false
  | _ => false
theorem tyD_is {pins : List (Addr × Obj)} {σ : St} {H : Hp} {s : Shared} {ι : List Addr} {M : Store} {T : String} {d : D} {x : V} {v : Value} (I : Inv X pins σ H s) (A : Abs X.K ι H X.prog X.w M) (rd : Rep X.K ι H d x) (r : RelV x v) (ty : tyD M T d = true) :
    s.TypeIs v T ∧ ∀ a, v = .ref a → ∃ ob, s.heap.get? a = some ob ∧ ob.dict = none := by
  cases d with
  | str z =>
    simp only [Rep] at rd
    subst rd
    have hT : T = "str" := by simpa [tyD] using ty
    exact tyV_is I r (show tyV X.K T (.str z) H from hT)
  | ref n =>
    simp only [Rep] at rd
    obtain ⟨a, ea, rfl⟩ := rd
    unfold tyD at ty
    simp only at ty
    cases e : M[n]? with
    | none => rw [e] at ty; cases ty
    | some o =>
      rw [e] at ty
      cases o with
      | lst l =>
        obtain ⟨vs, h1, _⟩ := sq_lst (A.obj n a _ ea e)
        exact tyV_is I r (.inl ⟨by simpa using ty, vs, h1⟩)
      | fz l =>
        obtain ⟨vs, h1, _⟩ := sq_fz (A.obj n a _ ea e)
        exact tyV_is I r (.inl ⟨by simpa using ty, vs, h1⟩)
      | dct kvs =>
        obtain ⟨o, h1, _, _, hx, _⟩ := A.obj n a _ ea e
        have hT : T = "dict" := by simpa using ty
        subst hT
        rw [show v = Value.ref a from r]
        exact ⟨⟨o, dct_at I h1, hx.1⟩, fun b eb => by cases eb; exact ⟨o, dct_at I h1, hx.2.1⟩⟩
      | dlk kvs =>
        obtain ⟨o, h1, _, _, hx, _⟩ := A.obj n a _ ea e
        have hT : T = "dict" := by simpa using ty
        subst hT
        rw [show v = Value.ref a from r]
        exact ⟨⟨o, (dlk_at I h1).1, hx.1⟩, fun b eb => by cases eb; exact ⟨o, (dlk_at I h1).1, hx.2.1⟩⟩
      | _ => cases ty
  | _ => cases ty
def rOM (G : Gd) (op : OM) : V → List V → Hp → VK → Prop := fun x xs H Q => ∃ ι M d ds, Abs G.K ι H G.P G.w M ∧ Rep G.K ι H d x ∧ Reps G.K ι H ds xs ∧ PostO G ι H (op d ds M) Q
theorem _root_.L2.MtR.imp {X : Cx} {id : String} {r r' : V → List V → Hp → VK → Prop} (h : MtR X id r) (i : ∀ x xs H Q, r' x xs H Q → r x xs H Q) : MtR X id r' := fun pins s σ H x xs v us Q I a b q => h pins s σ H x xs v us Q I a b (i x xs H Q q)
def eMt (T : String) (op : OM) (fo : EF) (fa : AF) : EF := fun env M => (fo env M).bind fun x M1 => if tyD M1 T x = true then (fa env M1).bind fun ds M2 => ofO (op x ds M2) else .bad
theorem se_mt0 {o : Expr} {fo : EF} {T id : String} {name : Str} {apos cpos : Pos} {op : OM} (pa : PlainAttrs T) (slot : Slot T name id) (hty : typeOf (.builtin id) = pure (.type "method_descriptor")) (hm : MtR X id (rOM (cgd X) op)) (ho : SE X W o fo)
    (hbase : attributeBase o name X.env (eval o X.env) = eval o X.env := by rfl) (hline : (apos.endLine == cpos.line) = true := by rfl) : SE X W (.Call (.Attribute o name apos) [] [] cpos) (eMt T op fo aNil) := by
  refine ⟨fun pins s σ H Q I h => ?_⟩
  obtain ⟨ι, M, env, A, E, h⟩ := h
  refine wpAny_Call_method0_late hbase hline (thn (ho.run pins s σ H _ I (tE.seq A E h)) fun v s1 ⟨x, H1, I1, rx, ι1, M1, d1, s1', A1, E1, r1, _, h1⟩ => ?_)
  by_cases ty : tyD M1 T d1 = true
  · rw [if_pos ty] at h1
    obtain ⟨h2, h3⟩ := tyD_is I1 A1 r1 rx ty
    exact ⟨T, id, pa, slot, hty, h2, h3, Calls.callWith_builtin rfl (PySem.evalArgs_none (hm pins s1 σ H1 x [] v [] Q I1 rx .nil ⟨ι1, M1, d1, [], A1, r1, by simp only [Reps], Post.ofO h1⟩))⟩
  · rw [if_neg ty] at h1; exact h1.elim
theorem se_mt {o e : Expr} {es : List Expr} {fo : EF} {fa : AF} {T id : String} {name : Str} {apos cpos : Pos} {op : OM} (pa : PlainAttrs T) (slot : Slot T name id) (hty : typeOf (.builtin id) = pure (.type "method_descriptor")) (hm : MtR X id (rOM (cgd X) op)) (ho : SE X W o fo) (ha : SA X W (e :: es) fa)
    (hbase : attributeBase o name X.env (eval o X.env) = eval o X.env := by rfl)
    (hfew : ((backTo cpos (starEach (e :: es) X.env)).all (fun x => !x.1) && (backToKw cpos (keywordEach [] X.env)).all (fun x => x.1.isSome)
      && decide ((e :: es).length + ([] : List Keyword).length + (if ([] : List Keyword).isEmpty then 0 else 1) < 30)) = true := by rfl)
    (hline : (apos.endLine == cpos.line) = true := by rfl) (hs : starEach (e :: es) X.env = (false, eval e X.env) :: starEach es X.env := by rfl) (hplain : (backTo cpos (starEach es X.env)).any (·.1) = false := by rfl) :
    SE X W (.Call (.Attribute o name apos) (e :: es) [] cpos) (eMt T op fo fa) := by
  refine ⟨fun pins s σ H Q I h => ?_⟩
  obtain ⟨ι, M, env, A, E, h⟩ := h
  refine wpAny_Call_method_late hbase hfew hline rfl (thn (ho.run pins s σ H _ I (tE.seq A E h)) fun v s1 ⟨x, H1, I1, rx, ι1, M1, d1, s1', A1, E1, r1, _, h1⟩ => ?_)
  by_cases ty : tyD M1 T d1 = true
  · rw [if_pos ty] at h1
    obtain ⟨h2, h3⟩ := tyD_is I1 A1 r1 rx ty
    refine ⟨T, id, pa, slot, hty, h2, h3, ?_⟩
    have hA := ha.run cpos pins s1 σ H1 _ I1 (tA.seq A1 E1 h1)
    rw [hs] at hA ⊢
    refine Calls.callWith_builtin (by show (false || (backTo cpos (starEach es X.env)).any (·.1)) = false; rw [hplain] <;> rfl) (Calls.evalArgs_plain ?_)
    exact thn hA fun us s2 ⟨vs, H2, I2, rs, ι2, M2, d2, s2', A2, E2, r2, _, h2⟩ => hm pins s2 σ H2 x vs v us Q I2 rx rs ⟨ι2, M2, d1, d2, A2, r1.ext (s2'.ext A1.nt), r2, Post.ofO h2⟩
  · rw [if_neg ty] at h1; exact h1.elim
/-! lists -/
def oLst (g : List D → List D → Option (D × List D)) : OM := fun x ds M => match x with
  | .ref n => match M[n]? with
    | some (.lst l) => match g l ds with
      | some (d, l') => some (d, M.set n (.lst l'))
      | none => none
    | _ => none
  | _ => none
theorem nf_lst {H : Hp} {a : Addr} {vs : List V} (h : H a = some (.lst vs)) : NF H a := NF.of h fun _ _ z => nomatch z
theorem mt_lst {id : String} {r : V → List V → Hp → VK → Prop} {g : List D → List D → Option (D × List D)} (h : MtM X id r)
    (hg : ∀ ι H l ds vs xs d l' a Q, Reps X.K ι H l vs → Reps X.K ι H ds xs → g l ds = some (d, l') → H a = some (.lst vs) → (∀ v us, Rep X.K ι H d v → Reps X.K ι H l' us → Q v (upd H a (.lst us))) → r (.ref a) xs H Q) : MtR X id (rOM (cgd X) (oLst g)) :=
  MtR.imp (r := r) h fun x xs H Q q => by
    obtain ⟨ι, M, d, ds, A, r1, r2, q⟩ := q
    cases d with
    | ref n =>
      simp only [Rep] at r1
      obtain ⟨a, ea, rfl⟩ := r1
      have q : PostO (cgd X) ι H (match M[n]? with
        | some (.lst l) => (match g l ds with
          | some (d, l') => some (d, M.set n (.lst l'))
          | none => none)
        | _ => none) Q := q
      cases e : M[n]? with
      | none => rw [e] at q; exact q.elim
      | some o =>
        rw [e] at q
        cases o with
        | lst l =>
          simp only at q
          cases e2 : g l ds with
          | none => rw [e2] at q; exact q.elim
          | some p =>
            rw [e2] at q
            obtain ⟨d, l'⟩ := p
            obtain ⟨vs, h1, h2⟩ := A.obj n a _ ea e
            have ha := List.mem_of_getElem? ea
            refine hg ι H l ds vs xs d l' a Q h2 r2 e2 h1 fun v us rv rl => ?_
            have x3 := ext_upd (K := X.K) (u := .lst us) A.nt ha (nf_lst h1)
            exact q ι _ v (step_upd ha (nf_lst h1)) (A.upd (nf_lst h1) ea ⟨us, upd_same, rl.ext x3⟩) (rv.ext x3)
        | _ => exact q.elim
    | _ => exact q.elim
def gApp : List D → List D → Option (D × List D) := fun l ds => match ds with
  | [d] => if l.length < 1000000 then some (.non, l ++ [d]) else none
  | _ => none
theorem reps_one {K : PySem.W.Frag} {ι : List Addr} {H : Hp} {d : D} {xs : List V} (h : Reps K ι H [d] xs) : ∃ v, xs = [v] ∧ Rep K ι H d v := by
  simp only [Reps] at h
  obtain ⟨v, r, rfl, h1, rfl⟩ := h
  exact ⟨v, rfl, h1⟩
theorem Reps.one {K : PySem.W.Frag} {ι : List Addr} {H : Hp} {d : D} {v : V} (h : Rep K ι H d v) : Reps K ι H [d] [v] := by simp only [Reps]; exact ⟨v, [], rfl, h, rfl⟩
theorem mt_app : MtR X "list.append" (rOM (cgd X) (oLst gApp)) := mt_lst mt_append fun ι H l ds vs xs d l' a Q h2 r2 e h1 k => by
  unfold gApp at e
  match ds, e with
  | [d0], e =>
    by_cases c : l.length < 1000000
    · simp only [if_pos c] at e
      cases e
      obtain ⟨v, rfl, rv⟩ := reps_one r2
      exact ⟨a, vs, v, rfl, rfl, h1, by rw [← h2.length]; exact Nat.lt_of_lt_of_le c (by decide), k .non _ (by simp only [Rep]) (h2.append (Reps.one rv))⟩
    · simp only [if_neg c] at e; cases e
def gPop : List D → List D → Option (D × List D) := fun l ds => match ds with
  | [] => (l[l.length - 1]?).map fun d => (d, l.dropLast)
  | [.int i] => if -1000000 ≤ i ∧ i ≤ 1000000 then (match seqIndex? i l.length with
    | some k => (l[k]?).map fun d => (d, l.eraseIdx k)
    | none => none) else none
  | _ => none
theorem Reps.dropLast {K : PySem.W.Frag} {ι : List Addr} {H : Hp} {l : List D} {vs : List V} (h : Reps K ι H l vs) : Reps K ι H l.dropLast vs.dropLast := by
  rw [List.dropLast_eq_take, List.dropLast_eq_take, ← h.length]
  exact h.takeN _
theorem Reps.erase {K : PySem.W.Frag} {ι : List Addr} {H : Hp} : ∀ {l : List D} {vs : List V} (k : Nat), Reps K ι H l vs → Reps K ι H (l.eraseIdx k) (vs.eraseIdx k)
  | [], vs, k, h => by simp only [Reps] at h; subst h; simp [Reps]
  | d :: l, vs, 0, h => by
    simp only [Reps] at h
    obtain ⟨v, r, rfl, h1, h2⟩ := h
    exact h2
  | d :: l, vs, k + 1, h => by
    simp only [Reps] at h
    obtain ⟨v, r, rfl, h1, h2⟩ := h
    simp only [List.eraseIdx_cons_succ, Reps]
    exact ⟨_, _, rfl, h1, Reps.erase k h2⟩
theorem mt_popAll : MtR X "list.pop" (rOM (cgd X) (oLst gPop)) := mt_lst (MtR.or mt_pop mt_popAt) fun ι H l ds vs xs d l' a Q h2 r2 e h1 k => by
  unfold gPop at e
  match ds, e with
  | [], e =>
    simp only [Option.map_eq_some_iff] at e
    obtain ⟨z, e1, e2⟩ := e
    cases e2
    simp only [Reps] at r2
    subst r2
    obtain ⟨v, ev, rv⟩ := h2.get e1
    exact .inl ⟨a, vs, v, rfl, rfl, h1, by rw [← h2.length]; exact ev, k v _ rv h2.dropLast⟩
  | [.int i], e =>
    by_cases c : -1000000 ≤ i ∧ i ≤ 1000000
    · simp only [if_pos c] at e
      cases e3 : seqIndex? i l.length with
      | none => rw [e3] at e; cases e
      | some j =>
        rw [e3] at e
        simp only [Option.map_eq_some_iff] at e
        obtain ⟨z, e1, e2⟩ := e
        cases e2
        obtain ⟨v, rfl, rv⟩ := reps_one r2
        simp only [Rep] at rv
        subst rv
        obtain ⟨v, ev, rv⟩ := h2.get e1
        exact .inr ⟨a, vs, i, j, v, rfl, rfl, h1, by omega, by omega, by rw [← h2.length]; exact e3, ev, k v _ rv (h2.erase j)⟩
    · simp only [if_neg c] at e; cases e
def gClr : List D → List D → Option (D × List D) := fun l ds => match ds with
  | [] => some (.non, [])
  | _ => none
theorem mt_clr : MtR X "list.clear" (rOM (cgd X) (oLst gClr)) := mt_lst mt_clear fun ι H l ds vs xs d l' a Q h2 r2 e h1 k => by
  unfold gClr at e
  match ds, e with
  | [], e =>
    cases e
    simp only [Reps] at r2
    subst r2
    exact ⟨a, vs, rfl, rfl, h1, k .non _ (by simp only [Rep]) (by simp [Reps])⟩
/-! xs[i] = v -/
theorem Reps.set {K : PySem.W.Frag} {ι : List Addr} {H : Hp} {d : D} {v : V} (r : Rep K ι H d v) : ∀ {l : List D} {vs : List V} (k : Nat), Reps K ι H l vs → Reps K ι H (l.set k d) (vs.set k v)
  | [], vs, k, h => by simp only [Reps] at h; subst h; simp [Reps]
  | x :: l, vs, 0, h => by
    simp only [Reps] at h
    obtain ⟨u, rs, rfl, h1, h2⟩ := h
    simp only [List.set_cons_zero, Reps]
    exact ⟨_, _, rfl, r, h2⟩
  | x :: l, vs, k + 1, h => by
    simp only [Reps] at h
    obtain ⟨u, rs, rfl, h1, h2⟩ := h
    simp only [List.set_cons_succ, Reps]
    exact ⟨_, _, rfl, h1, Reps.set r k h2⟩
def oSetL : O3 := fun o i v M => match o, i with
  | .ref n, .int k => match M[n]? with
    | some (.lst l) => match ixN l.length k with
      | some j => some (M.set n (.lst (l.set j v)))
      | none => none
    | _ => none
  | _, _ => none
theorem set_lst : PSet X (rO3 (cgd X) oSetL) := set_list.imp fun x y v H Q q => by
  obtain ⟨ι, M, a, b, c, A, r1, r2, r3, q⟩ := q
  cases a with
  | ref n =>
    cases b with
    | int k =>
      simp only [Rep] at r1 r2
      obtain ⟨p, ea, rfl⟩ := r1
      unfold oSetL at q
      simp only at q
      cases e : M[n]? with
      | none => simp only [e] at q
      | some o =>
        cases o with
        | lst l =>
          simp only [e] at q
          cases e2 : ixN l.length k with
          | none => simp only [e2] at q
          | some j =>
            simp only [e2] at q
            obtain ⟨vs, h1, h2⟩ := A.obj n p _ ea e
            have ha := List.mem_of_getElem? ea
            refine ⟨p, vs, k, j, rfl, r2, h1, by rw [← h2.length]; exact e2, ?_⟩
            have x3 := ext_upd (K := X.K) (u := .lst (vs.set j v)) A.nt ha (nf_lst h1)
            exact q ι _ (step_upd ha (nf_lst h1)) (A.upd (nf_lst h1) ea ⟨_, upd_same, Reps.set (r3.ext x3) j (h2.ext x3)⟩)
        | _ => simp only [e] at q
    | _ => exact q.elim
  | _ => cases b <;> exact q.elim
end
end Sh

namespace Sh
open PySem L2

/-! ### zip and enumerate of lists and tuples in any mix -/
def sq (b : Bool) (K : PySem.W.Frag) (H : Hp) (a : Addr) (xs : List V) : Prop := match b with
  | true => SqL K H a xs
  | false => SqT K H a xs
def IsIt (b : Bool) (h : Heap) (it a : Addr) (i : Nat) : Prop := match b with
  | true => h.IsListIter it a i
  | false => h.IsTupleIter it a i
def IsSrc (b : Bool) (h : Heap) (a : Addr) (its : Array Value) : Prop := match b with
  | true => h.IsList a its
  | false => h.IsTuple a its
def itObj (b : Bool) (a : Addr) : Obj := match b with
  | true => { cls := .type "list_iterator", data := .fields #[.ref a, .int 0 0] }
  | false => { cls := .type "tuple_iterator", data := .fields #[.ref a, .int 0 0] }
theorem IsIt.at {b : Bool} {h h' : Heap} {it a : Addr} {i : Nat} (x : IsIt b h it a i) (k : ∀ o, h.get? it = some o → h'.get? it = some o) : IsIt b h' it a i := by
  cases b with
  | true => exact Heap.IsListIter.at x k
  | false => exact Heap.IsTupleIter.at x k
theorem IsIt.obj {b : Bool} {h : Heap} {it a : Addr} {i : Nat} (x : IsIt b h it a i) : ∃ o, h.get? it = some o ∧ ∀ v, o.data ≠ .cell v := by
  cases b with
  | true => obtain ⟨o, e, _, d⟩ := x; exact ⟨o, e, fun v q => by rw [d] at q; cases q⟩
  | false => obtain ⟨o, e, _, d⟩ := x; exact ⟨o, e, fun v q => by rw [d] at q; cases q⟩
theorem IsIt.zero {b : Bool} {h : Heap} {it a : Addr} (e : h.get? it = some (itObj b a)) : IsIt b h it a 0 := by
  cases b with
  | true => exact ⟨_, e, rfl, rfl⟩
  | false => exact ⟨_, e, rfl, rfl⟩
theorem begins_src (b : Bool) (a : Addr) (its : Array Value) : Begins (.ref a) (itObj b a) (fun h => IsSrc b h a its) := by
  cases b with
  | true => exact begins_list a its
  | false => exact begins_tuple a its
theorem draws_src {prog : Program} {w : World} {A : Around} (b : Bool) (hh : A.handled = none) (it a : Addr) (hne : a ≠ it) (its : Array Value) :
    Draws prog w A it [it, a] its.size (fun i v => its[i]? = some v) (fun i h => IsIt b h it a i ∧ IsSrc b h a its) := by
  cases b with
  | true => exact Draws.list hh it a hne its
  | false => exact Draws.tuple hh it a hne its
section
variable {X : Cx} {pins : List (Addr × Obj)} {σ : St} {H : Hp} {s : Shared}
theorem src_of {b : Bool} {a : Addr} {xs : List V} (I : Inv X pins σ H s) (h : sq b X.K H a xs) : ∃ its : List Value, Vals xs its ∧ IsSrc b s.heap a its.toArray ∧ a < s.heap.objs.size := by
  cases b with
  | true =>
    obtain ⟨its, rv, p, _⟩ := I.list h
    exact ⟨its, rv, p.isList, p.lt⟩
  | false =>
    obtain ⟨its, rv, p, _⟩ := I.tuple h
    obtain ⟨o, ho, _⟩ := id p
    exact ⟨its, rv, p, Heap.lt_size ho⟩
theorem sq_inj {b : Bool} {a : Addr} {xs ys : List V} (I : Inv X pins σ H s) (h : sq b X.K H a xs) (g : sq b X.K H a ys) : xs = ys := by
  cases b with
  | true => exact I.list_inj h g
  | false => exact I.tuple_inj h g
end
/-- pairs, each a new tuple: of the lists at a and b as they stand -/
def ItZ (b1 b2 : Bool) (K : PySem.W.Frag) (a b : Addr) : It :=
  ⟨fun i H => ∃ (xs ys : List V) (x y : V), sq b1 K H a xs ∧ sq b2 K H b ys ∧ xs[i]? = some x ∧ ys[i]? = some y,
    fun i H v H' => ∃ T x y, v = .ref T ∧ H T = none ∧ H' = upd H T (.tup [x, y]) ∧ (∀ xs, sq b1 K H a xs → xs[i]? = some x) ∧ ∀ ys, sq b2 K H b ys → ys[i]? = some y,
    fun i H => ∃ xs ys : List V, sq b1 K H a xs ∧ sq b2 K H b ys ∧ i = min xs.length ys.length⟩
/-- i, the item: a new tuple -/
def ItE (b1 : Bool) (K : PySem.W.Frag) (a : Addr) : It :=
  ⟨fun i H => ∃ (xs : List V) (x : V), sq b1 K H a xs ∧ xs[i]? = some x,
    fun i H v H' => ∃ T x, v = .ref T ∧ H T = none ∧ H' = upd H T (.tup [.int (i : Nat), x]) ∧ (∀ xs, sq b1 K H a xs → xs[i]? = some x),
    fun i H => ∃ xs : List V, sq b1 K H a xs ∧ i = xs.length⟩
theorem lt_ne {n m : Nat} (h : n < m) : n ≠ m := Nat.ne_of_lt h
theorem turn_Z {P : Program} {w : World} {K : PySem.W.Frag} {elts : List Expr} {kk : Nat} {tpos : Pos} {b1 b2 : Bool} {a b : Addr} {N : Nat} (ha : a < N) (hb : b < N) :
    Turn P w K (.Tuple elts kk tpos) (ItZ b1 b2 K a b) [N + 4, N + 2, N + 3, N, N + 1] (N + 4)
      (fun i h => IsZip h (N + 4) (N + 2) (N + 3) .none ∧ IsTupOf2 h (N + 2) (.ref N) (.ref (N + 1)) ∧ (∃ x y, IsTupOf2 h (N + 3) x y) ∧ IsIt b1 h N a i ∧ IsIt b2 h (N + 1) b i) where
  mem := by simp
  obj := fun i h st c hc => by
    obtain ⟨hz, hTI, ⟨x, y, hTO⟩, h1, h2⟩ := st
    have e' : c = N + 4 ∨ c = N + 2 ∨ c = N + 3 ∨ c = N ∨ c = N + 1 := by simpa using hc
    rcases e' with q | q | q | q | q
    · rw [q]; exact ⟨_, hz, fun v q => nomatch q⟩
    · rw [q]; exact ⟨_, hTI, fun v q => nomatch q⟩
    · rw [q]; exact ⟨_, hTO, fun v q => nomatch q⟩
    · rw [q]; exact h1.obj
    · rw [q]; exact h2.obj
  keep := fun i h h' st k => by
    obtain ⟨hz, hTI, ⟨x, y, hTO⟩, h1, h2⟩ := st
    exact ⟨k (N + 4) (by simp) _ hz, k (N + 2) (by simp) _ hTI, ⟨x, y, k (N + 3) (by simp) _ hTO⟩, h1.at fun o q => k N (by simp) o q, h2.at fun o q => k (N + 1) (by simp) o q⟩
  item := by
    intro X hP hw hK hc i pins s σ H E I hf st hg
    subst hP hw hK
    obtain ⟨hz, hTI, hTO, h1, h2⟩ := st
    obtain ⟨xs, ys, x, y, hqx, hqy, hx, hy⟩ := hg
    obtain ⟨its, rv, p, _⟩ := src_of I hqx
    obtain ⟨its2, rv2, p2, _⟩ := src_of I hqy
    have hh : X.A.in1.handled = none := I.ok.hd hc
    have D1 := draws_src (prog := X.prog) (w := X.w) (A := X.A.in1) b1 hh N a (lt_ne ha) its.toArray
    have D2 := draws_src (prog := X.prog) (w := X.w) (A := X.A.in1) b2 hh (N + 1) b (Nat.ne_of_lt (Nat.lt_succ_of_lt hb)) its2.toArray
    have G := GoesN.zip2 (elts := elts) (x1 := kk) (pos := tpos) (zip_sep2 (N := N) (fp1 := [a]) (fp2 := [b]) (by simpa using ha) (by simpa using hb)) D1 D2
    have l1 : i < its.length := by rw [← rv.length]; exact (List.getElem?_eq_some_iff.mp hx).1
    have l2 : i < its2.length := by rw [← rv2.length]; exact (List.getElem?_eq_some_iff.mp hy).1
    refine thn (G.goes i s (fun u s2 => ∃ x H', Inv X pins σ H' s2 ∧ RelV x u ∧ (ItZ b1 b2 X.K a b).yld i H x H' ∧ (IsZip s2.heap (N + 4) (N + 2) (N + 3) .none ∧ IsTupOf2 s2.heap (N + 2) (.ref N) (.ref (N + 1)) ∧ (∃ x y, IsTupOf2 s2.heap (N + 3) x y) ∧ IsIt b1 s2.heap N a (i + 1) ∧ IsIt b2 s2.heap (N + 1) b (i + 1)) ∧ ∀ b ∈ [N + 4, N + 2, N + 3, N, N + 1], H' b = none) E (by simp only [List.size_toArray]; exact Nat.lt_min.mpr ⟨l1, l2⟩) ⟨hz, hTI, hTO, ⟨h1, p⟩, h2, p2⟩ ?_) fun r s1 q => q
    intro v h' tk hY st' hk _
    obtain ⟨T, u1, u2, rfl, hT, q1, q2, hTup⟩ := hY
    obtain ⟨w1, e1, r1⟩ := rv.get hx
    obtain ⟨w2, e2, r2⟩ := rv2.get hy
    have z1 : u1 = w1 := by
      have : its.toArray[i]? = some w1 := by simpa using e1
      rw [this] at q1; exact (Option.some.inj q1).symm
    have z2 : u2 = w2 := by
      have : its2.toArray[i]? = some w2 := by simpa using e2
      rw [this] at q2; exact (Option.some.inj q2).symm
    subst z1 z2
    have new : ObjOk X.prog X.w (upd H T (.tup [x, y])) h' T (.tup [x, y]) := ⟨by show 2 ≤ sizeLine; decide, [u1, u2], .cons r1 (.cons r2 .nil), hTup⟩
    have I1 : Inv X pins σ (upd H T (.tup [x, y])) { s with heap := h', toks := tk } :=
      I.turnedNew (ch := [N + 4, N + 2, N + 3, N, N + 1]) (fun c o hb q => hk c o (fun m => hb (by
        have e' : c = N + 4 ∨ c = N + 3 ∨ c = N ∨ c = N + 1 := by simpa using m
        rcases e' with z | z | z | z <;> (rw [z]; simp))) q) hf hT new
    refine ⟨.ref T, _, I1, rfl, ⟨T, x, y, rfl, I.hok.fresh hT, rfl, fun l hl => by rw [sq_inj I hl hqx]; exact hx, fun l hl => by rw [sq_inj I hl hqy]; exact hy⟩, ⟨st'.1, st'.2.1, st'.2.2.1, st'.2.2.2.1.1, st'.2.2.2.2.1⟩, fun c hcm => ?_⟩
    have hlt : c < s.heap.objs.size := by
      obtain ⟨x0, y0, hTO⟩ := hTO
      have e' : c = N + 4 ∨ c = N + 2 ∨ c = N + 3 ∨ c = N ∨ c = N + 1 := by simpa using hcm
      rcases e' with q | q | q | q | q
      · rw [q]; exact Heap.lt_size hz
      · rw [q]; exact Heap.lt_size hTI
      · rw [q]; exact Heap.lt_size hTO
      · rw [q]; obtain ⟨_, e1, _⟩ := h1.obj; exact Heap.lt_size e1
      · rw [q]; obtain ⟨_, e2, _⟩ := h2.obj; exact Heap.lt_size e2
    rw [upd_ne (Nat.ne_of_lt (Nat.lt_of_lt_of_le hlt hT))]
    exact (hf c hcm).1
  done := by
    intro X hP hw hK hc i pins s σ H E I hf st hg
    subst hP hw hK
    obtain ⟨hz, hTI, hTO, h1, h2⟩ := st
    obtain ⟨xs, ys, hqx, hqy, hend⟩ := hg
    obtain ⟨its, rv, p, _⟩ := src_of I hqx
    obtain ⟨its2, rv2, p2, _⟩ := src_of I hqy
    have hh : X.A.in1.handled = none := I.ok.hd hc
    have D1 := draws_src (prog := X.prog) (w := X.w) (A := X.A.in1) b1 hh N a (lt_ne ha) its.toArray
    have D2 := draws_src (prog := X.prog) (w := X.w) (A := X.A.in1) b2 hh (N + 1) b (Nat.ne_of_lt (Nat.lt_succ_of_lt hb)) its2.toArray
    have G := GoesN.zip2 (elts := elts) (x1 := kk) (pos := tpos) (zip_sep2 (N := N) (fp1 := [a]) (fp2 := [b]) (by simpa using ha) (by simpa using hb)) D1 D2
    have ei : i = min its.toArray.size its2.toArray.size := by simp only [List.size_toArray]; rw [← rv.length, ← rv2.length]; exact hend
    subst ei
    refine G.stops s (fun s1 => Inv X pins σ H s1) E ⟨hz, hTI, hTO, ⟨h1, p⟩, h2, p2⟩ fun h' tk hk _ => ?_
    exact I.turnedL (ch := [N + 4, N + 2, N + 3, N, N + 1]) (fun c o hb q => hk c o (fun m => hb (by
      have e' : c = N + 4 ∨ c = N + 3 ∨ c = N ∨ c = N + 1 := by simpa using m
      rcases e' with z | z | z | z <;> (rw [z]; simp))) q) hf
  self := fun A i s Q E st h => wpAny_pyIter_zip st.1 h
theorem turn_E {P : Program} {w : World} {K : PySem.W.Frag} {elts : List Expr} {kk : Nat} {tpos : Pos} {b1 : Bool} {a : Addr} {N : Nat} (ha : a < N) :
    Turn P w K (.Tuple elts kk tpos) (ItE b1 K a) [N + 1, N] (N + 1) (fun i h => (∃ old, IsEnum h (N + 1) N ((i : Nat) : Int) old) ∧ IsIt b1 h N a i) where
  mem := by simp
  obj := fun i h st c hc => by
    obtain ⟨⟨old, hz⟩, h1⟩ := st
    have e' : c = N + 1 ∨ c = N := by simpa using hc
    rcases e' with q | q
    · rw [q]; exact ⟨_, hz, fun v q => nomatch q⟩
    · rw [q]; exact h1.obj
  keep := fun i h h' st k => by
    obtain ⟨⟨old, hz⟩, h1⟩ := st
    exact ⟨⟨old, k (N + 1) (by simp) _ hz⟩, h1.at fun o q => k N (by simp) o q⟩
  item := by
    intro X hP hw hK hc i pins s σ H E I hf st hg
    subst hP hw hK
    obtain ⟨hz, h1⟩ := st
    obtain ⟨xs, x, hqx, hx⟩ := hg
    obtain ⟨its, rv, p, _⟩ := src_of I hqx
    have hh : X.A.in1.handled = none := I.ok.hd hc
    have D1 := draws_src (prog := X.prog) (w := X.w) (A := X.A.in1) b1 hh N a (lt_ne ha) its.toArray
    have G := GoesN.enumFrom (elts := elts) (x1 := kk) (pos := tpos) 0 D1 (N + 1) (Nat.succ_ne_self N) (by
      intro m
      have e' : N + 1 = N ∨ N + 1 = a := by simpa using m
      rcases e' with z | z
      · exact Nat.succ_ne_self N z
      · rw [← z] at ha; exact absurd ha (Nat.not_lt.mpr (Nat.le_succ N))) (by simp)
    have l1 : i < its.length := by rw [← rv.length]; exact (List.getElem?_eq_some_iff.mp hx).1
    refine thn (G.goes i s (fun u s2 => ∃ x H', Inv X pins σ H' s2 ∧ RelV x u ∧ (ItE b1 X.K a).yld i H x H' ∧ ((∃ old, IsEnum s2.heap (N + 1) N (((i + 1 : Nat) : Nat) : Int) old) ∧ IsIt b1 s2.heap N a (i + 1)) ∧ ∀ b ∈ [N + 1, N], H' b = none) E (by simp only [List.size_toArray]; exact l1) ⟨by rw [Int.zero_add]; exact hz, h1, p⟩ ?_) fun r s1 q => q
    intro v h' tk hY st' hk _
    obtain ⟨T, t, u1, rfl, hT, q1, hTup⟩ := hY
    obtain ⟨w1, e1, r1⟩ := rv.get hx
    have z1 : u1 = w1 := by
      have : its.toArray[i]? = some w1 := by simpa using e1
      rw [this] at q1; exact (Option.some.inj q1).symm
    subst z1
    have new : ObjOk X.prog X.w (upd H T (.tup [.int (i : Nat), x])) h' T (.tup [.int (i : Nat), x]) := ⟨by show 2 ≤ sizeLine; decide, [.int (0 + (i : Int)) t, u1], .cons ⟨t, by rw [Int.zero_add]⟩ (.cons r1 .nil), hTup⟩
    have I1 : Inv X pins σ (upd H T (.tup [.int (i : Nat), x])) { s with heap := h', toks := tk } :=
      I.turnedNew (ch := [N + 1, N]) (fun c o hb q => hk c o hb q) hf hT new
    refine ⟨.ref T, _, I1, rfl, ⟨T, x, rfl, I.hok.fresh hT, rfl, fun l hl => by rw [sq_inj I hl hqx]; exact hx⟩, ⟨by have := st'.1; rw [Int.zero_add] at this; exact this, st'.2.1⟩, fun c hcm => ?_⟩
    have hlt : c < s.heap.objs.size := by
      obtain ⟨old, hz⟩ := hz
      have e' : c = N + 1 ∨ c = N := by simpa using hcm
      rcases e' with q | q
      · rw [q]; exact Heap.lt_size hz
      · rw [q]; obtain ⟨_, e1, _⟩ := h1.obj; exact Heap.lt_size e1
    rw [upd_ne (Nat.ne_of_lt (Nat.lt_of_lt_of_le hlt hT))]
    exact (hf c hcm).1
  done := by
    intro X hP hw hK hc i pins s σ H E I hf st hg
    subst hP hw hK
    obtain ⟨hz, h1⟩ := st
    obtain ⟨xs, hqx, hend⟩ := hg
    obtain ⟨its, rv, p, _⟩ := src_of I hqx
    have hh : X.A.in1.handled = none := I.ok.hd hc
    have D1 := draws_src (prog := X.prog) (w := X.w) (A := X.A.in1) b1 hh N a (lt_ne ha) its.toArray
    have G := GoesN.enumFrom (elts := elts) (x1 := kk) (pos := tpos) 0 D1 (N + 1) (Nat.succ_ne_self N) (by
      intro m
      have e' : N + 1 = N ∨ N + 1 = a := by simpa using m
      rcases e' with z | z
      · exact Nat.succ_ne_self N z
      · rw [← z] at ha; exact absurd ha (Nat.not_lt.mpr (Nat.le_succ N))) (by simp)
    have ei : i = its.toArray.size := by simp only [List.size_toArray]; rw [← rv.length]; exact hend
    subst ei
    refine G.stops s (fun s1 => Inv X pins σ H s1) E ⟨by rw [Int.zero_add]; exact hz, h1, p⟩ fun h' tk hk _ => ?_
    exact I.turnedL (ch := [N + 1, N]) (fun c o hb q => hk c o hb q) hf
  self := fun A i s Q E st h => wpAny_pyIter_enum st.1.choose_spec h
/-- enumerate(v) with its two new cells, v a list or a tuple -/
theorem enum_new1 {v : Value} {o : Obj} {H : Heap → Prop} (B : Begins v o H) :
    Meets (Builtin.«enumerate.__new__» ⟨[.type "enumerate", v], []⟩) (fun _ R s => H s.heap ∧
      R (.ok (.ret (.ref (s.heap.push o).objs.size))) { s with heap := (s.heap.push o).push { cls := .type "enumerate", data := .fields #[.none, .bool false, .ref s.heap.objs.size, rawInt 0, .none, .none] } }) :=
  .of_wp fun prog w A R s h => by
    obtain ⟨hp, g, d, tk, os⟩ := s; obtain ⟨h1, h⟩ := h
    have hsub := sub_enumerate
    have q1 : ∀ {A' : Around} {E : Value → Shared → Prop} {Q : Value → Shared → Prop}, Q (.ref hp.objs.size) ⟨hp.push o, g, d, tk, os⟩ → wpAny (model prog w) A' (pyIter v) Q E ⟨hp, g, d, tk, os⟩ :=
      fun q => B.iter prog w _ _ ⟨hp, g, d, tk, os⟩ _ h1 q
    wp_walk using q1
    refine wpAny_stack_any fun st => wpAny_pure ?_
    split
    · rename_i c _ _ _ _ _
      cases (c == Value.type "enumerate")
      · wp_walk using q1
        exact ⟨_, rfl, h⟩
      · wp_walk using q1
        exact ⟨_, rfl, h⟩
    · wp_walk using q1
      exact ⟨_, rfl, h⟩
theorem enum_begins1 {prog : Program} {w : World} {A : Around} {E : Value → Shared → Prop} {s : Shared} {v : Value} {o : Obj} {H : Heap → Prop} {Q : Value → Shared → Prop} (B : Begins v o H) (h1 : H s.heap)
    (h : ∀ h', IsEnum h' (s.heap.objs.size + 1) s.heap.objs.size 0 .none → h'.get? s.heap.objs.size = some o → h'.objs.size = s.heap.objs.size + 2 →
      (∀ b o, s.heap.get? b = some o → h'.get? b = some o) → Q (.ref (s.heap.objs.size + 1)) { s with heap := h' }) :
    wpAny (model prog w) A (call (.type "enumerate") [v]) Q E s := by
  refine callType_new F.called_enumerate (by decide) (F.typeCall_enumerate_1 _) (F.newCall_enumerate_1 _) (fun obj => F.args_object_init_2 obj _) F.entry_enumerate_new (enum_new1 B) ⟨h1, ?_⟩
  have hz : (s.heap.push o).objs.size = s.heap.objs.size + 1 := Heap.size_push ..
  show _ ∧ _
  rw [hz]
  have he : IsEnum ((s.heap.push o).push { cls := .type "enumerate", data := .fields #[.none, .bool false, .ref s.heap.objs.size, rawInt 0, .none, .none] }) (s.heap.objs.size + 1) s.heap.objs.size 0 .none := by
    have := Heap.get?_push_size (s.heap.push o) (o := { cls := .type "enumerate", data := .fields #[.none, .bool false, .ref s.heap.objs.size, rawInt 0, .none, .none] }) rfl
    rw [hz] at this; exact this
  refine ⟨⟨_, he, rfl⟩, h _ he (Heap.get?_push_of_some _ (Heap.get?_push_size _ B.free)) (by rw [Heap.size_push, hz]) fun b o x => Heap.get?_push_of_some _ (Heap.get?_push_of_some _ x)⟩
end Sh

namespace Sh
open PySem L2

theorem sq_ext {b : Bool} {K : PySem.W.Frag} {H : Hp} {a : Addr} {vs : List V} (h : SqL K H a vs ∨ SqT K H a vs) : ∃ b, sq b K H a vs := by
  rcases h with h | h
  · exact ⟨true, h⟩
  · exact ⟨false, h⟩
/-- a source of items: how it stands at any later time -/
structure Stand (G : Gd) (ι0 : List Addr) (H0 : Hp) (b : Bool) (a : Addr) (l : List D) (g : Store → Bool) : Prop where
  at_ : ∀ (ι : List Addr) (H : Hp) (M : Store), Ext G.K ι0 H0 ι H → Abs G.K ι H G.P G.w M → g M = true → ∃ vs, sq b G.K H a vs ∧ Reps G.K ι H l vs
/-- the guard of a source -/
def gd (M : Store) : D → Store → Bool
  | .ref n => fun M' => decide (M'[n]? = M[n]?)
  | _ => fun _ => true
theorem stand_of {G : Gd} {ι : List Addr} {H : Hp} {M : Store} {d : D} {v : V} {l : List D} (A : Abs G.K ι H G.P G.w M) (r : Rep G.K ι H d v) (e : seqM M d = some l) : ∃ a b, v = .ref a ∧ Stand G ι H b a l (gd M d) := by
  cases d with
  | tup l' =>
    cases e
    simp only [Rep] at r
    obtain ⟨a, vs, rfl, h1, h2⟩ := r
    exact ⟨a, false, rfl, ⟨fun ι' H' M' x _ _ => ⟨vs, x.tup a vs h1, h2.ext x⟩⟩⟩
  | ref n =>
    simp only [Rep] at r
    obtain ⟨a, ea, rfl⟩ := r
    refine ⟨a, true, rfl, ⟨fun ι' H' M' x A' gg => ?_⟩⟩
    have eM : M'[n]? = M[n]? := of_decide_eq_true gg
    exact lst_get A' (x.ix n a ea) (show lstM M' n = some l by unfold lstM; rw [eM]; exact e)
  | _ => cases e
section
variable {X : Cx} {W : WX}
theorem now_of {G : Gd} {ι : List Addr} {H : Hp} {M : Store} {d : D} {b : Bool} {a : Addr} {l : List D} (A : Abs G.K ι H G.P G.w M) (st : Stand G ι H b a l (gd M d)) : ∃ vs, sq b G.K H a vs ∧ Reps G.K ι H l vs := by
  refine st.at_ ι H M Ext.refl A ?_
  cases d <;> simp [gd]
/-! zip -/
def zipD : List D → List D → List D
  | x :: l, y :: r => .tup [x, y] :: zipD l r
  | _, _ => []
theorem zipD_get : ∀ (l r : List D) (i : Nat), (zipD l r)[i]? = match l[i]?, r[i]? with | some x, some y => some (.tup [x, y]) | _, _ => none
  | [], r, i => by simp [zipD]
  | x :: l, [], i => by cases h : (x :: l)[i]? <;> simp [zipD]
  | x :: l, y :: r, 0 => by simp [zipD]
  | x :: l, y :: r, i + 1 => by simp only [zipD, List.getElem?_cons_succ]; exact zipD_get l r i
theorem zipD_length : ∀ (l r : List D), (zipD l r).length = min l.length r.length
  | [], r => by simp [zipD]
  | x :: l, [] => by simp [zipD]
  | x :: l, y :: r => by simp [zipD, zipD_length l r]
def iZip (f g : EF) : IF := fun env M => (f env M).bind fun x M1 => (g env M1).bind fun y M2 => match seqM M2 x, seqM M2 y with
  | some l, some r => .ok ⟨zipD l r, fun M => gd M2 x M && gd M2 y M⟩ M2
  | _, _ => .bad
theorem pi_zipX {e e2 : Expr} {ta : TA} {p pos tpos : Pos} {elts : List Expr} {kk : Nat} (hg : Gl X "zip") (hm : X.mg "zip" = none) (ha : PA X [e, e2] ta)
    (hs : starEach [e, e2] X.env = (false, eval e X.env) :: starEach [e2] X.env := by rfl) (hpl : (backTo pos (starEach [e2] X.env)).any (·.1) = false := by rfl) :
    PI X (.Tuple elts kk tpos) (.Call (.Name "zip" p) [e, e2] [] pos) (fun σ H R => ta σ H fun vs H1 => ∃ a b b1 b2 xs ys, vs = [.ref a, .ref b] ∧ sq b1 X.K H1 a xs ∧ sq b2 X.K H1 b ys ∧ R (ItZ b1 b2 X.K a b) H1) := by
  refine ⟨fun pins s σ H R I h => ?_⟩
  refine PyProof.Rows.Call_ (ld_blt I hg hm PyProof.Rows.boot_zip (PyProof.Rows.callWith_type1 (thn (ha.run pos pins s σ H _ I h) fun us s1 ⟨vs, H1, I1, r1, q1⟩ => ?_) hs hpl))
  obtain ⟨a, b, b1, b2, xs, ys, ex, hqx, hqy, q⟩ := q1
  subst ex
  cases r1 with
  | cons r rr =>
    cases rr with
    | cons r' rr =>
      cases rr
      cases r
      cases r'
      have fresh5 : ∀ c, c ∈ [s1.heap.objs.size + 4, s1.heap.objs.size + 2, s1.heap.objs.size + 3, s1.heap.objs.size, s1.heap.objs.size + 1] → FpOk X pins H1 c := fun c hcm => by
        have e' : c = s1.heap.objs.size + 4 ∨ c = s1.heap.objs.size + 2 ∨ c = s1.heap.objs.size + 3 ∨ c = s1.heap.objs.size ∨ c = s1.heap.objs.size + 1 := by simpa using hcm
        have hle : s1.heap.objs.size ≤ c := by
          rcases e' with z | z | z | z | z
          · rw [z]; exact Nat.le_add_right _ _
          · rw [z]; exact Nat.le_add_right _ _
          · rw [z]; exact Nat.le_add_right _ _
          · rw [z]; exact Nat.le_refl _
          · rw [z]; exact Nat.le_add_right _ _
        exact I1.fpOk hle (I1.hok.fresh hle)
      obtain ⟨its, rv, p1, lt1⟩ := src_of I1 hqx
      obtain ⟨its2, rv2, p2, lt2⟩ := src_of I1 hqy
      refine zip_begins2 (begins_src b1 a its.toArray) (begins_src b2 b its2.toArray) p1 p2 fun h' hz hTI hTO h1 h2 hsz hk => wpAny_pyIter_zip hz ?_
      have I2 : Inv X pins σ H1 { s1 with heap := h' } := I1.kept (t' := s1.toks) hk
      exact ⟨s1.heap.objs.size + 4, [s1.heap.objs.size + 4, s1.heap.objs.size + 2, s1.heap.objs.size + 3, s1.heap.objs.size, s1.heap.objs.size + 1], _, _, H1, rfl, I2, turn_Z lt1 lt2, ⟨hz, hTI, ⟨_, _, hTO⟩, IsIt.zero h1, IsIt.zero h2⟩, fresh5, q⟩
theorem rep_pair {K : PySem.W.Frag} {ι : List Addr} {H : Hp} {T : Addr} {x y : V} {d e : D} (hT : H T = none) (r1 : Rep K ι H d x) (r2 : Rep K ι H e y) : Rep K ι (upd H T (.tup [x, y])) (.tup [d, e]) (.ref T) := by
  have x3 : Ext K ι H ι (upd H T (.tup [x, y])) := by have := ext_new (K := K) (ι := ι) (u := .tup [x, y]) hT []; simpa using this
  refine rep_tup (SqT.of upd_same) ?_
  simp only [Reps]
  exact ⟨x, [y], rfl, r1.ext x3, y, [], rfl, r2.ext x3, rfl⟩
theorem sim_zip {G : Gd} {ι0 : List Addr} {H0 : Hp} {b1 b2 : Bool} {a b : Addr} {l r : List D} {g1 g2 : Store → Bool} (s1 : Stand G ι0 H0 b1 a l g1) (s2 : Stand G ι0 H0 b2 b r g2) : SimI G ι0 H0 (ItZ b1 b2 G.K a b) ⟨zipD l r, fun M => g1 M && g2 M⟩ := fun i ι H M x A gg => by
  simp only [Bool.and_eq_true] at gg
  obtain ⟨vs, h1, r1⟩ := s1.at_ ι H M x A gg.1
  obtain ⟨us, h2, r2⟩ := s2.at_ ι H M x A gg.2
  refine ⟨fun d e => ?_, fun e => ⟨vs, us, h1, h2, by rw [← r1.length, ← r2.length, e, zipD_length]⟩⟩
  rw [zipD_get] at e
  cases e1 : l[i]? with
  | none => rw [e1] at e; cases e
  | some x' =>
    cases e2 : r[i]? with
    | none => rw [e1, e2] at e; cases e
    | some y' =>
      rw [e1, e2] at e
      cases e
      obtain ⟨v, ev, rv⟩ := r1.get e1
      obtain ⟨u, eu, ru⟩ := r2.get e2
      refine ⟨⟨vs, us, v, u, h1, h2, ev, eu⟩, fun z H' q => ?_⟩
      obtain ⟨T, x0, y0, rfl, hT, rfl, q1, q2⟩ := q
      have z1 := q1 vs h1
      have z2 := q2 us h2
      rw [ev] at z1; rw [eu] at z2
      cases z1; cases z2
      exact ⟨step_tmp hT, A.tmp hT, rep_pair hT rv ru⟩
theorem si_zip {e e2 : Expr} {f g : EF} {p pos tpos : Pos} {elts : List Expr} {kk : Nat} (hg : Gl X "zip") (hm : X.mg "zip" = none) (h1 : SE X W e f) (h2 : SE X W e2 g)
    (hs : starEach [e, e2] X.env = (false, eval e X.env) :: starEach [e2] X.env := by rfl) (hs2 : starEach [e2] X.env = (false, eval e2 X.env) :: starEach [] X.env := by rfl) (hpl : (backTo pos (starEach [e2] X.env)).any (·.1) = false := by rfl) :
    SI X W (.Tuple elts kk tpos) (.Call (.Name "zip" p) [e, e2] [] pos) (iZip f g) :=
  (pi_zipX hg hm (pa_cons h1 (pa_cons h2 pa_nil hs2) hs) hs hpl).imp fun σ H R h => by
    obtain ⟨ι, M, env, A, E, h⟩ := h
    refine tE.mono (tE.seq A E h) fun x H1 ⟨ι1, M1, d1, s1, A1, E1, r1, _, h1⟩ => ?_
    refine tE.mono (tE.seq A1 E1 h1) fun y H2 ⟨ι2, M2, d2, s2, A2, E2, r2, _, h2⟩ => ?_
    cases e1 : seqM M2 d1 with
    | none => simp only [e1] at h2; exact h2.elim
    | some l =>
      cases e2 : seqM M2 d2 with
      | none => simp only [e1, e2] at h2; exact h2.elim
      | some r =>
        simp only [e1, e2] at h2
        obtain ⟨a, b1, rfl, st1⟩ := stand_of A2 (r1.ext (s2.ext A1.nt)) e1
        obtain ⟨b, b2, rfl, st2⟩ := stand_of A2 r2 e2
        obtain ⟨vs, q1, _⟩ := now_of A2 st1
        obtain ⟨us, q2, _⟩ := now_of A2 st2
        exact ⟨a, b, b1, b2, vs, us, rfl, q1, q2, h2 ι2 H2 _ Step.refl A2 (sim_zip st1 st2)⟩
/-! enumerate -/
def enumD : Nat → List D → List D
  | _, [] => []
  | n, x :: l => .tup [.int (n : Int), x] :: enumD (n + 1) l
theorem enumD_get : ∀ (l : List D) (n i : Nat), (enumD n l)[i]? = (l[i]?).map fun x => .tup [.int ((n + i : Nat) : Int), x]
  | [], n, i => by simp [enumD]
  | x :: l, n, 0 => by simp [enumD]
  | x :: l, n, i + 1 => by
    simp only [enumD, List.getElem?_cons_succ, enumD_get l (n + 1) i]
    rw [show n + 1 + i = n + (i + 1) by omega]
theorem enumD_length : ∀ (l : List D) (n : Nat), (enumD n l).length = l.length
  | [], n => rfl
  | x :: l, n => by simp [enumD, enumD_length l (n + 1)]
def iEnum (f : EF) : IF := fun env M => (f env M).bind fun x M1 => match seqM M1 x with
  | some l => .ok ⟨enumD 0 l, gd M1 x⟩ M1
  | none => .bad
theorem pi_enumX {e : Expr} {ta : TA} {p pos tpos : Pos} {elts : List Expr} {kk : Nat} (hg : Gl X "enumerate") (hm : X.mg "enumerate" = none) (ha : PA X [e] ta) (hs : starEach [e] X.env = [(false, eval e X.env)] := by rfl) :
    PI X (.Tuple elts kk tpos) (.Call (.Name "enumerate" p) [e] [] pos) (fun σ H R => ta σ H fun vs H1 => ∃ a b1 xs, vs = [.ref a] ∧ sq b1 X.K H1 a xs ∧ R (ItE b1 X.K a) H1) := by
  refine ⟨fun pins s σ H R I h => ?_⟩
  refine PyProof.Rows.Call_ (ld_blt I hg hm PyProof.Rows.boot_enumerate (PyProof.Rows.callWith_type1 (thn (ha.run pos pins s σ H _ I h) fun us s1 ⟨vs, H1, I1, r1, q1⟩ => ?_) hs rfl))
  obtain ⟨a, b1, xs, ex, hq, q⟩ := q1
  subst ex
  cases r1 with
  | cons r rr =>
    cases rr
    cases r
    obtain ⟨its, rv, p1, lt1⟩ := src_of I1 hq
    refine enum_begins1 (begins_src b1 a its.toArray) p1 fun h' he hit hsz hk => wpAny_pyIter_enum he ?_
    have I2 : Inv X pins σ H1 { s1 with heap := h' } := I1.kept (t' := s1.toks) hk
    refine ⟨s1.heap.objs.size + 1, [s1.heap.objs.size + 1, s1.heap.objs.size], _, _, H1, rfl, I2, turn_E lt1, ⟨⟨.none, he⟩, IsIt.zero hit⟩, fun b hb => ?_, q⟩
    have e' : b = s1.heap.objs.size + 1 ∨ b = s1.heap.objs.size := by simpa using hb
    have hle : s1.heap.objs.size ≤ b := by
      rcases e' with z | z
      · rw [z]; exact Nat.le_add_right _ _
      · rw [z]; exact Nat.le_refl _
    exact I1.fpOk hle (I1.hok.fresh hle)
theorem sim_enum {G : Gd} {ι0 : List Addr} {H0 : Hp} {b1 : Bool} {a : Addr} {l : List D} {g1 : Store → Bool} (s1 : Stand G ι0 H0 b1 a l g1) : SimI G ι0 H0 (ItE b1 G.K a) ⟨enumD 0 l, g1⟩ := fun i ι H M x A gg => by
  obtain ⟨vs, h1, r1⟩ := s1.at_ ι H M x A gg
  refine ⟨fun d e => ?_, fun e => ⟨vs, h1, by rw [← r1.length, e, enumD_length]⟩⟩
  rw [enumD_get] at e
  cases e1 : l[i]? with
  | none => rw [e1] at e; cases e
  | some x' =>
    rw [e1] at e
    cases e
    obtain ⟨v, ev, rv⟩ := r1.get e1
    refine ⟨⟨vs, v, h1, ev⟩, fun z H' q => ?_⟩
    obtain ⟨T, x0, rfl, hT, rfl, q1⟩ := q
    have z1 := q1 vs h1
    rw [ev] at z1
    cases z1
    refine ⟨step_tmp hT, A.tmp hT, ?_⟩
    rw [Nat.zero_add]
    exact rep_pair hT (by simp only [Rep]) rv
theorem si_enum {e : Expr} {f : EF} {p pos tpos : Pos} {elts : List Expr} {kk : Nat} (hg : Gl X "enumerate") (hm : X.mg "enumerate" = none) (h1 : SE X W e f)
    (hs : starEach [e] X.env = [(false, eval e X.env)] := by rfl) :
    SI X W (.Tuple elts kk tpos) (.Call (.Name "enumerate" p) [e] [] pos) (iEnum f) :=
  (pi_enumX hg hm (pa_cons h1 pa_nil hs) hs).imp fun σ H R h => by
    obtain ⟨ι, M, env, A, E, h⟩ := h
    refine tE.mono (tE.seq A E h) fun x H1 ⟨ι1, M1, d1, s1, A1, E1, r1, _, h1⟩ => ?_
    cases e1 : seqM M1 d1 with
    | none => simp only [e1] at h1; exact h1.elim
    | some l =>
      simp only [e1] at h1
      obtain ⟨a, b1, rfl, st1⟩ := stand_of A1 r1 e1
      obtain ⟨vs, q1, _⟩ := now_of A1 st1
      exact ⟨a, b1, vs, rfl, q1, h1 ι1 H1 _ Step.refl A1 (sim_enum st1)⟩
end
end Sh

namespace Sh
open PySem L2

/-! ### comprehensions -/
abbrev W0 : WX := fun _ _ _ _ => False
/-- a target of names: one, or a tuple of them -/
def gNs : List Nat → TGs
  | [] => gNil
  | i :: r => gCons (gName i) (gNs r)
def setV : List Nat → List V → St → St
  | i :: r, v :: vs, σ => setV r vs (σ.set i (some v))
  | _, _, σ => σ
def setD : List Nat → List D → Env → Env
  | i :: r, v :: vs, σ => setD r vs (σ.set i (some v))
  | _, _, σ => σ
theorem gNs_of : ∀ {is : List Nat} {vs : List V} {σ : St} {H : Hp} {Q : St → Hp → Prop}, vs.length = is.length → Q (setV is vs σ) H → gNs is vs σ H Q
  | [], vs, σ, H, Q, l, h => by
    have : vs = [] := List.length_eq_zero_iff.mp l
    subst this
    exact ⟨rfl, h⟩
  | i :: r, [], σ, H, Q, l, h => by simp at l
  | i :: r, v :: vs, σ, H, Q, l, h => ⟨v, vs, rfl, gNs_of (by simpa using l) h⟩
theorem setV_length : ∀ (is : List Nat) (vs : List V) (σ : St), (setV is vs σ).length = σ.length
  | [], vs, σ => rfl
  | i :: r, [], σ => rfl
  | i :: r, v :: vs, σ => by rw [setV, setV_length]; simp
theorem wipe_set {σ : St} {i : Nat} {o : Option V} : ∀ {vs : List Nat}, i ∈ vs → wipe (σ.set i o) vs = wipe σ vs
  | [], h => by cases h
  | v :: vs, h => by
    unfold wipe
    by_cases e : i ∈ vs
    · rw [wipe_set e]
    · have ev : i = v := by
        rcases List.mem_cons.mp h with z | z
        · exact z
        · exact absurd z e
      subst ev
      have : ∀ ws : List Nat, i ∉ ws → wipe (σ.set i o) ws = (wipe σ ws).set i o := by
        intro ws
        induction ws with
        | nil => intro _; rfl
        | cons w ws ih =>
          intro hn
          simp only [List.mem_cons, not_or] at hn
          unfold wipe
          rw [ih hn.2, List.set_comm _ _ hn.1]
      rw [this vs e, List.set_set]
theorem wipe_setV {own : List Nat} : ∀ (is : List Nat) (vs : List V) (σ : St), (∀ i ∈ is, i ∈ own) → wipe (setV is vs σ) own = wipe σ own
  | [], vs, σ, _ => rfl
  | i :: r, [], σ, _ => rfl
  | i :: r, v :: vs, σ, h => by
    rw [setV, wipe_setV r vs _ fun j hj => h j (List.mem_cons_of_mem _ hj), wipe_set (h i List.mem_cons_self)]
theorem wipe_wipe {σ : St} : ∀ {own : List Nat}, wipe (wipe σ own) own = wipe σ own
  | own => by
    have : ∀ ws : List Nat, (∀ w ∈ ws, w ∈ own) → wipe (wipe σ ws) own = wipe σ own := by
      intro ws
      induction ws with
      | nil => intro _; rfl
      | cons w ws ih =>
        intro h
        rw [wipe, wipe_set (h w List.mem_cons_self), ih fun x hx => h x (List.mem_cons_of_mem _ hx)]
    exact this own fun w h => h
theorem EnvR.setA {K : PySem.W.Frag} {ι : List Addr} {H : Hp} : ∀ {is : List Nat} {ds : List D} {vs : List V} {env : Env} {σ : St}, EnvR K ι H env σ → Reps K ι H ds vs → EnvR K ι H (setD is ds env) (setV is vs σ)
  | [], ds, vs, env, σ, E, r => by cases ds <;> exact E
  | i :: is, [], vs, env, σ, E, r => by simp only [Reps] at r; subst r; exact E
  | i :: is, d :: ds, vs, env, σ, E, r => by
    simp only [Reps] at r
    obtain ⟨v, rs, rfl, h1, h2⟩ := r
    exact EnvR.setA (is := is) (ds := ds) (vs := rs) (E.set h1) h2
def wipeD (env : Env) : List Nat → Env
  | [] => env
  | v :: vs => (wipeD env vs).set v none
theorem EnvR.wipe {K : PySem.W.Frag} {ι : List Addr} {H : Hp} {env : Env} {σ : St} (E : EnvR K ι H env σ) : ∀ (own : List Nat), EnvR K ι H (wipeD env own) (L2.wipe σ own)
  | [] => E
  | v :: vs => by
    have ih := EnvR.wipe E vs
    refine ⟨by simp [wipeD, L2.wipe, ih.1], fun i d e => ?_⟩
    unfold wipeD at e
    unfold L2.wipe
    by_cases h : v = i
    · subst h
      by_cases hl : v < (wipeD env vs).length
      · rw [List.getElem?_set_self hl] at e; cases e
      · rw [List.getElem?_eq_none (by simpa using hl)] at e; cases e
    · rw [List.getElem?_set_ne h] at e ⊢
      exact ih.2 i d e
/-- the items of a target's value: the value itself, or the parts of a tuple -/
def parts (one : Bool) (n : Nat) : D → Option (List D)
  | d => if one = true then some [d] else match d with
    | .tup l => if l.length = n then some l else none
    | _ => none
def lcGo (guard : Store → Bool) (one : Bool) (is : List Nat) (c : TF) (f : EF) (env : Env) : List D → List D → Store → Res D
  | [], acc, M => if guard M = true then .ok (.ref M.length) (M ++ [.lst acc]) else .bad
  | x :: r, acc, M => if guard M = true then (match parts one is.length x with
    | none => .bad
    | some ds => match c (setD is ds env) M with
      | .ok true M1 => (match f (setD is ds env) M1 with
        | .ok y M2 => if acc.length < sizeLine then lcGo guard one is c f env r (acc ++ [y]) M2 else .bad
        | _ => .bad)
      | .ok false M1 => lcGo guard one is c f env r acc M1
      | _ => .bad) else .bad
def eLc (fi : IF) (one : Bool) (is : List Nat) (own : List Nat) (c : TF) (f : EF) : EF := fun env M => (fi env M).bind fun s M1 => lcGo s.guard one is c f (wipeD env own) s.items [] M1

/-! #### an object that the store does not track -/
theorem ext_off {K : PySem.W.Frag} {ι : List Addr} {H : Hp} {a : Addr} {u : HO} (nt : ∀ xs, ¬ Rd H a (.tup xs)) (nf : NF H a) : Ext K ι H ι (upd H a u) where
  ix := fun _ _ e => e
  tup := fun b vs h => by
    rcases h with (h | ⟨o, h⟩) | h
    · exact .inl (.inl (by rw [upd_ne fun z => nt vs (by rw [← z]; exact .inl h)]; exact h))
    · exact .inl (.inr ⟨o, by rw [upd_ne fun z => nt vs (by rw [← z]; exact .inr ⟨o, h⟩)]; exact h⟩)
    · exact .inr h
  frz := fun b o u h => by rw [upd_ne fun z => nf o u (by rw [← z]; exact h)]; exact h
theorem abs_off {K : PySem.W.Frag} {ι : List Addr} {H : Hp} {P : Program} {w : World} {M : Store} (A : Abs K ι H P w M) {a : Addr} {u : HO} (ha : a ∉ ι) (nt : ∀ xs, ¬ Rd H a (.tup xs)) (nf : NF H a) : Abs K ι (upd H a u) P w M where
  len := A.len
  nd := A.nd
  obj := fun m b o h1 h2 => by
    have ne : b ≠ a := fun z => ha (by rw [← z]; exact List.mem_of_getElem? h1)
    exact (A.obj m b o h1 h2).ext (ext_off nt nf) (fun u q => by rw [upd_ne ne]; exact q) fun xs r => by
      rcases r with r | ⟨o, r⟩
      · exact .inl (by rw [upd_ne ne] at r; exact r)
      · exact .inr ⟨o, by rw [upd_ne ne] at r; exact r⟩
theorem rd_lst {H : Hp} {a : Addr} {l : List V} (h : H a = some (.lst l)) : ∀ xs, ¬ Rd H a (.tup xs) := fun xs r => by rcases r with r | ⟨o, r⟩ <;> (rw [h] at r; cases r)
/-- a step that also touches one address that was free -/
theorem Step.off {ι ι' : List Addr} {H H' : Hp} {a : Addr} {u : HO} (s : Step ι H ι' H') (ha : H a = none) : Step ι H ι' (upd H' a u) where
  pre := s.pre
  frame := fun b o h n => by rw [upd_ne (ne_of_none h ha)]; exact s.frame b o h n
  fresh := s.fresh
  frz := fun b o u h => by rw [upd_ne (ne_of_none h ha)]; exact s.frz b o u h
theorem Step.add {ι ι' : List Addr} {H H' : Hp} {a : Addr} (s : Step ι H ι' H') (ha : H a = none) : Step ι H (ι' ++ [a]) H' where
  pre := let ⟨m, e⟩ := s.pre; ⟨m ++ [a], by rw [e, List.append_assoc]⟩
  frame := s.frame
  fresh := fun b h n => by
    rcases List.mem_append.mp h with h | h
    · exact s.fresh b h n
    · rw [List.mem_singleton.mp h]; exact ha
  frz := s.frz
theorem ext_add {K : PySem.W.Frag} {ι : List Addr} {H : Hp} (more : List Addr) : Ext K ι H (ι ++ more) H := ⟨fun n a e => by rw [List.getElem?_append_left (List.getElem?_eq_some_iff.mp e).1]; exact e, fun _ _ h => h, fun _ _ _ h => h⟩
theorem Abs.add {K : PySem.W.Frag} {ι : List Addr} {H : Hp} {P : Program} {w : World} {M : Store} {a : Addr} {o : DO} (A : Abs K ι H P w M) (ha : a ∉ ι) (ho : ORep K (ι ++ [a]) H P w a o) : Abs K (ι ++ [a]) H P w (M ++ [o]) where
  len := by simp [A.len]
  nd := by
    rw [List.nodup_append]
    exact ⟨A.nd, by simp, fun b hb c hc e => by rw [List.mem_singleton.mp hc] at e; rw [e] at hb; exact ha hb⟩
  obj := fun n b o' h1 h2 => by
    by_cases hn : n < ι.length
    · rw [List.getElem?_append_left hn] at h1
      rw [List.getElem?_append_left (by rw [← A.len]; exact hn)] at h2
      exact (A.obj n b o' h1 h2).ext (ext_add _) (fun u e => e) fun xs r => r
    · rw [List.getElem?_append_right (by omega)] at h1
      rw [List.getElem?_append_right (by rw [← A.len]; omega)] at h2
      cases q : n - ι.length with
      | zero =>
        rw [q] at h1
        rw [← A.len, q] at h2
        simp at h1 h2
        subst h1 h2
        exact ho
      | succ k => rw [q] at h1; simp at h1
theorem Step.out {ι ι' : List Addr} {H H' : Hp} {a : Addr} {u : HO} (s : Step ι H ι' H') (ha : a ∉ ι) (e : H a = some u) : a ∉ ι' ∧ H' a = some u :=
  ⟨fun m => by { have := s.fresh a m ha; rw [e] at this; cases this }, s.frame a u e ha⟩
theorem Reps.snoc {K : PySem.W.Frag} {ι : List Addr} {H : Hp} {d : D} {v : V} (h2 : Rep K ι H d v) : ∀ {l : List D} {vs : List V}, Reps K ι H l vs → Reps K ι H (l ++ [d]) (vs ++ [v])
  | [], vs, h => by simp only [Reps] at h; subst h; simp only [List.nil_append, Reps]; exact ⟨v, [], rfl, h2, rfl⟩
  | x :: l, vs, h => by
    simp only [Reps] at h
    obtain ⟨u, r, rfl, a, b⟩ := h
    simp only [List.cons_append, Reps]
    exact ⟨u, r ++ [v], rfl, a, Reps.snoc h2 b⟩
/-- the target of a comprehension -/
structure LcG (X : Cx) (tg : Expr) (one : Bool) (is : List Nat) (t : TG) : Prop where
  pg : PG X tg t
  rd : ∀ {ι : List Addr} {H : Hp} {d : D} {ds : List D} {x : V} {σ : St} {Q : St → Hp → Prop}, parts one is.length d = some ds → Rep X.K ι H d x → (∀ vs, Reps X.K ι H ds vs → Q (setV is vs σ) H) → t x σ H Q
section
variable {X : Cx} {W : WX}
theorem lg_nm {i : Nat} {x : Str} {pos : Pos} (hN : X.N.Nodup) (hi : X.N[i]? = some x) (hx : Loc X.env.scope x) (hf : X.fn x = true ∨ X.env.scope.names.lookup x = some .local := by first | exact .inl rfl | exact .inr rfl | assumption) : LcG X (.Name x pos) true [i] (gName i) where
  pg := pg_name hN hi hx hf
  rd := fun {_ _ _ _ _ _ _} e r h => by
    simp only [parts, if_true, Option.some.injEq] at e
    subst e
    exact h [_] (by simp only [Reps]; exact ⟨_, [], rfl, r, rfl⟩)
theorem lg_tu {es : List Expr} {k : Nat} {is : List Nat} {pos : Pos} (hc : X.calm = true) (h : PGs X es (gNs is)) (hn : (assignEach es X.env).length = is.length := by rfl) (hst : (assignEach es X.env).findIdx? (·.1) = none := by rfl) : LcG X (.Tuple es k pos) false is (gTup X.K is.length (gNs is)) where
  pg := pg_tup hc h hn hst
  rd := fun {ι H d ds x σ Q} e r h => by
    show gTup _ _ _ _ _ _ _
    cases d with
    | tup l =>
      simp only [parts, Bool.false_eq_true, if_false] at e
      split at e
      · rename_i hl
        cases e
        simp only [Rep] at r
        obtain ⟨p, vs, rfl, hq, rr⟩ := r
        have hl2 : vs.length = is.length := by rw [← hl, rr.length]
        exact ⟨p, vs, rfl, hq, hl2, gNs_of hl2 (h vs rr)⟩
      · cases e
    | _ => simp [parts] at e
theorem gns_nil : PGs X [] (gNs []) := pgs_nil
theorem gns_cons {x : Str} {i : Nat} {is : List Nat} {es : List Expr} {pos : Pos} (hN : X.N.Nodup) (hi : X.N[i]? = some x) (hx : Loc X.env.scope x) (h : PGs X es (gNs is)) (hf : X.fn x = true ∨ X.env.scope.names.lookup x = some .local := by first | exact .inl rfl | exact .inr rfl | assumption)
    (hs : (assignEach (.Name x pos :: es) X.env).map (·.2) = assign (.Name x pos) X.env :: (assignEach es X.env).map (·.2) := by rfl) : PGs X (.Name x pos :: es) (gNs (i :: is)) := pgs_cons (pg_name hN hi hx hf) h hs
def tYesD : TF := fun _ M => .ok true M
theorem sts_nil : PTs X [] (tT (cgd X) W tYesD) := ⟨fun pins s σ H Q I h => wpAny_tests_nil ⟨H, I, by obtain ⟨ι, M, env, A, E, h⟩ := h; exact h ι H true Step.refl A rfl⟩⟩
theorem sts_one {c : Expr} {f : TF} (h : ST X W c f) : PTs X [c] (tT (cgd X) W f) := pts_one h
/-- the reading of a list comprehension -/
theorem lc_read {t : TG} {fi : IF} {one : Bool} {is own : List Nat} {c : TF} {f : EF} (hown : ∀ i ∈ is, i ∈ own)
    (rd : ∀ {ι : List Addr} {H : Hp} {d : D} {ds : List D} {x : V} {σ : St} {Q : St → Hp → Prop}, parts one is.length d = some ds → Rep X.K ι H d x → (∀ vs, Reps X.K ι H ds vs → Q (setV is vs σ) H) → t x σ H Q)
    {σ : St} {H : Hp} {Q : VK} (h : tE (cgd X) W (eLc fi one is own c f) σ H Q) : tLc (tI (cgd X) W fi) t (tT (cgd X) W0 c) (tE (cgd X) W0 f) own σ H Q := by
  obtain ⟨ι, M, env, A, E, h⟩ := h
  refine tI.mono (tI.seq A E h) fun J H1 ⟨ι1, M1, s, s1, A1, E1, sim, _, h1⟩ => ?_
  intro D hD
  have hDi : D ∉ ι1 := A1.notin hD
  refine ⟨fun i m H => m = s.items.length - i ∧ i ≤ s.items.length ∧ ∃ ι M acc av, Step ι1 H1 ι H ∧ D ∉ ι ∧ H D = some (.lst av) ∧ Reps (cgd X).K ι H acc av ∧ Abs (cgd X).K ι H (cgd X).P (cgd X).w M ∧ PostE (cgd X) W ι1 H1 σ (lcGo s.guard one is c f (wipeD env own) (s.items.drop i) acc M) Q, ⟨_, rfl, Nat.zero_le _, ι1, M1, [], [], step_tmp hD, hDi, upd_same, by simp only [Reps], A1.tmp hD, by simpa using h1⟩, ?_⟩
  rintro i m H2 ⟨rfl, hile, ι2, M2, acc, av, s2, hD2, e2, ra2, A2, h2⟩
  have x2 : Ext (cgd X).K ι1 H1 ι2 H2 := s2.ext A1.nt
  have E2 := (E1.wipe own).ext x2
  cases ei : s.items[i]? with
  | none =>
    have hl : s.items.length ≤ i := List.getElem?_eq_none_iff.mp ei
    rw [List.drop_eq_nil_of_le hl] at h2
    unfold lcGo at h2
    by_cases hgd : s.guard M2 = true
    · rw [if_pos hgd] at h2
      refine .inl ⟨(sim i ι2 H2 M2 x2 A2 hgd).2 (Nat.le_antisymm hile hl), h2 (ι2 ++ [D]) H2 _ (s2.add hD) (A2.add hD2 ⟨av, e2, ra2.ext (ext_add _)⟩) ?_⟩
      simp only [Rep]
      exact ⟨D, by rw [← A2.len]; simp, rfl⟩
    · rw [if_neg hgd] at h2; exact h2.elim
  | some d =>
    obtain ⟨hl, ed⟩ := List.getElem?_eq_some_iff.mp ei
    rw [List.drop_eq_getElem_cons hl, ed] at h2
    unfold lcGo at h2
    by_cases hgd : s.guard M2 = true
    · rw [if_pos hgd] at h2
      obtain ⟨go, yl⟩ := (sim i ι2 H2 M2 x2 A2 hgd).1 d ei
      refine .inr ⟨go, fun H' => s.items.length - (i + 1) < s.items.length - i ∧ i + 1 ≤ s.items.length ∧ ∃ ι M acc av, Step ι1 H1 ι H' ∧ D ∉ ι ∧ H' D = some (.lst av) ∧ Reps (cgd X).K ι H' acc av ∧ Abs (cgd X).K ι H' (cgd X).P (cgd X).w M ∧ PostE (cgd X) W ι1 H1 σ (lcGo s.guard one is c f (wipeD env own) (s.items.drop (i + 1)) acc M) Q, fun H' ⟨h1, h2, h3⟩ => ⟨_, h1, rfl, h2, h3⟩, fun x H3 hy => ?_⟩
      have lt : s.items.length - (i + 1) < s.items.length - i := by omega
      obtain ⟨s3, A3, r3⟩ := yl x H3 hy
      obtain ⟨hD3, e3⟩ := s3.out hD2 e2
      have x3 := s3.ext (K := (cgd X).K) A2.nt
      cases ep : parts one is.length d with
      | none => rw [ep] at h2; exact h2.elim
      | some ds =>
        rw [ep] at h2
        refine rd ep r3 fun vs rv => ⟨?_, ?_⟩
        · rw [wipe_setV is vs _ hown, wipe_wipe]
        · have E3 := (E2.ext x3).setA (is := is) rv
          refine ⟨ι2, M2, _, A3, E3, ?_⟩
          cases ec : c (setD is ds (wipeD env own)) M2 with
          | bad => simp only [ec] at h2; exact h2.elim
          | exc _ _ _ => simp only [ec] at h2; exact h2.elim
          | ok b M4 =>
            simp only [ec] at h2
            rintro ι4 H4 b' s4 A4 rfl
            obtain ⟨hD4, e4⟩ := s4.out hD3 e3
            have x4 := s4.ext (K := (cgd X).K) A3.nt
            cases b with
            | false =>
              simp only [Bool.false_eq_true, if_false]
              exact ⟨lt, hl, ι4, M4, acc, av, (s2.trans s3).trans s4, hD4, e4, ra2.ext (x3.trans x4), A4, h2⟩
            | true =>
              simp only [if_true]
              refine ⟨ι4, M4, _, A4, E3.ext x4, ?_⟩
              cases ef : f (setD is ds (wipeD env own)) M4 with
              | bad => simp only [ef] at h2; exact h2.elim
              | exc _ _ _ => simp only [ef] at h2; exact h2.elim
              | ok y M5 =>
                simp only [ef] at h2
                intro ι5 H5 yv s5 A5 r5
                obtain ⟨hD5, e5⟩ := s5.out hD4 e4
                have x5 := s5.ext (K := (cgd X).K) A4.nt
                have ra5 := ra2.ext ((x3.trans x4).trans x5)
                split at h2
                · rename_i hlen
                  refine ⟨av, e5, by rw [← ra5.length]; exact hlen, lt, hl, ι5, M5, acc ++ [y], av ++ [yv], ?_, hD5, upd_same, ?_, abs_off A5 hD5 (rd_lst e5) (nf_lst e5), h2⟩
                  · exact (((s2.trans s3).trans s4).trans s5).off hD
                  · exact (ra5.snoc r5).ext (ext_off (rd_lst e5) (nf_lst e5))
                · exact h2.elim
    · rw [if_neg hgd] at h2; exact h2.elim
theorem se_lc {elt tg iter : Expr} {ifs : List Expr} {scope : Scope} {own : List (Str × Nat)} {pos : Pos} {fi : IF} {one : Bool} {is : List Nat} {t : TG} {c : TF} {f : EF} (hc : X.calm = true) (hN : X.N.Nodup) (hi : SI X W tg iter fi) (ok : BlkOk X.N X.env.scope scope own) (hown : ∀ i ∈ is, i ∈ own.map (·.2))
    (hb : ∀ (s : Shared) (H : Hp) (C : Addr) (cl : List (Str × Addr)) (fp : List Addr), LcG (X.blk s H scope (compEnvC scope cl C X.env) fp) tg one is t ∧ PTs (X.blk s H scope (compEnvC scope cl C X.env) fp) ifs (tT (cgd (X.blk s H scope (compEnvC scope cl C X.env) fp)) W0 c) ∧ SE (X.blk s H scope (compEnvC scope cl C X.env) fp) W0 elt f)
    (rd : ∀ {ι : List Addr} {H : Hp} {d : D} {ds : List D} {x : V} {σ : St} {Q : St → Hp → Prop}, parts one is.length d = some ds → Rep X.K ι H d x → (∀ vs, Reps X.K ι H ds vs → Q (setV is vs σ) H) → t x σ H Q)
    (hs : ∀ x, foldedSetIterable iter X.env x = pure x := by intro _; rfl) : SE X W (.ListComp elt [⟨tg, iter, ifs, 0⟩] scope pos) (eLc fi one is (own.map (·.2)) c f) :=
  (pe_lc hc hN hi ok (fun s H C cl fp => (hb s H C cl fp).1.pg) (fun s H C cl fp => (hb s H C cl fp).2.1) (fun s H C cl fp => (hb s H C cl fp).2.2) hs).imp fun σ H Q h => lc_read hown rd h
theorem ss_setLc {i : Nat} {y : Str} {py : Pos} {elt tg iter : Expr} {ifs : List Expr} {scope : Scope} {own : List (Str × Nat)} {pos spos : Pos} {fi : IF} {one : Bool} {is : List Nat} {t : TG} {c : TF} {f : EF} (hc : X.calm = true) (hN : X.N.Nodup) (hy : X.N[i]? = some y) (hyl : X.env.scope.names.lookup y = some .local)
    (hsw : swapsWith (.ListComp elt [⟨tg, iter, ifs, 0⟩] scope pos) (some (.Name y py)) spos.line X.env = pure true) (hi : SI X W tg iter fi) (ok : BlkOk X.N X.env.scope scope own) (hown : ∀ i ∈ is, i ∈ own.map (·.2))
    (hb : ∀ (s : Shared) (H : Hp) (C : Addr) (cl : List (Str × Addr)) (fp : List Addr), LcG (X.blk s H scope (compEnvC scope cl C X.env) fp) tg one is t ∧ PTs (X.blk s H scope (compEnvC scope cl C X.env) fp) ifs (tT (cgd (X.blk s H scope (compEnvC scope cl C X.env) fp)) W0 c) ∧ SE (X.blk s H scope (compEnvC scope cl C X.env) fp) W0 elt f)
    (rd : ∀ {ι : List Addr} {H : Hp} {d : D} {ds : List D} {x : V} {σ : St} {Q : St → Hp → Prop}, parts one is.length d = some ds → Rep X.K ι H d x → (∀ vs, Reps X.K ι H ds vs → Q (setV is vs σ) H) → t x σ H Q)
    (hs : ∀ x, foldedSetIterable iter X.env x = pure x := by intro _; rfl) : SS X W (.Assign [.Name y py] (.ListComp elt [⟨tg, iter, ifs, 0⟩] scope pos) spos) (sSet i (eLc fi one is (own.map (·.2)) c f)) :=
  (ps_setLc hc hN hy hyl hsw hi ok (fun s H C cl fp => (hb s H C cl fp).1.pg) (fun s H C cl fp => (hb s H C cl fp).2.1) (fun s H C cl fp => (hb s H C cl fp).2.2) hs).imp fun C σ H h => by
    obtain ⟨ι, M, env, A, E, h⟩ := h
    refine lc_read hown rd (tE.mono (tE.seqS A E h) fun x H1 ⟨ι1, M1, d, s1, A1, E1, r1, _, h1⟩ => ?_)
    exact h1 ι1 H1 _ Step.refl A1 (E1.set r1)
end
end Sh

namespace Sh
open PySem L2 PyProof.Rows

/-! ### calls of built-in functions and types -/
def eB (op : ON) (fa : AF) : EF := fun env M => (fa env M).bind fun ds M1 => ofO (op ds M1)
def intsD : List D → Option (List Int)
  | [] => some []
  | .int i :: l => (intsD l).map (i :: ·)
  | _ => none
def blsD : List D → Option (List Bool)
  | [] => some []
  | .bl b :: l => (blsD l).map (b :: ·)
  | _ => none
theorem Reps.ints {K : PySem.W.Frag} {ι : List Addr} {H : Hp} : ∀ {l : List D} {vs : List V} {ns : List Int}, Reps K ι H l vs → intsD l = some ns → vs = ns.map V.int
  | [], vs, ns, h, e => by simp only [Reps] at h; subst h; cases e; rfl
  | d :: l, vs, ns, h, e => by
    simp only [Reps] at h
    obtain ⟨v, r, rfl, a, b⟩ := h
    cases d with
    | int i =>
      simp only [intsD, Option.map_eq_some_iff] at e
      obtain ⟨ms, e1, rfl⟩ := e
      simp only [Rep] at a
      subst a
      rw [List.map_cons, ← Reps.ints b e1]
    | _ => simp [intsD] at e
theorem Reps.bls {K : PySem.W.Frag} {ι : List Addr} {H : Hp} : ∀ {l : List D} {vs : List V} {ns : List Bool}, Reps K ι H l vs → blsD l = some ns → vs = ns.map V.bl
  | [], vs, ns, h, e => by simp only [Reps] at h; subst h; cases e; rfl
  | d :: l, vs, ns, h, e => by
    simp only [Reps] at h
    obtain ⟨v, r, rfl, a, b⟩ := h
    cases d with
    | bl i =>
      simp only [blsD, Option.map_eq_some_iff] at e
      obtain ⟨ms, e1, rfl⟩ := e
      simp only [Rep] at a
      subst a
      rw [List.map_cons, ← Reps.bls b e1]
    | _ => simp [blsD] at e
theorem reps_two {K : PySem.W.Frag} {ι : List Addr} {H : Hp} {d e : D} {xs : List V} (h : Reps K ι H [d, e] xs) : ∃ v u, xs = [v, u] ∧ Rep K ι H d v ∧ Rep K ι H e u := by
  simp only [Reps] at h
  obtain ⟨v, r, rfl, a, u, r2, rfl, b, rfl⟩ := h
  exact ⟨v, u, rfl, a, b⟩
section
variable {X : Cx} {W : WX}
theorem callB_imp {op : ON} {fa : AF} {σ : L2.St} {H : Hp} {Q : VK} (h : tE (cgd X) W (eB op fa) σ H Q) : tCB (rON (cgd X) op) (tA (cgd X) W fa) σ H Q := by
  obtain ⟨ι, M, env, A, E, h⟩ := h
  refine tA.mono (tA.seq A E h) fun xs H1 ⟨ι1, M1, ds, s1, A1, E1, r1, _, h1⟩ => ?_
  exact ⟨ι1, M1, ds, A1, r1, Post.ofO h1⟩
theorem se_callB {x : Str} {p pos : Pos} {e : Expr} {es : List Expr} {fa : AF} {op : ON} {id : String} (hc : SCl X (.builtin id) op) (hg : Gl X x) (hm : X.mg x = none) (hv : bootBuiltins x = some (.builtin id)) (ha : SA X W (e :: es) fa) (hn : x ≠ "__name__" := by decide) (hdb : (x == ("__debug__" : Str)) = false := by decide)
    (he : starEach (e :: es) X.env = (false, eval e X.env) :: starEach es X.env := by rfl) (hpl : (backTo pos (starEach es X.env)).any (·.1) = false := by rfl) : SE X W (.Call (.Name x p) (e :: es) [] pos) (eB op fa) :=
  (pe_callB hc hg hm hv ha hn hdb he hpl).imp fun σ H Q h => callB_imp h
theorem se_callTy {x : Str} {p pos : Pos} {e : Expr} {es : List Expr} {fa : AF} {op : ON} {T : String} (hc : SCl X (.type T) op) (hg : Gl X x) (hm : X.mg x = none) (hv : bootBuiltins x = some (.type T)) (ha : SA X W (e :: es) fa) (hn : x ≠ "__name__" := by decide) (hdb : (x == ("__debug__" : Str)) = false := by decide)
    (he : starEach (e :: es) X.env = (false, eval e X.env) :: starEach es X.env := by rfl) (hpl : (backTo pos (starEach es X.env)).any (·.1) = false := by rfl) : SE X W (.Call (.Name x p) (e :: es) [] pos) (eB op fa) :=
  (pe_callTy hc hg hm hv ha hn hdb he hpl).imp fun σ H Q h => callB_imp h
/-! #### int, abs -/
def opInt : ON := fun ds M => match ds with
  | [.int i] => some (.int i, M)
  | [.bl b] => some (.int (if b then 1 else 0), M)
  | _ => none
theorem cl_int : SCl X (.type "int") opInt := call_int1.imp fun xs H Q ⟨ι, M, ds, A, r, h⟩ => by
  match ds, r, h with
  | [.int i], r, h =>
    obtain ⟨v, rfl, rv⟩ := reps_one r
    have hh := h ι H (.int i) Step.refl A (by simp only [Rep])
    simp only [Rep] at rv
    subst rv
    exact .inl ⟨i, rfl, hh⟩
  | [.bl b], r, h =>
    obtain ⟨v, rfl, rv⟩ := reps_one r
    have hh := h ι H (.int (if b then 1 else 0)) Step.refl A (by simp only [Rep])
    simp only [Rep] at rv
    subst rv
    exact .inr ⟨b, rfl, hh⟩
  | [], r, h => exact h.elim
  | [.non], r, h => exact h.elim
  | [.str _], r, h => exact h.elim
  | [.tup _], r, h => exact h.elim
  | [.ref _], r, h => exact h.elim
  | [.ty _], r, h => exact h.elim
  | .int _ :: _ :: _, r, h => exact h.elim
  | .bl _ :: _ :: _, r, h => exact h.elim
  | .non :: _ :: _, r, h => exact h.elim
  | .str _ :: _ :: _, r, h => exact h.elim
  | .tup _ :: _ :: _, r, h => exact h.elim
  | .ref _ :: _ :: _, r, h => exact h.elim
  | .ty _ :: _ :: _, r, h => exact h.elim
/-- an operator on one value -/
def op1 (g : D → Store → Option (D × Store)) : ON := fun ds M => match ds with
  | [d] => g d M
  | _ => none
theorem cl_one {f : Value} {r : List V → Hp → VK → Prop} {g : D → Store → Option (D × Store)} (h : CallR X f r) (hg : ∀ ι M H d x Q, Abs X.K ι H X.prog X.w M → Rep X.K ι H d x → PostO (cgd X) ι H (g d M) Q → r [x] H Q) : SCl X f (op1 g) :=
  h.imp fun xs H Q ⟨ι, M, ds, A, rr, q⟩ => by
    match ds, rr, q with
    | [d], rr, q =>
      obtain ⟨v, rfl, rv⟩ := reps_one rr
      exact hg ι M H d v Q A rv q
    | [], rr, q => exact q.elim
    | _ :: _ :: _, rr, q => exact q.elim
def op2 (g : D → D → Store → Option (D × Store)) : ON := fun ds M => match ds with
  | [d, e] => g d e M
  | _ => none
theorem cl_two {f : Value} {r : List V → Hp → VK → Prop} {g : D → D → Store → Option (D × Store)} (h : CallR X f r) (hg : ∀ ι M H d e x y Q, Abs X.K ι H X.prog X.w M → Rep X.K ι H d x → Rep X.K ι H e y → PostO (cgd X) ι H (g d e M) Q → r [x, y] H Q) : SCl X f (op2 g) :=
  h.imp fun xs H Q ⟨ι, M, ds, A, rr, q⟩ => by
    match ds, rr, q with
    | [d, e], rr, q =>
      obtain ⟨v, u, rfl, rv, ru⟩ := reps_two rr
      exact hg ι M H d e v u Q A rv ru q
    | [], rr, q => exact q.elim
    | [_], rr, q => exact q.elim
    | _ :: _ :: _ :: _, rr, q => exact q.elim
def gAbs : D → Store → Option (D × Store) := fun d M => match d with
  | .int i => some (.int (if i < 0 then -i else i), M)
  | _ => none
theorem cl_abs : SCl X (.builtin "abs") (op1 gAbs) := cl_one call_abs fun ι M H d x Q A r q => by
  cases d with
  | int i => simp only [Rep] at r; subst r; exact ⟨i, rfl, q ι H _ Step.refl A (by simp only [Rep])⟩
  | _ => exact q.elim
/-! #### max, min of two ints, of a list -/
def maxI : List Int → Option Int
  | [] => none
  | i :: l => some (l.foldl (fun m j => if j > m then j else m) i)
def minI : List Int → Option Int
  | [] => none
  | i :: l => some (l.foldl (fun m j => if j < m then j else m) i)
theorem foldmax : ∀ (l : List Int) (i : Int), (l.foldl (fun m j => if j > m then j else m) i = i ∨ l.foldl (fun m j => if j > m then j else m) i ∈ l) ∧ i ≤ l.foldl (fun m j => if j > m then j else m) i ∧ ∀ y ∈ l, y ≤ l.foldl (fun m j => if j > m then j else m) i
  | [], i => ⟨.inl rfl, Int.le_refl _, fun y h => by cases h⟩
  | j :: l, i => by
    obtain ⟨a, b, c⟩ := foldmax l (if j > i then j else i)
    rw [List.foldl_cons]
    generalize l.foldl (fun m j => if j > m then j else m) (if j > i then j else i) = m at a b c
    refine ⟨?_, ?_, fun y hy => ?_⟩
    · rcases a with a | a
      · by_cases h : j > i
        · rw [if_pos h] at a; right; rw [a]; exact List.mem_cons_self
        · rw [if_neg h] at a; left; exact a
      · right; exact List.mem_cons_of_mem _ a
    · split at b <;> omega
    · rcases List.mem_cons.mp hy with rfl | hy
      · split at b <;> omega
      · exact c y hy
theorem foldmin : ∀ (l : List Int) (i : Int), (l.foldl (fun m j => if j < m then j else m) i = i ∨ l.foldl (fun m j => if j < m then j else m) i ∈ l) ∧ l.foldl (fun m j => if j < m then j else m) i ≤ i ∧ ∀ y ∈ l, l.foldl (fun m j => if j < m then j else m) i ≤ y
  | [], i => ⟨.inl rfl, Int.le_refl _, fun y h => by cases h⟩
  | j :: l, i => by
    obtain ⟨a, b, c⟩ := foldmin l (if j < i then j else i)
    rw [List.foldl_cons]
    generalize l.foldl (fun m j => if j < m then j else m) (if j < i then j else i) = m at a b c
    refine ⟨?_, ?_, fun y hy => ?_⟩
    · rcases a with a | a
      · by_cases h : j < i
        · rw [if_pos h] at a; right; rw [a]; exact List.mem_cons_self
        · rw [if_neg h] at a; left; exact a
      · right; exact List.mem_cons_of_mem _ a
    · split at b <;> omega
    · rcases List.mem_cons.mp hy with rfl | hy
      · split at b <;> omega
      · exact c y hy
def gII (f : Int → Int → Int) : D → D → Store → Option (D × Store) := fun d e M => match d, e with
  | .int i, .int j => some (.int (f i j), M)
  | _, _ => none
theorem gII_of {f : Int → Int → Int} {ι : List Addr} {M : Store} {H : Hp} {d e : D} {x y : V} {Q : VK} (A : Abs X.K ι H X.prog X.w M) (r : Rep X.K ι H d x) (r2 : Rep X.K ι H e y) (q : PostO (cgd X) ι H (gII f d e M) Q) : ∃ i j, x = .int i ∧ y = .int j ∧ Q (.int (f i j)) H := by
  cases d with
  | int i =>
    cases e with
    | int j => simp only [Rep] at r r2; subst r r2; exact ⟨i, j, rfl, rfl, q ι H _ Step.refl A (by simp only [Rep])⟩
    | _ => exact q.elim
  | _ => exact q.elim
def gInts (f : List Int → Option Int) : D → Store → Option (D × Store) := fun d M => match d with
  | .ref n => match lstM M n with
    | some l => match intsD l with
      | some ns => match f ns with
        | some m => some (.int m, M)
        | none => none
      | none => none
    | none => none
  | _ => none
theorem gInts_of {f : List Int → Option Int} {ι : List Addr} {M : Store} {H : Hp} {d : D} {x : V} {Q : VK} (A : Abs X.K ι H X.prog X.w M) (r : Rep X.K ι H d x) (q : PostO (cgd X) ι H (gInts f d M) Q) : ∃ a ns m, x = .ref a ∧ SqL X.K H a (ns.map V.int) ∧ f ns = some m ∧ Q (.int m) H := by
  cases d with
  | ref n =>
    simp only [Rep] at r
    obtain ⟨a, ea, rfl⟩ := r
    unfold gInts at q
    cases el : lstM M n with
    | none => simp only [el] at q; exact q.elim
    | some l =>
      obtain ⟨vs, h1, h2⟩ := lst_get A ea el
      simp only [el] at q
      cases ei : intsD l with
      | none => rw [ei] at q; exact q.elim
      | some ns =>
        simp only [ei] at q
        cases em : f ns with
        | none => rw [em] at q; exact q.elim
        | some m =>
          rw [em] at q
          have e := h2.ints ei
          subst e
          exact ⟨a, ns, m, rfl, h1, em, q ι H _ Step.refl A (by simp only [Rep])⟩
  | _ => exact q.elim
def opMax : ON := fun ds M => match ds with
  | [d] => gInts maxI d M
  | [d, e] => gII (fun i j => if j > i then j else i) d e M
  | _ => none
def opMin : ON := fun ds M => match ds with
  | [d] => gInts minI d M
  | [d, e] => gII (fun i j => if j < i then j else i) d e M
  | _ => none
theorem cl_max (hc : X.calm = true) : SCl X (.builtin "max") opMax := (CallR.or (cr_max hc) (call_max2 hc)).imp fun xs H Q ⟨ι, M, ds, A, rr, q⟩ => by
  match ds, rr, q with
  | [d], rr, q =>
    obtain ⟨v, rfl, rv⟩ := reps_one rr
    obtain ⟨a, ns, m, rfl, h1, e, q⟩ := gInts_of A rv q
    cases ns with
    | nil => cases e
    | cons i l =>
      simp only [maxI, Option.some.injEq] at e
      obtain ⟨fa, fb, fc⟩ := foldmax l i
      rw [e] at fa fb fc
      refine .inl ⟨a, i :: l, rfl, h1, by simp, fun m' hm' hy => ?_⟩
      have : m' = m := by
        have h2 := hy m (by rcases fa with z | z; rw [z]; exact List.mem_cons_self; exact List.mem_cons_of_mem _ z)
        rcases List.mem_cons.mp hm' with z | z
        · omega
        · have := fc m' z; omega
      rw [this]; exact q
  | [d, e], rr, q =>
    obtain ⟨v, u, rfl, rv, ru⟩ := reps_two rr
    obtain ⟨i, j, rfl, rfl, q⟩ := gII_of A rv ru q
    exact .inr ⟨i, j, rfl, q⟩
  | [], rr, q => exact q.elim
  | _ :: _ :: _ :: _, rr, q => exact q.elim
theorem cl_min (hc : X.calm = true) : SCl X (.builtin "min") opMin := (CallR.or (cr_min hc) (call_min2 hc)).imp fun xs H Q ⟨ι, M, ds, A, rr, q⟩ => by
  match ds, rr, q with
  | [d], rr, q =>
    obtain ⟨v, rfl, rv⟩ := reps_one rr
    obtain ⟨a, ns, m, rfl, h1, e, q⟩ := gInts_of A rv q
    cases ns with
    | nil => cases e
    | cons i l =>
      simp only [minI, Option.some.injEq] at e
      obtain ⟨fa, fb, fc⟩ := foldmin l i
      rw [e] at fa fb fc
      refine .inl ⟨a, i :: l, rfl, h1, by simp, fun m' hm' hy => ?_⟩
      have : m' = m := by
        have h2 := hy m (by rcases fa with z | z; rw [z]; exact List.mem_cons_self; exact List.mem_cons_of_mem _ z)
        rcases List.mem_cons.mp hm' with z | z
        · omega
        · have := fc m' z; omega
      rw [this]; exact q
  | [d, e], rr, q =>
    obtain ⟨v, u, rfl, rv, ru⟩ := reps_two rr
    obtain ⟨i, j, rfl, rfl, q⟩ := gII_of A rv ru q
    exact .inr ⟨i, j, rfl, q⟩
  | [], rr, q => exact q.elim
  | _ :: _ :: _ :: _, rr, q => exact q.elim
/-! #### sum -/
def rSumT (K : PySem.W.Frag) : List V → Hp → VK → Prop := fun vs H Q => ∃ (a : Addr) (ns : List Int), vs = [V.ref a] ∧ SqT K H a (ns.map V.int) ∧ Q (.int ns.sum) H
theorem cr_sumT (hc : X.calm = true) : CallR X (.builtin "sum") (rSumT X.K) := by
  intro pins s σ H vs us Q I r h
  obtain ⟨a, ns, rfl, hs, q⟩ := h
  obtain ⟨its, rv, hl, _⟩ := I.tuple hs
  rw [Vals.ref1 r]
  have hi := rv.ints
  obtain ⟨xs, e⟩ := hi.allInts.items
  have hn : numsOf (intItems xs).toList = ns := by rw [← e]; exact hi.numsOf
  rw [nums_intItems] at hn
  have hl : s.heap.IsTuple a its.toArray := hl
  rw [e] at hl
  refine PySem.W.ktm_sumG (I.ok.hd hc) hl fun h' tk t' hk => ?_
  rw [preSum_eq, List.take_of_length_le (by simp), hn]
  exact ⟨.int _, H, I.kept hk, ⟨_, rfl⟩, q⟩
def gSum : D → Store → Option (D × Store) := fun d M => match seqM M d with
  | some l => match intsD l with
    | some ns => some (.int ns.sum, M)
    | none => none
  | none => none
theorem cl_sum (hc : X.calm = true) : SCl X (.builtin "sum") (op1 gSum) := cl_one (CallR.or (cr_sum hc) (cr_sumT hc)) fun ι M H d x Q A r q => by
  unfold gSum at q
  cases el : seqM M d with
  | none => rw [el] at q; exact q.elim
  | some l =>
    obtain ⟨a, vs, rfl, h1, h2⟩ := seq_get A r el
    simp only [el] at q
    cases ei : intsD l with
    | none => rw [ei] at q; exact q.elim
    | some ns =>
      rw [ei] at q
      have e := h2.ints ei
      subst e
      have qq := q ι H _ Step.refl A (by simp only [Rep]; exact rfl)
      rcases h1 with h1 | h1
      · exact .inl ⟨a, ns, rfl, h1, qq⟩
      · exact .inr ⟨a, ns, rfl, h1, qq⟩
/-! #### all, any of a list of bools -/
def gBls (f : List Bool → Bool) : D → Store → Option (D × Store) := fun d M => match d with
  | .ref n => match lstM M n with
    | some l => match blsD l with
      | some bs => some (.bl (f bs), M)
      | none => none
    | none => none
  | _ => none
theorem gBls_of {f : List Bool → Bool} {ι : List Addr} {M : Store} {H : Hp} {d : D} {x : V} {Q : VK} (A : Abs X.K ι H X.prog X.w M) (r : Rep X.K ι H d x) (q : PostO (cgd X) ι H (gBls f d M) Q) : ∃ a bs, x = .ref a ∧ SqL X.K H a (bs.map V.bl) ∧ Q (.bl (f bs)) H := by
  cases d with
  | ref n =>
    simp only [Rep] at r
    obtain ⟨a, ea, rfl⟩ := r
    unfold gBls at q
    cases el : lstM M n with
    | none => simp only [el] at q; exact q.elim
    | some l =>
      obtain ⟨vs, h1, h2⟩ := lst_get A ea el
      simp only [el] at q
      cases ei : blsD l with
      | none => rw [ei] at q; exact q.elim
      | some bs =>
        rw [ei] at q
        have e := h2.bls ei
        subst e
        exact ⟨a, bs, rfl, h1, q ι H _ Step.refl A (by simp only [Rep])⟩
  | _ => exact q.elim
theorem cl_all (hc : X.calm = true) : SCl X (.builtin "all") (op1 (gBls fun bs => bs.all id)) := cl_one (cr_all hc) fun ι M H d x Q A r q => by
  obtain ⟨a, bs, rfl, h, q⟩ := gBls_of A r q
  exact ⟨a, bs, rfl, h, q⟩
theorem cl_any (hc : X.calm = true) : SCl X (.builtin "any") (op1 (gBls fun bs => bs.any id)) := cl_one (cr_any hc) fun ι M H d x Q A r q => by
  obtain ⟨a, bs, rfl, h, q⟩ := gBls_of A r q
  exact ⟨a, bs, rfl, h, q⟩
/-! #### tuple, list -/
def gTuple : D → Store → Option (D × Store) := fun d M => match seqM M d with
  | some l => some (.tup l, M)
  | none => none
theorem Rep.notTup {K : PySem.W.Frag} {ι : List Addr} {H : Hp} {P : Program} {w : World} {M : Store} {n : Nat} {a : Addr} (A : Abs K ι H P w M) (ea : ι[n]? = some a) (hn : n < M.length) : ∀ xs, ¬ Rd H a (.tup xs) := A.nt a (List.mem_of_getElem? ea)
theorem cl_tuple : SCl X (.type "tuple") (op1 gTuple) := cl_one call_tuple_of fun ι M H d x Q A r q => by
  unfold gTuple at q
  cases d with
  | tup l =>
    have r0 := r
    simp only [Rep] at r
    obtain ⟨p, vs, rfl, h1, h2⟩ := r
    simp only [seqM] at q
    exact ⟨p, vs, rfl, .inr ⟨h1, q ι H _ Step.refl A r0⟩⟩
  | ref n =>
    simp only [Rep] at r
    obtain ⟨a, ea, rfl⟩ := r
    cases el : lstM M n with
    | none => simp only [seqM, el] at q; exact q.elim
    | some l =>
      obtain ⟨vs, h1, h2⟩ := lst_get A ea el
      simp only [seqM, el] at q
      exact ⟨a, vs, rfl, .inl ⟨h1, PostO.tup A h2 q⟩⟩
  | _ => exact q.elim
def gList : D → Store → Option (D × Store) := fun d M => match seqM M d with
  | some l => some (.ref M.length, M ++ [.lst l])
  | none => none
theorem cl_list : SCl X (.type "list") (op1 gList) := cl_one call_list_of fun ι M H d x Q A r q => by
  unfold gList at q
  cases el : seqM M d with
  | none => rw [el] at q; exact q.elim
  | some l =>
    obtain ⟨a, vs, rfl, h1, h2⟩ := seq_get A r el
    rw [el] at q
    exact ⟨a, vs, rfl, h1, PostO.lst A h2 q⟩
/-! list(range(n)), tuple(range(n)) -/
def rgOk (a b : Int) : Bool := decide (-(2 ^ 62) ≤ a ∧ a < 2 ^ 62 ∧ -(2 ^ 62) ≤ b ∧ b < 2 ^ 62 ∧ (b - a).toNat ≤ 2 ^ 24)
theorem reps_rg {K : PySem.W.Frag} {ι : List Addr} {H : Hp} (a b : Int) : Reps K ι H (rngD a b) (rgV a b) := by
  unfold rngD rgV
  generalize List.range (b - a).toNat = l
  induction l with
  | nil => simp only [List.map_nil, Reps]
  | cons i l ih => simp only [List.map_cons, Reps]; exact ⟨_, _, rfl, by simp only [Rep], ih⟩
def eLRg1 (f : EF) : EF := fun env M => (f env M).bind fun d M1 => match d with
  | .int n => if rgOk 0 n = true then .ok (.ref M1.length) (M1 ++ [.lst (rngD 0 n)]) else .bad
  | _ => .bad
theorem se_listRg1 {a : Expr} {p pos p2 pos2 : Pos} {f : EF} (hc : X.calm = true) (hg : Gl X "list") (hm : X.mg "list" = none) (hg2 : Gl X "range") (hm2 : X.mg "range" = none) (ha : SE X W a f) (na : starEach [a] X.env = (false, eval a X.env) :: starEach [] X.env := by rfl)
    (nb : starEach [.Call (.Name "range" p2) [a] [] pos2] X.env = (false, eval (.Call (.Name "range" p2) [a] [] pos2) X.env) :: starEach [] X.env := by rfl) : SE X W (.Call (.Name "list" p) [.Call (.Name "range" p2) [a] [] pos2] [] pos) (eLRg1 f) :=
  (pe_listRg hc hg hm (prg_1 hg2 hm2 ha na) nb).imp fun σ H Q h => by
    obtain ⟨ι, M, env, A, E, h⟩ := h
    refine tE.mono (tE.seq A E h) fun x H1 ⟨ι1, M1, d, s1, A1, E1, r1, _, h1⟩ => ?_
    cases d with
    | int n =>
      simp only [Rep] at r1
      simp only at h1
      split at h1
      · rename_i hk
        exact ⟨n, r1, (by unfold rgOk at hk; have := of_decide_eq_true hk; exact this), PostO.lst A1 (reps_rg 0 n) (Post.ofO (r := some _) h1)⟩
      · exact h1.elim
    | _ => exact h1.elim
end
end Sh

namespace Sh
open PySem L2

/-! ### in, not in -/
def flatD : D → Bool
  | .non => true
  | .bl _ => true
  | .int _ => true
  | .str _ => true
  | _ => false
def eqF : D → D → Bool
  | .non, .non => true
  | .bl a, .bl b => a == b
  | .bl a, .int b => (if a then 1 else 0) == b
  | .int a, .bl b => a == (if b then 1 else 0)
  | .int a, .int b => a == b
  | .str a, .str b => a == b
  | _, _ => false
theorem flat_rep {K : PySem.W.Frag} {ι : List Addr} {H : Hp} {d : D} {v : V} (r : Rep K ι H d v) (f : flatD d = true) : flatV v = true := by
  cases d <;> first | (simp only [Rep] at r; subst r; rfl) | cases f
theorem eqF_rep {K : PySem.W.Frag} {ι : List Addr} {H : Hp} {d e : D} {v u : V} (r : Rep K ι H d v) (r2 : Rep K ι H e u) (f : flatD d = true) (f2 : flatD e = true) : eqV v u = eqF d e := by
  cases d <;> first | (simp only [Rep] at r; subst r; cases e <;> first | (simp only [Rep] at r2; subst r2; rfl) | cases f2) | cases f
theorem flats_rep {K : PySem.W.Frag} {ι : List Addr} {H : Hp} {x : D} {xv : V} (rx : Rep K ι H x xv) (fx : flatD x = true) : ∀ {l : List D} {vs : List V}, Reps K ι H l vs → l.all flatD = true → vs.all flatV = true ∧ inV xv vs = l.any fun y => eqF y x
  | [], vs, r, f => by simp only [Reps] at r; subst r; exact ⟨rfl, rfl⟩
  | d :: l, vs, r, f => by
    simp only [Reps] at r
    obtain ⟨v, q, rfl, h1, h2⟩ := r
    simp only [List.all_cons, Bool.and_eq_true] at f
    obtain ⟨a, b⟩ := flats_rep rx fx h2 f.2
    refine ⟨by simp [List.all_cons, flat_rep h1 f.1, a], ?_⟩
    unfold inV at b ⊢
    rw [List.any_cons, List.any_cons, eqF_rep h1 rx f.1 fx, b]
def inSeq (M : Store) (x y : D) : Option Bool := match y with
  | .tup l => if (flatD x && l.all flatD) = true then some (l.any fun z => eqF z x) else none
  | .ref n => match lstM M n with
    | some l => if (flatD x && l.all flatD) = true then some (l.any fun z => eqF z x) else match pyd M 8 x, pyd M 9 (.ref n) with
      | some d, some (.list ds) => if (SeqAt.shaped d && SeqAt.shaped (.list ds)) = true then some (ds.any fun z => PyData.eqv z d) else none
      | _, _ => none
    | none => none
  | _ => none
def oIn (neg : Bool) : O2 := fun x y M => match y with
  | .ref n => match dctM M n with
    | some _ => oInD neg x y M
    | none => (inSeq M x y).map fun b => (.bl (if neg then !b else b), M)
  | _ => (inSeq M x y).map fun b => (.bl (if neg then !b else b), M)
def rInD2 (K : PySem.W.Frag) (neg : Bool) : R2 := fun x y H Q => ∃ d ds, Dp K H x d ∧ Dp K H y (.list ds) ∧ SeqAt.shaped d = true ∧ SeqAt.shaped (.list ds) = true ∧ Q (.bl (if neg then !(ds.any fun z => PyData.eqv z d) else ds.any fun z => PyData.eqv z d)) H
section
variable {X : Cx} {W : WX}
theorem inSeq_of {neg : Bool} {ι : List Addr} {M : Store} {H : Hp} {d e : D} {x y : V} {Q : VK} (A : Abs X.K ι H X.prog X.w M) (r : Rep X.K ι H d x) (r2 : Rep X.K ι H e y) (q : PostO (cgd X) ι H ((inSeq M d e).map fun b => (.bl (if neg then !b else b), M)) Q) :
    rIn X.K neg x y H Q ∨ rInD2 X.K neg x y H Q := by
  cases em : inSeq M d e with
  | none => rw [em] at q; exact q.elim
  | some b =>
    rw [em] at q
    have qq : Q (.bl (if neg then !b else b)) H := q ι H _ Step.refl A (by simp only [Rep])
    cases e with
    | tup l =>
      simp only [inSeq] at em
      split at em
      · rename_i hf
        simp only [Bool.and_eq_true] at hf
        simp only [Rep] at r2
        obtain ⟨p, vs, rfl, h1, h2⟩ := r2
        obtain ⟨a, b'⟩ := flats_rep r hf.1 h2 hf.2
        cases em
        exact .inl ⟨p, vs, rfl, .inr h1, flat_rep r hf.1, a, by rw [b']; exact qq⟩
      · cases em
    | ref n =>
      have r20 := r2
      simp only [Rep] at r2
      obtain ⟨a, ea, rfl⟩ := r2
      simp only [inSeq] at em
      cases el : lstM M n with
      | none => rw [el] at em; cases em
      | some l =>
        simp only [el] at em
        obtain ⟨vs, h1, h2⟩ := lst_get A ea el
        split at em
        · rename_i hf
          simp only [Bool.and_eq_true] at hf
          obtain ⟨a', b'⟩ := flats_rep r hf.1 h2 hf.2
          cases em
          exact .inl ⟨a, vs, rfl, .inl h1, flat_rep r hf.1, a', by rw [b']; exact qq⟩
        · cases e1 : pyd M 8 d with
          | none => rw [e1] at em; cases em
          | some dd =>
            cases e2 : pyd M 9 (.ref n) with
            | none => rw [e1, e2] at em; cases em
            | some ee =>
              rw [e1, e2] at em
              cases ee with
              | list ds =>
                simp only at em
                split at em
                · rename_i hs
                  simp only [Bool.and_eq_true] at hs
                  cases em
                  exact .inr ⟨dd, ds, dp_of (G := cgd X) A 8 _ _ _ r e1, dp_of (G := cgd X) A 9 _ _ _ r20 e2, hs.1, hs.2, qq⟩
                · cases em
              | _ => cases em
    | _ => cases em
theorem so_in (hu : X.A.units + 65 < cLine) : SOp X (compareOp .In) (oIn false) := (OpR.or (so_inD (by omega)) (OpR.or op_in_seq (op_inD hu))).imp fun x y H Q ⟨ι, M, d, e, A, r, r2, q⟩ => by
  unfold oIn at q
  have fin : PostO (cgd X) ι H ((inSeq M d e).map fun b => (.bl (if false then !b else b), M)) Q → rIn X.K false x y H Q ∨ rInD X.K x y H Q := fun q => (inSeq_of A r r2 q).imp id fun ⟨a, b, h1, h2, h3, h4, h5⟩ => ⟨a, b, h1, h2, h3, h4, h5⟩
  cases e with
  | ref n =>
    simp only at q
    cases em : dctM M n with
    | none => rw [em] at q; exact .inr (fin q)
    | some kvs => rw [em] at q; exact .inl ⟨ι, M, d, .ref n, A, r, r2, q⟩
  | _ => exact .inr (fin q)
theorem so_notIn (hu : X.A.units + 65 < cLine) : SOp X (compareOp .NotIn) (oIn true) := (OpR.or (so_notInD (by omega)) (OpR.or op_notIn_seq (op_notInD hu))).imp fun x y H Q ⟨ι, M, d, e, A, r, r2, q⟩ => by
  unfold oIn at q
  have fin : PostO (cgd X) ι H ((inSeq M d e).map fun b => (.bl (if true then !b else b), M)) Q → rIn X.K true x y H Q ∨ rNotInD X.K x y H Q := fun q => (inSeq_of A r r2 q).imp id fun ⟨a, b, h1, h2, h3, h4, h5⟩ => ⟨a, b, h1, h2, h3, h4, h5⟩
  cases e with
  | ref n =>
    simp only at q
    cases em : dctM M n with
    | none => rw [em] at q; exact .inr (fin q)
    | some kvs => rw [em] at q; exact .inl ⟨ι, M, d, .ref n, A, r, r2, q⟩
  | _ => exact .inr (fin q)
/-! ### is, is not -/
def oIs (neg : Bool) : O2 := fun x y M => match y with
  | .non => some (.bl (if neg then !decide (x = .non) else decide (x = .non)), M)
  | .bl b => match x with
    | .bl a => some (.bl (if neg then !decide (a = b) else decide (a = b)), M)
    | _ => none
  | _ => none
theorem is_of {neg : Bool} {ι : List Addr} {M : Store} {H : Hp} {d e : D} {x y : V} {Q : VK} (A : Abs X.K ι H X.prog X.w M) (r : Rep X.K ι H d x) (r2 : Rep X.K ι H e y) (q : PostO (cgd X) ι H (oIs neg d e M) Q) :
    (y = .non ∧ Q (.bl (if neg then !decide (x = .non) else decide (x = .non))) H) ∨ (∃ a b : Bool, x = .bl a ∧ y = .bl b ∧ Q (.bl (if neg then !decide (a = b) else decide (a = b))) H) := by
  cases e with
  | non =>
    simp only [Rep] at r2
    have qq := q ι H _ Step.refl A (by simp only [Rep]; exact rfl)
    refine .inl ⟨r2, ?_⟩
    have : decide (x = V.non) = decide (d = D.non) := by
      cases d with
      | non => simp only [Rep] at r; subst r; rfl
      | bl b => simp only [Rep] at r; subst r; rfl
      | int b => simp only [Rep] at r; subst r; rfl
      | str b => simp only [Rep] at r; subst r; rfl
      | tup l => simp only [Rep] at r; obtain ⟨_, _, rfl, _⟩ := r; rfl
      | ref n => simp only [Rep] at r; obtain ⟨_, _, rfl⟩ := r; rfl
      | ty n => simp only [Rep] at r; subst r; rfl
    rw [this]; exact qq
  | bl b =>
    cases d with
    | bl a =>
      simp only [Rep] at r r2
      exact .inr ⟨a, b, r, r2, q ι H _ Step.refl A (by simp only [Rep])⟩
    | _ => exact q.elim
  | _ => exact q.elim
theorem so_is : SOp X (compareOp .Is) (oIs false) := (OpR.or op_isN op_isBl).imp fun x y H Q ⟨ι, M, d, e, A, r, r2, q⟩ => by
  rcases is_of A r r2 q with ⟨h1, h2⟩ | ⟨a, b, h1, h2, h3⟩
  · exact .inl ⟨h1, h2⟩
  · exact .inr ⟨a, b, h1, h2, h3⟩
theorem so_isNot : SOp X (compareOp .IsNot) (oIs true) := (OpR.or op_notN op_notBl).imp fun x y H Q ⟨ι, M, d, e, A, r, r2, q⟩ => by
  rcases is_of A r r2 q with ⟨h1, h2⟩ | ⟨a, b, h1, h2, h3⟩
  · exact .inl ⟨h1, h2⟩
  · exact .inr ⟨a, b, h1, h2, h3⟩
/-! ### (*a, b) -/
def aStar (a : EF) (r : AF) : AF := fun σ M => (a σ M).bind fun x M1 => match seqM M1 x with
  | some l => (r σ M1).bind fun xs M2 => .ok (l ++ xs) M2
  | none => .bad
theorem Reps.app {K : PySem.W.Frag} {ι : List Addr} {H : Hp} {r : List D} {us : List V} (h2 : Reps K ι H r us) : ∀ {l : List D} {vs : List V}, Reps K ι H l vs → Reps K ι H (l ++ r) (vs ++ us)
  | [], vs, h => by simp only [Reps] at h; subst h; exact h2
  | d :: l, vs, h => by
    simp only [Reps] at h
    obtain ⟨v, q, rfl, a, b⟩ := h
    simp only [List.cons_append, Reps]
    exact ⟨v, q ++ us, rfl, a, Reps.app h2 b⟩
theorem sa_star {e : Expr} {es : List Expr} {f : EF} {fr : AF} {p : Pos} (he : SE X W e f) (hr : SA X W es fr) (hs : starEach (.Starred e p :: es) X.env = (true, eval e X.env) :: starEach es X.env := by rfl) : SA X W (.Starred e p :: es) (aStar f fr) :=
  (StX.pa_star he hr hs).imp fun σ H Q h => by
    obtain ⟨ι, M, env, A, E, h⟩ := h
    refine tE.mono (tE.seq A E h) fun x H1 ⟨ι1, M1, d, s1, A1, E1, r1, _, h1⟩ => ?_
    cases el : seqM M1 d with
    | none => rw [el] at h1; exact h1.elim
    | some l =>
      rw [el] at h1
      obtain ⟨a, vs, rfl, h2, h3⟩ := seq_get A1 r1 el
      refine ⟨a, vs, rfl, h2.symm, tA.mono (tA.seq A1 E1 h1) fun ys H2 ⟨ι2, M2, ds, s2, A2, E2, r2, _, h4⟩ => ?_⟩
      exact h4 ι2 H2 _ Step.refl A2 (Reps.app r2 (h3.ext (s2.ext A1.nt)))
/-! ### l.index(x) -/
def idxF (x : D) : List D → Nat → Option Nat
  | [], _ => none
  | y :: l, k => if eqF y x = true then some k else idxF x l (k + 1)
def idxP (x : PyData) : List PyData → Nat → Option Nat
  | [], _ => none
  | y :: l, k => if PyData.eqv y x = true then some k else idxP x l (k + 1)
theorem idxF_spec {x : D} : ∀ {l : List D} {k j : Nat}, idxF x l k = some j → k ≤ j ∧ (∃ z, l[j - k]? = some z ∧ eqF z x = true) ∧ ∀ (m : Nat) (z' : D), m < j - k → l[m]? = some z' → eqF z' x = false
  | [], k, j, h => by cases h
  | y :: l, k, j, h => by
    unfold idxF at h
    split at h
    · rename_i c
      cases h
      exact ⟨Nat.le_refl _, ⟨y, by simp, c⟩, fun m z' hm => by omega⟩
    · rename_i c
      obtain ⟨a, ⟨z, hz, hz2⟩, b⟩ := idxF_spec h
      refine ⟨by omega, ⟨z, by rw [show j - k = (j - (k + 1)) + 1 by omega]; simpa using hz, hz2⟩, fun m z' hm hz' => ?_⟩
      cases m with
      | zero => simp at hz'; subst hz'; simpa using c
      | succ m => exact b m z' (by omega) (by simpa using hz')
theorem idxP_spec {x : PyData} : ∀ {l : List PyData} {k j : Nat}, idxP x l k = some j → k ≤ j ∧ (∃ z, l[j - k]? = some z ∧ PyData.eqv z x = true) ∧ ∀ (m : Nat) (z' : PyData), m < j - k → l[m]? = some z' → PyData.eqv z' x = false
  | [], k, j, h => by cases h
  | y :: l, k, j, h => by
    unfold idxP at h
    split at h
    · rename_i c
      cases h
      exact ⟨Nat.le_refl _, ⟨y, by simp, c⟩, fun m z' hm => by omega⟩
    · rename_i c
      obtain ⟨a, ⟨z, hz, hz2⟩, b⟩ := idxP_spec h
      refine ⟨by omega, ⟨z, by rw [show j - k = (j - (k + 1)) + 1 by omega]; simpa using hz, hz2⟩, fun m z' hm hz' => ?_⟩
      cases m with
      | zero => simp at hz'; subst hz'; simpa using c
      | succ m => exact b m z' (by omega) (by simpa using hz')
def oIndex : OM := fun o ds M => match o, ds with
  | .ref n, [x] => match lstM M n with
    | some l => if (flatD x && l.all flatD) = true then (idxF x l 0).map fun j => (.int (j : Nat), M) else match pyd M 8 x, pyd M 9 (.ref n) with
      | some d, some (.list ps) => if (SeqAt.shaped d && SeqAt.shaped (.list ps)) = true then (idxP d ps 0).map fun j => (.int (j : Nat), M) else none
      | _, _ => none
    | none => none
  | _, _ => none
theorem Reps.back {K : PySem.W.Frag} {ι : List Addr} {H : Hp} : ∀ {l : List D} {vs : List V} {i : Nat} {v : V}, Reps K ι H l vs → vs[i]? = some v → ∃ d, l[i]? = some d ∧ Rep K ι H d v
  | [], vs, i, v, h, e => by simp only [Reps] at h; subst h; simp at e
  | x :: l, vs, i, v, h, e => by
    simp only [Reps] at h
    obtain ⟨u, r, rfl, h1, h2⟩ := h
    cases i with
    | zero => simp at e; subst e; exact ⟨x, rfl, h1⟩
    | succ i => simp at e; obtain ⟨d, e2, h3⟩ := Reps.back h2 e; exact ⟨d, by simpa using e2, h3⟩
theorem mt_idx (hu : X.A.units + 65 < cLine) : MtR X "list.index" (rOM (cgd X) oIndex) := (MtR.or mt_index (mt_indexD hu)).imp fun x xs H Q ⟨ι, M, d, ds, A, r, rs, q⟩ => by
  match d, ds, r, rs, q with
  | .ref n, [y], r, rs, q =>
    have r0 := r
    simp only [Rep] at r
    obtain ⟨a, ea, rfl⟩ := r
    obtain ⟨yv, rfl, ry⟩ := reps_one rs
    simp only [oIndex] at q
    cases el : lstM M n with
    | none => rw [el] at q; exact q.elim
    | some l =>
      simp only [el] at q
      obtain ⟨vs, h1, h2⟩ := lst_get A ea el
      split at q
      · rename_i hf
        simp only [Bool.and_eq_true] at hf
        cases ej : idxF y l 0 with
        | none => rw [ej] at q; exact q.elim
        | some j =>
          rw [ej] at q
          obtain ⟨_, ⟨z, hz, hz2⟩, hno⟩ := idxF_spec ej
          rw [Nat.sub_zero] at hz hno
          have fl : ∀ {z : D} {i : Nat}, l[i]? = some z → flatD z = true := fun e => List.all_eq_true.mp hf.2 _ (List.mem_of_getElem? e)
          obtain ⟨zv, e3, rz⟩ := h2.get hz
          refine .inl ⟨a, vs, yv, j, zv, rfl, rfl, h1, flat_rep ry hf.1, (flats_rep ry hf.1 h2 hf.2).1, e3, by rw [eqF_rep rz ry (fl hz) hf.1]; exact hz2, fun m z' hm hz' => ?_, q ι H _ Step.refl A (by simp only [Rep])⟩
          obtain ⟨d', hd', rd'⟩ := h2.back hz'
          rw [eqF_rep rd' ry (fl hd') hf.1]
          exact hno m d' hm hd'
      · cases e1 : pyd M 8 y with
        | none => rw [e1] at q; exact q.elim
        | some dd =>
          cases e2 : pyd M 9 (.ref n) with
          | none => rw [e1, e2] at q; exact q.elim
          | some ee =>
            rw [e1, e2] at q
            cases ee with
            | list ps =>
              simp only at q
              split at q
              · rename_i hs
                simp only [Bool.and_eq_true] at hs
                cases ej : idxP dd ps 0 with
                | none => rw [ej] at q; exact q.elim
                | some j =>
                  rw [ej] at q
                  obtain ⟨_, ⟨z, hz, hz2⟩, hno⟩ := idxP_spec ej
                  rw [Nat.sub_zero] at hz hno
                  exact .inr ⟨a, yv, dd, ps, j, z, rfl, rfl, dp_of (G := cgd X) A 9 _ _ _ r0 e2, dp_of (G := cgd X) A 8 _ _ _ ry e1, hs.2, hs.1, hz, hz2, hno, q ι H _ Step.refl A (by simp only [Rep])⟩
              · exact q.elim
            | _ => exact q.elim
  | .ref n, [], r, rs, q => exact q.elim
  | .ref n, _ :: _ :: _, r, rs, q => exact q.elim
  | .non, _, r, rs, q => exact q.elim
  | .bl _, _, r, rs, q => exact q.elim
  | .int _, _, r, rs, q => exact q.elim
  | .str _, _, r, rs, q => exact q.elim
  | .tup _, _, r, rs, q => exact q.elim
  | .ty _, _, r, rs, q => exact q.elim
end
end Sh

namespace Sh
open PySem L2

theorem tk0 {X : Cx} : Takes X W0 := fun u s' ⟨_, _, _, _, _, _, _, _, _, _, _, _, _, _, _, _, w⟩ => w.elim
theorem body_len_own {prog : Program} {w : World} {A : Around} {E : Value → Shared → Prop} {s : Shared} {K : PySem.W.Frag} {x C f : Addr} {ox : Obj} {od : Option Obj} {Q : Value → Shared → Prop} (X : K.In s.heap) (I : PySem.W.InstAt s.heap x ox C od) (hs : PySem.W.findIn K (.ref C) "__len__" = some (some (.ref f))) (hf : PySem.W.isFn K (.ref f) = true)
    (h : wpAny (model prog w) A (call (.ref f) [.ref x]) (fun r s1 => ∃ n t, r = Value.int n t ∧ 0 ≤ n ∧ n < 2 ^ 63 ∧ ∀ t' tk, Q (.int n t') { s1 with toks := tk }) E s) :
    wpAny (model prog w) A (Builtin.«len» ⟨[.ref x], []⟩) (fun fin s' => ∃ r, fin = .done (.ret r) ∧ Q r s') E s := by
  unfold Builtin.«len»
  refine wpAny_bind (m := oneArg "len" _) (wpAny_pure ?_)
  refine wpAny_bind (m := callSpecial? (.ref x) (Str.ofString "__len__")) (PySem.W.special_fn X I hs (beq_iff_eq.mp hf) (wpAny_mono h (fun r s' hr => ?_) fun _ _ y => y))
  obtain ⟨n, t, rfl, h0, h1, hq⟩ := hr
  refine wpAny_bind (wpAny_holding (wpAny_pure ?_))
  refine wpAny_bind (wpAny_letGo ?_)
  show wpAny _ _ (if n < 0 then _ else _) _ _ _
  rw [if_neg (by omega)]
  show wpAny _ _ (if n ≥ 2 ^ 63 then _ else _) _ _ _
  rw [if_neg (by omega)]
  exact wpAny_bind (wpAny_mkInt (wpAny_pure ⟨_, rfl, hq _ _⟩))
theorem call_len_own {prog : Program} {w : World} {A : Around} {E : Value → Shared → Prop} {s : Shared} {K : PySem.W.Frag} {x C f : Addr} {ox : Obj} {od : Option Obj} {Q : Value → Shared → Prop} (X : K.In s.heap) (I : PySem.W.InstAt s.heap x ox C od) (hs : PySem.W.findIn K (.ref C) "__len__" = some (some (.ref f))) (hf : PySem.W.isFn K (.ref f) = true)
    (h : wpAny (model prog w) A.in1 (call (.ref f) [.ref x]) (fun r s1 => ∃ n t, r = Value.int n t ∧ 0 ≤ n ∧ n < 2 ^ 63 ∧ ∀ t' tk, Q (.int n t') { s1 with toks := tk }) E s) :
    wpAny (model prog w) A (call (.builtin "len") [.ref x]) Q E s :=
  Calls.call_function_entry kind_len plain_len entry_len (args_len1 _) (body_len_own X I hs hf h)
/-! ### len -/
def lenR (disp : Nat → Option FF) (d : D) (M : Store) : Res D := match d with
  | .str z => if z.length ≤ sizeLine then .ok (.int z.length) M else .bad
  | .tup l => .ok (.int l.length) M
  | .ref n => match M[n]? with
    | some (.lst l) => .ok (.int l.length) M
    | some (.fz l) => .ok (.int l.length) M
    | some (.dct l) => .ok (.int l.length) M
    | some (.dlk l) => .ok (.int l.length) M
    | some (.ins c _) => match disp c with
      | some ff => match ff [d] M with
        | .ok (.int i) M' => if 0 ≤ i ∧ i < 2 ^ 63 then .ok (.int i) M' else .bad
        | _ => .bad
      | none => .bad
    | _ => .bad
  | _ => .bad
def eLen (disp : Nat → Option FF) (fa : EF) : EF := fun env M => (fa env M).bind fun d M1 => lenR disp d M1
abbrev EF0 : XK := fun _ _ _ => False
def rLenR (G : Gd) (disp : Nat → Option FF) : List V → Hp → VK → Prop := fun xs H Q => ∃ ι M d x, xs = [x] ∧ Abs G.K ι H G.P G.w M ∧ Rep G.K ι H d x ∧ PostF G ι H (lenR disp d M) Q EF0
section
variable {X : Cx} {W : WX}
theorem pass00 : Passes (L2.CX X.prog X.w) X EF0 := fun pins σ H s e s' I c => tk0 e s' (L2.XE.of_call I (fun _ _ _ h => h) c)
theorem fn_raw {k n : Nat} {f : Addr} {ff : FF} (F : Fn X k f n ff) : FnR X.prog X.w X.K X.mg X.base (L2.CX X.prog X.w) k f (spF (cgd X) n ff) := by
  obtain ⟨fd, ps, F, hb⟩ := F
  exact (F.raw hb .nil).imp fun vs H Q E h => by rw [List.append_nil]; exact h
theorem cr_lenR {disp : Nat → Option FF} {k : Nat} (hd : ∀ c ff, disp c = some ff → ∃ f, Meth X.K (ca X.K c) "__len__" f ∧ Fn X k f 1 ff) (hr : Room (k + 1) X.A) : CallR X (.builtin "len") (rLenR (cgd X) disp) := by
  intro pins s σ H xs us Q I r h
  obtain ⟨ι, M, d, x, rfl, A, rd, h⟩ := h
  have seq : ∀ (n : Nat), (∃ a vs, x = .ref a ∧ (SqL X.K H a vs ∨ SqT X.K H a vs) ∧ vs.length = n) → Q (.int n) H → wpAny (model X.prog X.w) X.A (call (.builtin "len") us) (EP X pins σ Q) X.xe s := by
    rintro n ⟨a, vs, rfl, h1, rfl⟩ q
    exact call_len_seq pins s σ H _ us Q I r ⟨a, vs, rfl, h1, q⟩
  have one : ∀ (i : Int) , (∀ (Q' : VK), PostF (cgd X) ι H (.ok (.int i) M) Q' EF0 → Q' (.int i) H) := fun i Q' q => q ι H _ Step.refl A (by simp only [Rep])
  cases d with
  | str z =>
    simp only [Rep] at rd
    subst rd
    simp only [lenR] at h
    split at h
    · rename_i hz
      exact call_len pins s σ H _ us Q I r ⟨.str z, z.length, rfl, ⟨hz, rfl⟩, one _ Q h⟩
    · exact h.elim
  | tup l =>
    simp only [Rep] at rd
    obtain ⟨p, vs, rfl, h1, h2⟩ := rd
    exact seq l.length ⟨p, vs, rfl, .inr h1, h2.length.symm⟩ (one _ Q h)
  | ref n =>
    have rd0 := rd
    simp only [Rep] at rd
    obtain ⟨a, ea, rfl⟩ := rd
    simp only [lenR] at h
    have dict : ∀ (kvs : List (D × D)) (o : Obj), s.heap.get? a = some o → DctAt X.K ι H X.prog X.w a kvs o → Q (.int (kvs.length : Nat)) H → wpAny (model X.prog X.w) X.A (call (.builtin "len") us) (EP X pins σ Q) X.xe s := by
      intro kvs o ho da q
      obtain ⟨xs, hx, pr, hl, hz, hsm⟩ := dct_of I ho da
      rw [Vals.ref1 r]
      rw [sizeLine_eq] at hz
      refine call_len_dictH hsm hx (by omega) ?_
      rw [hl]
      exact ⟨.int (kvs.length : Nat), H, I.tok _, ⟨_, rfl⟩, q⟩
    cases e : M[n]? with
    | none => rw [e] at h; exact h.elim
    | some o =>
      rw [e] at h
      have ho := A.obj n a o ea e
      cases o with
      | lst l =>
        obtain ⟨vs, h1, h2⟩ := sq_lst ho
        exact seq l.length ⟨a, vs, rfl, .inl h1, h2.length.symm⟩ (one _ Q h)
      | fz l =>
        obtain ⟨vs, h1, h2⟩ := sq_fz ho
        exact seq l.length ⟨a, vs, rfl, .inl h1, h2.length.symm⟩ (one _ Q h)
      | dct kvs =>
        obtain ⟨o, h1, h2⟩ := ho
        exact dict kvs o (dct_at I h1) h2 (one _ Q h)
      | dlk kvs =>
        obtain ⟨o, h1, h2⟩ := ho
        exact dict kvs o (dlk_at I h1).2 h2 (one _ Q h)
      | ins c fs =>
        simp only at h
        cases ec : disp c with
        | none => rw [ec] at h; exact h.elim
        | some ff =>
          simp only [ec] at h
          obtain ⟨f, mt, F⟩ := hd c ff ec
          obtain ⟨dx, vs, h1, h2⟩ := ho
          obtain ⟨mA, O, _⟩ := ins_get I.hok h1
          obtain ⟨od, J, _⟩ := O.look
          rw [Vals.ref1 r]
          refine call_len_own I.kIn J mt.at_ mt.fn (wpAny_mono (wpAny_call (SlX.run_at (Q := fun z H' => ∃ i, z = .int i ∧ 0 ≤ i ∧ i < 2 ^ 63 ∧ Q z H') (us := [.ref a]) (ws := [.ref a]) (fn_raw F) hr.in1 I.env0.in1 pass00 I (.cons rfl .nil) ?_)) (fun u s' z => ?_) fun _ _ x => x)
          · refine ⟨ι, M, [.ref n], A, Reps.one rd0, rfl, ?_⟩
            cases ef : ff [.ref n] M with
            | bad => rw [ef] at h; exact h.elim
            | exc _ _ _ => rw [ef] at h; exact h.elim
            | ok y M' =>
              rw [ef] at h
              cases y with
              | int i =>
                simp only at h
                split at h
                · rename_i hi
                  intro ι' H' v st Ab rv
                  have hv := rv
                  simp only [Rep] at hv
                  exact ⟨i, hv, hi.1, hi.2, h ι' H' v st Ab rv⟩
                · exact h.elim
              | _ => exact h.elim
          · obtain ⟨z', H', I', rz, i, rfl, h0, h3, q⟩ := z
            obtain ⟨t, e⟩ := (show ∃ t, u = Value.int i t from rz)
            exact ⟨i, t, e, h0, h3, fun t' tk => ⟨.int i, H', I'.tok _, ⟨_, rfl⟩, q⟩⟩
      | _ => exact h.elim
  | _ => exact h.elim
theorem lenR_nox {disp : Nat → Option FF} {d : D} {M : Store} {c : Nat} {fs : List (Str × D)} {M' : Store} : lenR disp d M ≠ .exc c fs M' := by
  intro h
  unfold lenR at h
  repeat' split at h
  all_goals cases h
theorem se_len {e : Expr} {fe : EF} {p pos : Pos} {disp : Nat → Option FF} {k : Nat} (hd : ∀ c ff, disp c = some ff → ∃ f, Meth X.K (ca X.K c) "__len__" f ∧ Fn X k f 1 ff) (hr : Room (k + 1) X.A) (hg : Gl X "len") (hm : X.mg "len" = none) (ha : SE X W e fe)
    (he : starEach [e] X.env = (false, eval e X.env) :: starEach [] X.env := by rfl) : SE X W (.Call (.Name "len" p) [e] [] pos) (eLen disp fe) :=
  (pe_callB (cr_lenR hd hr) hg hm boot_len (pa_cons ha pa_nil he) (by decide) (by decide) he rfl).imp fun σ H Q h => by
    obtain ⟨ι, M, env, A, E, h⟩ := h
    refine tE.mono (tE.seq A E h) fun x H1 ⟨ι1, M1, d, s1, A1, E1, r1, _, h1⟩ => ?_
    refine ⟨ι1, M1, d, x, rfl, A1, r1, ?_⟩
    cases er : lenR disp d M1 with
    | ok y M' => rw [er] at h1; exact h1
    | exc c fs M' => exact absurd er lenR_nox
    | bad => rw [er] at h1; exact h1

/-! ### isinstance -/
inductive Kd where
  | ty (n : String) | cls (c : Nat)
  deriving DecidableEq
def Kd.val (K : PySem.W.Frag) : Kd → Value
  | .ty n => .type n
  | .cls c => .ref (ca K c)
def Kd.v (K : PySem.W.Frag) : Kd → V
  | .ty n => .ty n
  | .cls c => .ref (ca K c)
/-- the type of a value -/
def kdOf (M : Store) : D → Option Kd
  | .non => some (.ty "NoneType")
  | .bl _ => some (.ty "bool")
  | .int _ => some (.ty "int")
  | .str _ => some (.ty "str")
  | .tup _ => some (.ty "tuple")
  | .ref n => match M[n]? with
    | some (.lst _) => some (.ty "list")
    | some (.fz _) => some (.ty "list")
    | some (.dct _) => some (.ty "dict")
    | some (.dlk _) => some (.ty "dict")
    | some (.set _) => some (.ty "set")
    | some (.ins c _) => some (.cls c)
    | _ => none
  | .ty _ => none
def tyNames : List String := ["NoneType", "bool", "int", "str", "tuple", "list", "dict", "set"]
/-- the answer: cs the own classes that are known not to be below each other -/
def isKd (cs : List Nat) : Kd → Kd → Option Bool
  | .ty a, .ty b => if (tyNames.contains a && tyNames.contains b) = true then some (a == b || (a == "bool" && b == "int")) else none
  | .ty a, .cls c => if (tyNames.contains a && cs.contains c) = true then some false else none
  | .cls c, .ty a => if (tyNames.contains a && cs.contains c) = true then some false else none
  | .cls c, .cls e => if (cs.contains c && cs.contains e) = true then some (c == e) else none
/-- what K must say of the own classes -/
structure ClsOk (K : PySem.W.Frag) (c : Nat) : Prop where
  cl : Cls K (ca K c)
  ha : PySem.W.findIn K (.ref (ca K c)) "__class__" = some (some (.builtin "object.__class__"))
  hn : PySem.W.specialIn K (.builtin "object.__class__") "__get__" = some (some (.builtin "getset_descriptor.__get__"))
  htk : PySem.W.takesIn K (.builtin "object.__class__") = some true
  hm : PySem.W.mroIn K (ca K c) (.type "object") = some true
structure IsiOk (K : PySem.W.Frag) (cs : List Nat) : Prop where
  ok : ∀ c ∈ cs, ClsOk K c
  own : ∀ c ∈ cs, ∀ e ∈ cs, PySem.W.kitOne K (.ref (ca K c)) (.ref (ca K e)) = some (c == e)
  ty : ∀ c ∈ cs, ∀ a ∈ tyNames, PySem.W.kitOne K (.type a) (.ref (ca K c)) = some false
  yt : ∀ c ∈ cs, ∀ a ∈ tyNames, PySem.W.kitOne K (.ref (ca K c)) (.type a) = some false
def clsB (K : PySem.W.Frag) (c : Nat) : Bool := (He.Fa.cls (cnm c)).ok K && (He.eqO (PySem.W.findIn K (.ref (ca K c)) "__class__") (some (some (.builtin "object.__class__"))) &&
  (He.eqO (PySem.W.specialIn K (.builtin "object.__class__") "__get__") (some (some (.builtin "getset_descriptor.__get__"))) && (decide (PySem.W.takesIn K (.builtin "object.__class__") = some true) && decide (PySem.W.mroIn K (ca K c) (.type "object") = some true))))
theorem clsB_ok {K : PySem.W.Frag} {c : Nat} (h : clsB K c = true) : ClsOk K c := by
  obtain ⟨h1, h⟩ := He.ba h
  obtain ⟨h2, h⟩ := He.ba h
  obtain ⟨h3, h⟩ := He.ba h
  obtain ⟨h4, h5⟩ := He.ba h
  exact ⟨He.cls_ok h1, He.eqO_ok h2, He.eqO_ok h3, of_decide_eq_true h4, of_decide_eq_true h5⟩
def isiB (K : PySem.W.Frag) (cs : List Nat) : Bool := (cs.all fun c => clsB K c) && ((cs.all fun c => cs.all fun e => decide (PySem.W.kitOne K (.ref (ca K c)) (.ref (ca K e)) = some (c == e))) &&
  ((cs.all fun c => tyNames.all fun a => decide (PySem.W.kitOne K (.type a) (.ref (ca K c)) = some false)) && (cs.all fun c => tyNames.all fun a => decide (PySem.W.kitOne K (.ref (ca K c)) (.type a) = some false))))
theorem isiB_ok {K : PySem.W.Frag} {cs : List Nat} (h : isiB K cs = true) : IsiOk K cs := by
  obtain ⟨h1, h⟩ := He.ba h
  obtain ⟨h2, h⟩ := He.ba h
  obtain ⟨h3, h4⟩ := He.ba h
  refine ⟨fun c m => clsB_ok (List.all_eq_true.mp h1 c m), fun c m e n => ?_, fun c m a n => ?_, fun c m a n => ?_⟩
  · exact of_decide_eq_true (List.all_eq_true.mp (List.all_eq_true.mp h2 c m) e n)
  · exact of_decide_eq_true (List.all_eq_true.mp (List.all_eq_true.mp h3 c m) a n)
  · exact of_decide_eq_true (List.all_eq_true.mp (List.all_eq_true.mp h4 c m) a n)
theorem kitB_all : ∀ a ∈ tyNames, ∀ b ∈ tyNames, kitB a b = some (a == b || (a == "bool" && b == "int")) := by decide +kernel
theorem isKd_ok {K : PySem.W.Frag} {cs : List Nat} (O : IsiOk K cs) {a b : Kd} {r : Bool} (h : isKd cs a b = some r) : PySem.W.kitOne K (a.val K) (b.val K) = some r := by
  have mem : ∀ {x : String} {l : List String}, l.contains x = true → x ∈ l := fun h => by simpa using h
  have memN : ∀ {x : Nat} {l : List Nat}, l.contains x = true → x ∈ l := fun h => by simpa using h
  cases a with
  | ty a =>
    cases b with
    | ty b =>
      simp only [isKd] at h
      split at h
      · rename_i hc
        simp only [Bool.and_eq_true] at hc
        cases h
        exact kit_ty (kitB_all a (mem hc.1) b (mem hc.2))
      · cases h
    | cls c =>
      simp only [isKd] at h
      split at h
      · rename_i hc
        simp only [Bool.and_eq_true] at hc
        cases h
        exact O.ty c (memN hc.2) a (mem hc.1)
      · cases h
  | cls c =>
    cases b with
    | ty a =>
      simp only [isKd] at h
      split at h
      · rename_i hc
        simp only [Bool.and_eq_true] at hc
        cases h
        exact O.yt c (memN hc.2) a (mem hc.1)
      · cases h
    | cls e =>
      simp only [isKd] at h
      split at h
      · rename_i hc
        simp only [Bool.and_eq_true] at hc
        cases h
        exact O.own c (memN hc.1) e (memN hc.2)
      · cases h
def isAny (cs : List Nat) (k : Kd) : List Kd → Option Bool
  | [] => some false
  | t :: r => match isKd cs k t with
    | some true => some true
    | some false => isAny cs k r
    | none => none
theorem isAny_ok {K : PySem.W.Frag} {cs : List Nat} (O : IsiOk K cs) {k : Kd} : ∀ {ts : List Kd} {r : Bool}, isAny cs k ts = some r → PySem.W.kitAny K (k.val K) (ts.map (Kd.val K)) = some r
  | [], r, h => by cases h; rfl
  | t :: ts, r, h => by
    unfold isAny at h
    cases e : isKd cs k t with
    | none => rw [e] at h; cases h
    | some b =>
      rw [e] at h
      refine kitAny_cons (isKd_ok O e) (fun hb => ?_) fun hb => ?_
      · subst hb; exact isAny_ok O h
      · subst hb; cases h; rfl
/-- what isinstance asks of the value -/
theorem kit_rep {pins : List (Addr × Obj)} {σ : St} {H : Hp} {s : Shared} {ι : List Addr} {M : Store} {cs : List Nat} {d : D} {x : V} {u : Value} {k : Kd} (I : Inv X pins σ H s) (A : Abs X.K ι H X.prog X.w M) (O : IsiOk X.K cs) (rd : Rep X.K ι H d x) (rx : RelV x u) (hk : kdOf M d = some k) (hm : ∀ c, k = .cls c → c ∈ cs) :
    ∃ P : Heap → Prop, PySem.W.KitX X.K u (k.val X.K) P ∧ P s.heap ∧ u ≠ .builtin "__main__.__loader__#opaque" := by
  cases d with
  | non => simp only [Rep] at rd; subst rd; cases hk; exact kit_of I rx (.base .non)
  | bl b => simp only [Rep] at rd; subst rd; cases hk; exact kit_of I rx (.base (.bl _))
  | int b => simp only [Rep] at rd; subst rd; cases hk; exact kit_of I rx (.base (.int _))
  | str b => simp only [Rep] at rd; subst rd; cases hk; exact kit_of I rx (.base (.str _))
  | tup l =>
    simp only [Rep] at rd
    obtain ⟨p, vs, rfl, h1, h2⟩ := rd
    cases hk
    rcases h1 with (h1 | ⟨o, h1⟩) | ⟨o, its, n, h1, hc, _⟩
    · exact kit_of I rx (.base (.tup h1))
    · exact kit_of I rx (.fTuple h1)
    · exact kit_of I rx (.kTuple h1 hc)
  | ref n =>
    simp only [Rep] at rd
    obtain ⟨a, ea, rfl⟩ := rd
    cases (show u = Value.ref a from rx)
    simp only [kdOf] at hk
    cases e : M[n]? with
    | none => rw [e] at hk; cases hk
    | some o =>
      rw [e] at hk
      have ho := A.obj n a o ea e
      cases o with
      | lst l => obtain ⟨vs, h1, h2⟩ := ho; cases hk; exact kit_of (x := V.ref a) I rfl (.base (.lst h1))
      | fz l => obtain ⟨vs, o, h1, h2⟩ := ho; cases hk; exact kit_of (x := V.ref a) I rfl (.base (.frz h1))
      | dct kvs => obtain ⟨o, h1, h2⟩ := ho; cases hk; exact ⟨_, PySem.W.kitx_dict, ⟨o, dct_at I h1, h2.2.2.1.1⟩, fun z => nomatch z⟩
      | dlk kvs => obtain ⟨o, h1, h2⟩ := ho; cases hk; exact ⟨_, PySem.W.kitx_dict, ⟨o, (dlk_at I h1).2, h2.2.2.1.1⟩, fun z => nomatch z⟩
      | set l => obtain ⟨S, h1, h2⟩ := ho; cases hk; exact kit_of (x := V.ref a) I rfl (.set h1)
      | ins c fs =>
        obtain ⟨dx, vs, h1, h2⟩ := ho
        cases hk
        have k := O.ok c (hm c rfl)
        exact kit_of (x := V.ref a) I rfl (.base (.ins h1 k.cl k.ha k.hn k.htk k.hm))
      | dead => cases hk
  | ty n => cases hk
/-- isinstance(x, C) with one class; with a tuple of classes -/
def isiD (cs : List Nat) (ts : List Kd) (M : Store) (d : D) : Option Bool := match kdOf M d with
  | some (.ty n) => isAny cs (.ty n) ts
  | some (.cls c) => if cs.contains c = true then isAny cs (.cls c) ts else none
  | none => none
def eIsi (cs : List Nat) (ts : List Kd) (fe : EF) : EF := fun env M => (fe env M).bind fun d M1 => match isiD cs ts M1 d with
  | some b => .ok (.bl b) M1
  | none => .bad
theorem isiD_of {cs : List Nat} {ts : List Kd} {M : Store} {d : D} {b : Bool} (h : isiD cs ts M d = some b) : ∃ k, kdOf M d = some k ∧ isAny cs k ts = some b ∧ ∀ c, k = .cls c → c ∈ cs := by
  unfold isiD at h
  cases e : kdOf M d with
  | none => rw [e] at h; cases h
  | some k =>
    rw [e] at h
    cases k with
    | ty n => exact ⟨_, rfl, h, fun c z => by cases z⟩
    | cls c =>
      simp only at h
      split at h
      · rename_i hc
        exact ⟨_, rfl, h, fun c' z => by cases z; simpa using hc⟩
      · cases h
def rIsD (G : Gd) (cs : List Nat) (t : Kd) : List V → Hp → VK → Prop := fun xs H Q => ∃ ι M d x b, xs = [x, t.v G.K] ∧ Abs G.K ι H G.P G.w M ∧ Rep G.K ι H d x ∧ isiD cs [t] M d = some b ∧ Q (.bl b) H
theorem Kd.clsV {K : PySem.W.Frag} (t : Kd) : ClsV (t.v K) (t.val K) := by
  cases t with
  | ty n => exact .ty n
  | cls c => exact .own _
theorem kitAny_one {K : PySem.W.Frag} {t c : Value} {b : Bool} (h : PySem.W.kitAny K t [c] = some b) : PySem.W.kitOne K t c = some b := by
  unfold PySem.W.kitAny at h
  cases e : PySem.W.kitOne K t c with
  | none => rw [e] at h; cases h
  | some r =>
    rw [e] at h
    cases r with
    | true => exact h
    | false => exact h
theorem cr_isD {cs : List Nat} (O : IsiOk X.K cs) (t : Kd) : CallR X (.builtin "isinstance") (rIsD (cgd X) cs t) := by
  intro pins s σ H xs us Q I r h
  obtain ⟨ι, M, d, x, b, rfl, A, rd, hb, q⟩ := h
  obtain ⟨u1, u2, rfl, r1, r2⟩ := vals2 r
  have e2 := t.clsV.eq r2
  subst e2
  obtain ⟨k, h1, h2, h3⟩ := isiD_of hb
  obtain ⟨P, Z, p, hx⟩ := kit_rep I A O rd r1 h1 h3
  exact PySem.W.kia_one Z I.kIn p (kitAny_one (isAny_ok O h2)) hx fun tk => ⟨.bl b, H, I.tok tk, rfl, q⟩
theorem se_isi {e c : Expr} {fe : EF} {p pos : Pos} {cs : List Nat} {t : Kd} (O : IsiOk X.K cs) (hg : Gl X "isinstance") (hm : X.mg "isinstance" = none) (ha : SE X W e fe) (hc : PE X c (tC (t.v X.K)))
    (he : starEach [e, c] X.env = (false, eval e X.env) :: starEach [c] X.env := by rfl) (he2 : starEach [c] X.env = (false, eval c X.env) :: starEach [] X.env := by rfl) (hpl : (backTo pos (starEach [c] X.env)).any (·.1) = false := by rfl) : SE X W (.Call (.Name "isinstance" p) [e, c] [] pos) (eIsi cs [t] fe) :=
  (pe_callB (cr_isD O t) hg hm PyProof.Rows.boot_isinstance (pa_cons ha (pa_cons hc pa_nil he2) he) (by decide) (by decide) he hpl).imp fun σ H Q h => by
    obtain ⟨ι, M, env, A, E, h⟩ := h
    refine tE.mono (tE.seq A E h) fun x H1 ⟨ι1, M1, d, s1, A1, E1, r1, _, h1⟩ => ?_
    cases eb : isiD cs [t] M1 d with
    | none => rw [eb] at h1; exact h1.elim
    | some b => rw [eb] at h1; exact ⟨ι1, M1, d, x, b, rfl, A1, r1, eb, h1 ι1 H1 _ Step.refl A1 (by simp only [Rep])⟩
/-- a tuple of classes -/
def rIsDT (G : Gd) (cs : List Nat) (ts : List Kd) : List V → Hp → VK → Prop := fun xs H Q => ∃ ι M d x b tp, xs = [x, .ref tp] ∧ H tp = some (.tup (ts.map (Kd.v G.K))) ∧ Abs G.K ι H G.P G.w M ∧ Rep G.K ι H d x ∧ isiD cs ts M d = some b ∧ Q (.bl b) H
theorem clsV_all {K : PySem.W.Frag} : ∀ ts : List Kd, Paired ClsV (ts.map (Kd.v K)) (ts.map (Kd.val K))
  | [] => .nil
  | t :: ts => .cons t.clsV (clsV_all ts)
theorem cr_isDT {cs : List Nat} (O : IsiOk X.K cs) (ts : List Kd) : CallR X (.builtin "isinstance") (rIsDT (cgd X) cs ts) := by
  intro pins s σ H xs us Q I r h
  obtain ⟨ι, M, d, x, b, tp, rfl, hT, A, rd, hb, q⟩ := h
  obtain ⟨u1, u2, rfl, r1, r2⟩ := vals2 r
  cases (show u2 = Value.ref tp from r2)
  obtain ⟨k, h1, h2, h3⟩ := isiD_of hb
  obtain ⟨P, Z, p, hx⟩ := kit_rep I A O rd r1 h1 h3
  obtain ⟨_, its, rv, o, g1, g2, n, g3⟩ := (show ObjOk X.prog X.w H s.heap tp (.tup (ts.map (Kd.v X.K))) from I.hok tp _ hT)
  have e3 := ClsV.all (clsV_all ts) rv
  subst e3
  obtain ⟨oc, od, dt, sl⟩ := o
  simp only at g2 g3
  subst g2 g3
  exact PySem.W.kia_tup Z I.kIn p g1 (isAny_ok O h2) hx fun tk => ⟨.bl b, H, I.tok tk, rfl, q⟩
def tCs : List V → TA
  | [] => tNil
  | v :: vs => tCons (tC v) (tCs vs)
theorem tCs_of {vs : List V} {σ : St} {H : Hp} {Q : List V → Hp → Prop} (h : Q vs H) : tCs vs σ H Q := by
  induction vs generalizing Q with
  | nil => exact h
  | cons v vs ih => exact ih (Q := fun r H1 => Q (v :: r) H1) h
theorem se_isiT {e : Expr} {es : List Expr} {fe : EF} {p pos tpos : Pos} {n : Nat} {cs : List Nat} {ts : List Kd} (O : IsiOk X.K cs) (hg : Gl X "isinstance") (hm : X.mg "isinstance" = none) (ha : SE X W e fe) (hts : ts.length ≤ sizeLine) (hc : PA X es (tCs (ts.map (Kd.v X.K))))
    (hev : PE X (.Tuple es n tpos) (tTup (tCs (ts.map (Kd.v X.K)))))
    (he : starEach [e, .Tuple es n tpos] X.env = (false, eval e X.env) :: starEach [.Tuple es n tpos] X.env := by rfl) (he2 : starEach [.Tuple es n tpos] X.env = (false, eval (.Tuple es n tpos) X.env) :: starEach [] X.env := by rfl) (hpl : (backTo pos (starEach [.Tuple es n tpos] X.env)).any (·.1) = false := by rfl) :
    SE X W (.Call (.Name "isinstance" p) [e, .Tuple es n tpos] [] pos) (eIsi cs ts fe) :=
  (pe_callB (cr_isDT O ts) hg hm PyProof.Rows.boot_isinstance (pa_cons ha (pa_cons hev pa_nil he2) he) (by decide) (by decide) he hpl).imp fun σ H Q h => by
    obtain ⟨ι, M, env, A, E, h⟩ := h
    refine tE.mono (tE.seq A E h) fun x H1 ⟨ι1, M1, d, s1, A1, E1, r1, _, h1⟩ => ?_
    cases eb : isiD cs ts M1 d with
    | none => rw [eb] at h1; exact h1.elim
    | some b =>
      rw [eb] at h1
      refine tCs_of ⟨by simpa using hts, fun p hp => ?_⟩
      have e : Ext (cgd X).K ι1 H1 ι1 (upd H1 p (.tup (ts.map (Kd.v X.K)))) := by have := ext_new (K := (cgd X).K) (ι := ι1) (u := .tup (ts.map (Kd.v X.K))) hp []; simpa using this
      exact ⟨ι1, M1, d, x, b, p, rfl, upd_same, A1.tmp hp, r1.ext e, eb, h1 ι1 _ _ (step_tmp hp) (A1.tmp hp) (by simp only [Rep])⟩
end
end Sh

namespace Sh
open PySem L2 

/-! ### o[i] = v, o[i] op= v -/
theorem _root_.L2.PSet.or {X : Cx} {t t' : TSet} (h : PSet X t) (h' : PSet X t') : PSet X (fun o i v H Q => t o i v H Q ∨ t' o i v H Q) :=
  fun pins s σ H o i v ov iv u Q I a b c q => q.elim (fun q => h pins s σ H o i v ov iv u Q I a b c q) (fun q => h' pins s σ H o i v ov iv u Q I a b c q)
theorem _root_.L2.PGet.or {X : Cx} {t t' : V → V → Hp → VK → Prop} (h : PGet X t) (h' : PGet X t') : PGet X (fun o i H Q => t o i H Q ∨ t' o i H Q) :=
  fun pins s σ H o i ov iv Q I a b q => q.elim (fun q => h pins s σ H o i ov iv Q I a b q) (fun q => h' pins s σ H o i ov iv Q I a b q)
def oSet : O3 := fun o i v M => match i with
  | .int _ => oSetL o i v M
  | _ => oSetD o i v M
section
variable {X : Cx} {W : WX}
theorem set_all (hu : X.A.units + 64 < cLine) : PSet X (rO3 (cgd X) oSet) := (PSet.or set_lst (set_dct hu)).imp fun o i v H Q ⟨ι, M, a, b, c, A, r1, r2, r3, q⟩ => by
  cases b with
  | int k => exact .inl ⟨ι, M, a, _, c, A, r1, r2, r3, q⟩
  | _ => exact .inr ⟨ι, M, a, _, c, A, r1, r2, r3, q⟩
def rGetL (K : PySem.W.Frag) : V → V → Hp → VK → Prop := fun x y H Q => ∃ p xs i z, x = .ref p ∧ y = .int i ∧ SqL K H p xs ∧ atI xs i = some z ∧ Q z H
theorem pget_lst : PGet X (rGetL X.K) := by
  intro pins s σ H x y v u Q I rx ry h
  obtain ⟨p, xs, i, z, rfl, rfl, hq, he, q⟩ := h
  cases rx
  obtain ⟨t, rfl⟩ := ry
  obtain ⟨its, r, pl, hz⟩ := I.list hq
  obtain ⟨j, h1, h2, h3, h4, h5⟩ := atI_get he
  obtain ⟨w, ew, rw'⟩ := r.get h2
  have hl := r.length
  have hn := line63
  have fin : EP X pins σ Q w s := ⟨z, H, I, rw', q⟩
  by_cases h0 : 0 ≤ i
  · have hj : i.toNat = j := by
      rw [seqIndex_of h0 h5] at h1
      exact Option.some.inj h1
    exact wpAny_getItem_list pl.isList h0 (by omega) (by rw [hj]; simpa using ew) fin
  · have hj : (i + (its.toArray.size : Int)).toNat = j := by
      rw [seqIndex_neg (by omega) h4] at h1
      rw [List.size_toArray, ← hl]
      exact Option.some.inj h1
    exact wpAny_getItem_list_neg pl.isList (by omega) (by rw [List.size_toArray] <;> omega) (by omega) (by rw [hj]; simpa using ew) fin
def oGet : O2 := fun x y M => match y with
  | .int i => match x with
    | .ref n => match lstM M n with
      | some l => (atI l i).map fun d => (d, M)
      | none => none
    | _ => none
  | _ => oGetD x y M
theorem pget_all (hu : X.A.units + 64 < cLine) : PGet X (rO2 (cgd X) oGet) := (PGet.or pget_lst (pget_dct hu)).imp fun x y H Q ⟨ι, M, d, e, A, r1, r2, q⟩ => by
  cases e with
  | int i =>
    simp only [Rep] at r2
    subst r2
    cases d with
    | ref n =>
      simp only [Rep] at r1
      obtain ⟨a, ea, rfl⟩ := r1
      unfold oGet at q
      cases el : lstM M n with
      | none => simp only [el] at q; exact q.elim
      | some l =>
        simp only [el] at q
        obtain ⟨vs, h1, h2⟩ := lst_get A ea el
        cases e : atI l i with
        | none => rw [e] at q; exact q.elim
        | some z =>
          rw [e] at q
          obtain ⟨v, ev, rv⟩ := h2.atI e
          exact .inl ⟨a, vs, i, v, rfl, rfl, h1, ev, PostO.val A rv q⟩
    | _ => exact q.elim
  | _ => exact .inr ⟨ι, M, d, _, A, r1, r2, q⟩
theorem rO3_of {op : O3} {ι : List Addr} {H : Hp} {M : Store} {a b c : D} {o i v : V} {C : Ends} {σ : St} {env : Env} (A : Abs X.K ι H X.prog X.w M) (E : EnvR X.K ι H env σ) (r1 : Rep X.K ι H a o) (r2 : Rep X.K ι H b i) (r3 : Rep X.K ι H c v)
    (h : PostS (cgd X) W ι H (match op a b c M with | some M4 => .ok (.nx env) M4 | none => .bad) C) : rO3 (cgd X) op o i v H fun H3 => C.nx σ H3 := by
  refine ⟨ι, M, a, b, c, A, r1, r2, r3, ?_⟩
  cases e : op a b c M with
  | none => rw [e] at h; exact h
  | some M4 =>
    rw [e] at h
    exact fun ι' H' s A' => h ι' H' σ s A' (E.ext (s.ext A.nt))
theorem ss_store {o i value : Expr} {fo fi fv : EF} {op : O3} {tpos spos : Pos} (ho : SE X W o fo) (hi : SE X W i fi) (hs : PSet X (rO3 (cgd X) op)) (hv : SE X W value fv) (hsw : swapsWith value (some (.Subscript o i tpos)) spos.line X.env = pure false)
    (ha : ∀ v, assign (.Subscript o i tpos) X.env v = (do
      let ov ← holding [v] (eval o X.env)
      let iv ← holding [v, ov] (eval i X.env)
      standAt tpos
      holding [v, ov, iv] (setItem ov iv v)
      release [v, ov, iv] []) := by intro _; rfl) : SS X W (.Assign [.Subscript o i tpos] value spos) (sStore op fv fo fi) :=
  (ps_asg hv (pg_sub ho hi hs ha) hsw).imp fun C σ H h => by
    obtain ⟨ι, M, env, A, E, h⟩ := h
    refine tE.mono (tE.seqS A E h) fun v H1 ⟨ι1, M1, dv, s1, A1, E1, r1, _, h1⟩ => ?_
    refine tE.mono (tE.seqS A1 E1 h1) fun x H2 ⟨ι2, M2, dx, s2, A2, E2, r2, _, h2⟩ => ?_
    refine tE.mono (tE.seqS A2 E2 h2) fun y H3 ⟨ι3, M3, dy, s3, A3, E3, r3, _, h3⟩ => ?_
    exact rO3_of A3 E3 (r2.ext (s3.ext A2.nt)) r3 ((r1.ext (s2.ext A1.nt)).ext (s3.ext A2.nt)) h3
theorem ss_augS {o i e : Expr} {fo fi fv : EF} {get ip : O2} {op : O3} {oper : Operator} {tpos pos : Pos} (ho : SE X W o fo) (hi : SE X W i fi) (hg : PGet X (rO2 (cgd X) get)) (hv : SE X W e fv) (hp : SOp X (inplaceOp oper) ip) (hs : PSet X (rO3 (cgd X) op))
    (ha : ∀ ov iv new, augStore i ov iv new = (do holding [new, ov, iv] (setItem ov iv new); release [new, ov, iv] []; pure .next) := by intros; rfl) : SS X W (.AugAssign (.Subscript o i tpos) oper e pos) (sAugS get ip op fo fi fv) :=
  (ps_augS ho hi hg hv hp hs ha).imp fun C σ H h => by
    obtain ⟨ι, M, env, A, E, h⟩ := h
    refine tE.mono (tE.seqS A E h) fun x H1 ⟨ι1, M1, dx, s1, A1, E1, r1, _, h1⟩ => ?_
    refine tE.mono (tE.seqS A1 E1 h1) fun y H2 ⟨ι2, M2, dy, s2, A2, E2, r2, _, h2⟩ => ?_
    have r12 := r1.ext (s2.ext A1.nt)
    refine ⟨ι2, M2, dx, dy, A2, r12, r2, ?_⟩
    cases eg : get dx dy M2 with
    | none => rw [eg] at h2; exact h2
    | some p =>
      rw [eg] at h2
      intro ι3 H3 z s3 A3 r3
      have h3 := PostS.step s3 h2
      have r13 := r12.ext (s3.ext A2.nt)
      have r23 := r2.ext (s3.ext A2.nt)
      refine tE.mono (tE.seqS A3 (E2.ext (s3.ext A2.nt)) h3) fun v H4 ⟨ι4, M4, dv, s4, A4, E4, r4, _, h4⟩ => ?_
      refine ⟨ι4, M4, p.1, dv, A4, r3.ext (s4.ext A3.nt), r4, ?_⟩
      cases ep : ip p.1 dv M4 with
      | none => rw [ep] at h4; exact h4
      | some p2 =>
        rw [ep] at h4
        intro ι5 H5 z5 s5 A5 r5
        have h5 := PostS.step s5 h4
        exact rO3_of A5 (E4.ext (s5.ext A4.nt)) ((r13.ext (s4.ext A3.nt)).ext (s5.ext A4.nt)) ((r23.ext (s4.ext A3.nt)).ext (s5.ext A4.nt)) r5 h5
end
end Sh

namespace Sh
open PySem L2 

/-! ### dict displays -/
abbrev emptyD : Obj := { cls := .type "dict", data := .dict #[] }
def eDNew : EF := fun _ M => .ok (.ref M.length) (M ++ [.dct []])
theorem dctAt_nil {K : PySem.W.Frag} {ι : List Addr} {H : Hp} {P : Program} {w : World} {a : Addr} (h : (a == sysModules) = false) : DctAt K ι H P w a [] emptyD :=
  ⟨h, Nat.zero_le _, ⟨rfl, rfl, rfl⟩, #[], 0, [], rfl, rfl, List.nodup_nil, .nil⟩
theorem big_ne {a : Addr} (hb : sysModules < a) : (a == sysModules) = false := beq_eq_false_iff_ne.mpr (Ne.symm (Nat.ne_of_lt hb))
/-- {}; the reading: fresh p above the modules -/
def tDN : TE := fun _ H Q => ∀ p, H p = none → (p == sysModules) = false → Q (.ref p) (upd H p (dctO p emptyD))
def putAll (acc : List (D × D)) (kvs : List (D × D)) : List (D × D) := kvs.foldl (fun acc p => putKD acc p.1 p.2) acc
def dPairs : List (EF × EF) → Env → Store → Res (List (D × D))
  | [], _, M => .ok [] M
  | (fk, fv) :: r, env, M => (fk env M).bind fun k M1 => (fv env M1).bind fun v M2 => (dPairs r env M2).bind fun l M3 => .ok ((k, v) :: l) M3
def eDisp (ps : List (EF × EF)) : EF := fun env M => (dPairs ps env M).bind fun kvs M1 => if (kvs.all (fun p => (nkey p.1).isSome) && decide (kvs.length ≤ 15)) = true then .ok (.ref M1.length) (M1 ++ [.dct (putAll [] kvs)]) else .bad
section
variable {X : Cx} {W : WX}
theorem se_dnew {pos : Pos} : SE X W (.Dict [] [] pos) eDNew := ⟨fun pins s σ H Q I h => by
  obtain ⟨ι, M, env, A, E, h⟩ := h
  refine wpAny_Dict_empty ?_
  have hn := I.hok.fresh (Nat.le_refl s.heap.objs.size)
  have I1 := I.laid (a := s.heap.objs.size) (o := dctO s.heap.objs.size emptyD) (t' := s.toks) (h' := s.heap.push emptyD) (fun _ _ q => Heap.get?_push_of_some _ q) (Nat.le_refl _) (dctO_new (X := X) (Heap.get?_push_size _ rfl))
  refine ⟨.ref s.heap.objs.size, _, I1, rfl, h (ι ++ [s.heap.objs.size]) _ _ (step_new hn) (A.new hn ⟨emptyD, upd_same, dctAt_nil (big_ne I.big)⟩) ?_⟩
  simp only [Rep]
  exact ⟨_, by rw [← A.len]; simp, rfl⟩⟩
/-- pairs of values -/
def RepP (K : PySem.W.Frag) (ι : List Addr) (H : Hp) : List (D × D) → List (V × V) → Prop := Paired fun p q => Rep K ι H p.1 q.1 ∧ Rep K ι H p.2 q.2
def tps (G : Gd) (W : WX) (ps : List (EF × EF)) : List (TE × TE) := ps.map fun p => (tE G W p.1, tE G W p.2)
/-- as tE.seq, with the answer kept where it was -/
theorem tE.at {G : Gd} {γ δ : Type} {R2 : List Addr → Hp → γ → δ → Prop} {ι0 ι : List Addr} {H0 H : Hp} {σ : St} {M : Store} {env : Env} {f : EF} {g : D → Store → Res γ} {Q : δ → Hp → Prop} (s0 : Step ι0 H0 ι H) (A : Abs G.K ι H G.P G.w M) (E : EnvR G.K ι H env σ)
    (h : Post G W ι0 H0 R2 σ ((f env M).bind g) Q) :
    tE G W f σ H fun x H1 => ∃ ι1 M1 d, Step ι H ι1 H1 ∧ Abs G.K ι1 H1 G.P G.w M1 ∧ EnvR G.K ι1 H1 env σ ∧ Rep G.K ι1 H1 d x ∧ f env M = .ok d M1 ∧ Post G W ι0 H0 R2 σ (g d M1) Q := by
  refine ⟨ι, M, env, A, E, ?_⟩
  cases e : f env M with
  | ok d M1 =>
    rw [e] at h
    exact fun ι' H' v s a r => ⟨ι', M1, d, s, a, E.ext (s.ext A.nt), r, rfl, h⟩
  | exc c fs M1 => rw [e] at h; exact fun ι' H' cls d s a x => h ι' H' cls d (s0.trans s) a x
  | bad => rw [e] at h; exact h
theorem pairs_at {G : Gd} {δ γ : Type} {R2 : List Addr → Hp → γ → δ → Prop} {ι0 : List Addr} {H0 : Hp} {σ : St} {env : Env} {Q : δ → Hp → Prop} : ∀ {ps : List (EF × EF)} {ι : List Addr} {H : Hp} {M : Store} {g : List (D × D) → Store → Res γ} {T : List (V × V) → Hp → Prop}, Step ι0 H0 ι H → Abs G.K ι H G.P G.w M → EnvR G.K ι H env σ →
    Post G W ι0 H0 R2 σ ((dPairs ps env M).bind g) Q →
    (∀ vs H2 ι2 M2 kvs, Step ι H ι2 H2 → Abs G.K ι2 H2 G.P G.w M2 → RepP G.K ι2 H2 kvs vs → kvs.length = ps.length → Post G W ι0 H0 R2 σ (g kvs M2) Q → T vs H2) → tPairs (tps G W ps) σ H T
  | [], ι, H, M, g, T, s0, A, E, h, k => k [] H ι M [] Step.refl A .nil rfl h
  | (fk, fv) :: r, ι, H, M, g, T, s0, A, E, h, k => by
    have h : Post G W ι0 H0 R2 σ ((fk env M).bind fun x M1 => (((fv env M1).bind fun v M2 => (dPairs r env M2).bind fun l M3 => .ok ((x, v) :: l) M3)).bind g) Q := by
      have e : ((dPairs ((fk, fv) :: r) env M).bind g) = ((fk env M).bind fun x M1 => (((fv env M1).bind fun v M2 => (dPairs r env M2).bind fun l M3 => .ok ((x, v) :: l) M3)).bind g) := by
        show ((fk env M).bind _).bind g = _
        cases fk env M <;> rfl
      rw [e] at h; exact h
    refine tE.mono (tE.at s0 A E h) fun x H1 ⟨ι1, M1, dk, s1, A1, E1, r1, _, h1⟩ => ?_
    have h1 : Post G W ι0 H0 R2 σ ((fv env M1).bind fun v M2 => ((dPairs r env M2).bind fun l M3 => .ok ((dk, v) :: l) M3).bind g) Q := by
      have e : (((fv env M1).bind fun v M2 => (dPairs r env M2).bind fun l M3 => .ok ((dk, v) :: l) M3)).bind g = ((fv env M1).bind fun v M2 => ((dPairs r env M2).bind fun l M3 => .ok ((dk, v) :: l) M3).bind g) := by
        cases fv env M1 <;> rfl
      rw [e] at h1; exact h1
    refine tE.mono (tE.at (s0.trans s1) A1 E1 h1) fun y H2 ⟨ι2, M2, dv, s2, A2, E2, r2, _, h2⟩ => ?_
    have h2 : Post G W ι0 H0 R2 σ ((dPairs r env M2).bind fun l M3 => g ((dk, dv) :: l) M3) Q := by
      have e : ((dPairs r env M2).bind fun l M3 => .ok ((dk, dv) :: l) M3).bind g = ((dPairs r env M2).bind fun l M3 => g ((dk, dv) :: l) M3) := by
        cases dPairs r env M2 <;> rfl
      rw [e] at h2; exact h2
    refine pairs_at (ps := r) ((s0.trans s1).trans s2) A2 E2 h2 fun vs H3 ι3 M3 kvs s3 A3 r3 hl h3 => ?_
    exact k ((x, y) :: vs) H3 ι3 M3 ((dk, dv) :: kvs) ((s1.trans s2).trans s3) A3 (.cons ⟨(r1.ext (s2.ext A1.nt)).ext (s3.ext A2.nt), r2.ext (s3.ext A2.nt)⟩ r3) (by simp [hl]) h3
theorem carriesH_of {pins : List (Addr × Obj)} {σ : St} {H : Hp} {s : Shared} {ι : List Addr} (I : Inv X pins σ H s) : ∀ {kvs : List (D × D)} {ps : List (V × V)} {ws : List (Value × Value)}, RepP X.K ι H kvs ps → VV ps ws → kvs.all (fun p => (nkey p.1).isSome) = true →
    ∃ rs, CarriesH (nestedKind X.prog X.w) s.heap ws rs ∧ Paired (EntR X.K ι H) kvs rs
  | [], [], [], .nil, .nil, _ => ⟨[], trivial, .nil⟩
  | (k, d) :: kvs, (x, y) :: ps, (u, v) :: ws, .cons r1 t1, .cons r2 t2, h => by
    simp only [List.all_cons, Bool.and_eq_true] at h
    obtain ⟨rs, c, q⟩ := carriesH_of I t1 t2 h.2
    obtain ⟨nkk, e⟩ := Option.isSome_iff_exists.mp h.1
    obtain ⟨a, rfl⟩ : ∃ a, x = .ref a := by
      cases k with
      | tup l => have := r1.1; simp only [Rep] at this; obtain ⟨b, _, z, _⟩ := this; exact ⟨b, z⟩
      | _ => simp [nkey] at e
    have eu : u = Value.ref a := r2.1
    exact ⟨(nkk, a, v) :: rs, ⟨eu, rfl, key_is I r1.1 e, c⟩, .cons ⟨e, r1.1, y, r2.2, r1.2⟩ q⟩
theorem putAll_rel {K : PySem.W.Frag} {ι : List Addr} {H : Hp} : ∀ {kvs : List (D × D)} {rs : List (NestedKey × Addr × Value)} {acc : List (D × D)} {xs : List (NestedKey × Addr × Value)}, Paired (EntR K ι H) kvs rs → Paired (EntR K ι H) acc xs → Paired (EntR K ι H) (putAll acc kvs) (storedAllH xs rs)
  | [], [], acc, xs, .nil, q => q
  | (k, d) :: kvs, (x, a, u) :: rs, acc, xs, .cons r t, q => by
    obtain ⟨h1, h2, v, h3, h4⟩ := r
    exact putAll_rel (kvs := kvs) (rs := rs) (acc := putKD acc k d) (xs := storedH xs x a u) t (put_rel h1 h2 h3 h4 q)
theorem putAll_length : ∀ (kvs acc : List (D × D)), (putAll acc kvs).length ≤ acc.length + kvs.length
  | [], acc => Nat.le_refl _
  | p :: kvs, acc => by
    have h1 := putAll_length kvs (putKD acc p.1 p.2)
    have h2 := putKD_length acc p.1 p.2
    show (putAll (putKD acc p.1 p.2) kvs).length ≤ _
    rw [List.length_cons]; omega
theorem dict_pairsA {prog : Program} {w : World} {KK : Type} [DecidableEq KK] {knd : HeapKind prog w KK} {A : Around} {E : Value → Shared → Prop} {s : Shared} {env : PySem.Env} {keys : List (Option Expr)} {values : List Expr} {pos : Pos} {pairs : List (Sem Value × Sem Value)} {Q : Value → Shared → Prop} (hu : knd.room A)
    (hshape : (evalEachOpt keys env).zip ((evalEach values env).map fun v => do let x ← v; standAt pos; pure x) = pairs.map fun p => (some p.1, p.2)) (h0 : pairs ≠ []) (hlen : pairs.length ≤ 15)
    (h : wpAny (model prog w) A (evalPairs pairs) (fun vs s₁ => ∃ ps, CarriesH knd s₁.heap vs ps ∧ s₁.heap.DictOfH knd s.heap.objs.size [] ∧
      ∀ h' tk, h'.DictOfH knd s.heap.objs.size (storedAllH [] ps) → Heap.SameBut s.heap.objs.size s₁.heap h' → Q (.ref s.heap.objs.size) { s₁ with heap := h', toks := tk }) E
      { s with heap := s.heap.push { cls := .type "dict", data := .dict #[] } }) :
    wpAny (model prog w) A (eval (.Dict keys values pos) env) Q E s := by
  rw [arm_eval_Dict, hshape, dictDisplay_pairs pairs h0 (by omega)]
  exact wpAny_bind (wpAny_standAt (wpAny_bind (wpAny_subDictH (knd := knd) (Q := fun d s' => wpAny (model prog w) A (pure (Value.ref d)) Q E s') hu hlen
    (wpAny_mono h (fun vs s₁ h₁ => by obtain ⟨ps, hc, hm, hq⟩ := h₁; exact ⟨ps, hc, hm, fun h' tk a b => wpAny_pure (hq h' tk a b)⟩) fun _ _ e => e))))
theorem rd_dct {H : Hp} {a : Addr} {o : Obj} (h : H a = some (dctO a o)) : ∀ xs, ¬ Rd H a (.tup xs) := fun xs r => by rcases r with r | ⟨o, r⟩ <;> (rw [h] at r; cases r)
theorem nf_dct {H : Hp} {a : Addr} {o : Obj} (h : H a = some (dctO a o)) : NF H a := NF.of h fun _ _ z => nomatch z
theorem se_disp {keys : List (Option Expr)} {values : List Expr} {pos : Pos} {ps : List (EF × EF)} (hu : X.A.units + 64 < cLine) (hp : PPs X pos keys values (tps (cgd X) W ps)) (hall : keys.all (·.isSome) = true) (hl : keys.length = values.length) (h0 : keys ≠ []) (h15 : keys.length ≤ 15) : SE X W (.Dict keys values pos) (eDisp ps) := ⟨fun pins s σ H Q I h => by
  obtain ⟨ι, M, env, A, E, h⟩ := h
  have hn := I.hok.fresh (Nat.le_refl s.heap.objs.size)
  have I1 := I.laid (a := s.heap.objs.size) (o := dctO s.heap.objs.size emptyD) (t' := s.toks) (h' := s.heap.push emptyD) (fun _ _ q => Heap.get?_push_of_some _ q) (Nat.le_refl _) (dctO_new (X := X) (Heap.get?_push_size _ rfl))
  have hD : s.heap.objs.size ∉ ι := A.notin hn
  have hlen := pairTrees_length keys values X.env pos hall hl
  refine dict_pairsA (knd := nestedKind X.prog X.w) (pairs := pairTrees keys values X.env pos) (show X.A.units + 8 < cLine by omega) (zip_pairTrees keys values X.env pos hall hl) (fun he => ?_) (by rw [hlen]; exact h15) ?_
  · rw [he] at hlen
    exact h0 (List.length_eq_zero_iff.mp hlen.symm)
  refine thn (hp.run pins _ σ _ (fun vs H2 => ∃ ι2 M2 kvs, Step ι (upd H s.heap.objs.size (dctO s.heap.objs.size emptyD)) ι2 H2 ∧ Abs X.K ι2 H2 X.prog X.w M2 ∧ RepP X.K ι2 H2 kvs vs ∧ PostE (cgd X) W ι H σ (if (kvs.all (fun p => (nkey p.1).isSome) && decide (kvs.length ≤ 15)) = true then .ok (.ref M2.length) (M2 ++ [.dct (putAll [] kvs)]) else .bad) Q) I1 ?_) fun ws s2 ⟨vs, H2, I2, rel, ι2, M2, kvs, s2', A2, r2, h2⟩ => ?_
  · have e : Ext X.K ι H ι (upd H s.heap.objs.size (dctO s.heap.objs.size emptyD)) := by have := ext_new (K := X.K) (ι := ι) (u := dctO s.heap.objs.size emptyD) hn []; simpa using this
    exact pairs_at (G := cgd X) (step_tmp hn) (A.tmp hn) (E.ext e) h fun vs H2 ι2 M2 kvs s2 A2 r2 hl h2 => ⟨ι2, M2, kvs, s2, A2, r2, h2⟩
  · split at h2
    · rename_i hk
      simp only [Bool.and_eq_true, decide_eq_true_eq] at hk
      obtain ⟨hD2, e2⟩ := s2'.out hD upd_same
      obtain ⟨rs, c, pr⟩ := carriesH_of I2 r2 rel hk.1
      refine ⟨rs, c, ⟨emptyD, #[], 0, dct_at I2 e2, ⟨rfl, rfl, rfl⟩, rfl, rfl, by simp, List.nodup_nil⟩, fun h' tk dk sb => ?_⟩
      obtain ⟨o', es, ep, ho', hex, hdt, hes, _, hnd⟩ := dk
      have I' : Inv X pins σ (upd H2 s.heap.objs.size (dctO s.heap.objs.size o')) { s2 with heap := h', toks := tk } :=
        I2.write (x := s.heap.objs.size) (e := s.heap.objs.size) (by rw [e2]; exact mut_dct) (.inl rfl) (fun b ob hb e => (sb.2 b hb).trans e) ⟨o', ho'⟩ (dctO_new ho')
      have x3 : Ext X.K ι2 H2 ι2 (upd H2 s.heap.objs.size (dctO s.heap.objs.size o')) := ext_off (rd_dct e2) (nf_dct e2)
      have s0 : Step ι H ι2 H2 := (step_tmp hn).trans s2'
      have A3 := abs_off (u := dctO s.heap.objs.size o') A2 hD2 (rd_dct e2) (nf_dct e2)
      have hlen2 := putAll_length kvs []
      refine ⟨.ref s.heap.objs.size, _, I', rfl, h2 (ι2 ++ [s.heap.objs.size]) _ _ ((s0.off hn).add hn) (A3.add hD2 ⟨o', upd_same, big_ne I.big, ?_, hex, es, ep, _, hdt, hes, hnd, ?_⟩) ?_⟩
      · rw [sizeLine_eq]; simp at hlen2; omega
      · exact Paired.mapP (putAll_rel pr .nil) fun _ _ z => (z.ext x3).ext (ext_add _)
      · simp only [Rep]
        exact ⟨_, by rw [← A2.len]; simp, rfl⟩
    · exact h2.elim⟩
end
end Sh

namespace Sh
open PySem L2 PyProof.Rows

/-! ### a dict walked: it stays locked from then on -/
/-- the keys of the locked dict at d -/
def ItK (d : Addr) (o : Obj) (es : Array DictEntry) : It :=
  ⟨fun i H => H d = some (.frz o (dctO d o)) ∧ i < es.size, fun i H x H' => H' = H ∧ ∃ (hi : i < es.size) (q : Addr), es[i].key = .ref q ∧ x = .ref q, fun i H => H d = some (.frz o (dctO d o)) ∧ es.size ≤ i⟩
/-- the pairs -/
def ItP (d : Addr) (o : Obj) (es : Array DictEntry) : It :=
  ⟨fun i H => H d = some (.frz o (dctO d o)) ∧ i < es.size, fun i H x H' => ∃ (T : Addr) (hi : i < es.size) (q : Addr) (v : V), es[i].key = .ref q ∧ RelV v es[i].val ∧ x = .ref T ∧ H T = none ∧ H' = upd H T (.tup [.ref q, v]), fun i H => H d = some (.frz o (dctO d o)) ∧ es.size ≤ i⟩
/-- each key is a tuple's address -/
def KeysRef (es : Array DictEntry) : Prop := ∀ (i : Nat) (h : i < es.size), (∃ q, es[i].key = .ref q) ∧ ∃ v : V, RelV v es[i].val
section
variable {P : Program} {w : World} {K : PySem.W.Frag} {tg : Expr} {d : Addr} {o : Obj} {es : Array DictEntry} {ep : Nat}
theorem turn_K (it : Addr) (hod : o.data = .dict es ep) (hx : o.ExactDict) (hr : KeysRef es) : Turn P w K tg (ItK d o es) [it] it (fun i h => h.IsKeyIter it d i es.size ep) where
  mem := by simp
  obj := fun i h st b hb => by
    have e : b = it := by simpa using hb
    subst e
    obtain ⟨oi, e, c, dd⟩ := st
    exact ⟨oi, e, fun v z => by rw [dd] at z; cases z⟩
  keep := fun i h h' st k => st.at fun oi e => k it (by simp) oi e
  item := by
    intro X hP hw hK hc i pins s σ H E I hf st hg
    subst hP hw hK
    obtain ⟨hd, hi⟩ := hg
    obtain ⟨f0, f1, f2, f3, f4, f5⟩ := hf it (by simp)
    obtain ⟨⟨q, hq⟩, _⟩ := hr i hi
    refine wpAny_pyNext_keys_item_raw st ⟨o, (dlk_at I hd).2, hx, hod⟩ hi fun h' st' sb => ?_
    have I1 : Inv X pins σ H { s with heap := h' } := I.turned (t' := s.toks) (fun b ob hb e => (sb.2 b hb).trans e) f0 f1 f3 f4 f5
    obtain ⟨oi, e, c, dd⟩ := id st'
    exact ⟨es[i].key, rfl, go_of (s := { s with heap := h' }) e c dd (by decide) ⟨.ref q, H, I1, hq, ⟨rfl, hi, q, hq, rfl⟩, st', fun b hb => (hf b hb).1⟩⟩
  done := by
    intro X hP hw hK hc i pins s σ H E I hf st hg
    subst hP hw hK
    obtain ⟨hd, hi⟩ := hg
    obtain ⟨f0, f1, f2, f3, f4, f5⟩ := hf it (by simp)
    exact wpAny_pyNext_keys_end_raw (I.ok.hd hc) st ⟨o, (dlk_at I hd).2, hx, hod⟩ hi fun h' eb => ⟨rfl, I.turned (t' := s.toks) (fun b ob hb e => eb b ob hb e) f0 f1 f3 f4 f5⟩
  self := fun A i s Q E st h => by
    refine wpAny_pyIter_slot st.typeIs F.slot_dict_keyiterator_iter (wpAny_call_entry F.slot_dict_keyiterator_iter st.typeIs F.entry_dict_keyiterator_iter ?_ (F.args_dict_keyiterator_iter_1 _))
    show wpAny _ _ (ret (.ref it)) _ _ s
    exact wpAny_pure ⟨_, rfl, "dict_keyiterator", _, st.typeIs, F.slot_dict_keyiterator_next.lookup, h⟩
theorem turn_P {elts : List Expr} {kk : Nat} {tpos : Pos} (it : Addr) (hod : o.data = .dict es ep) (hx : o.ExactDict) (hr : KeysRef es) :
    Turn P w K (.Tuple elts kk tpos) (ItP d o es) [it] it (fun i h => ∃ ok ov, IsItemIter h it d i es.size ep ok ov) where
  mem := by simp
  obj := fun i h st b hb => by
    have e : b = it := by simpa using hb
    subst e
    obtain ⟨ok, ov, e⟩ := st
    exact ⟨_, e, fun v z => nomatch z⟩
  keep := fun i h h' st k => let ⟨ok, ov, e⟩ := st; ⟨ok, ov, k it (by simp) _ e⟩
  item := by
    intro X hP hw hK hc i pins s σ H E I hf st hg
    subst hP hw hK
    obtain ⟨hd, hi⟩ := hg
    obtain ⟨⟨q, hq⟩, v, hv⟩ := hr i hi
    obtain ⟨ok, ov, he⟩ := st
    have hlt : it < s.heap.objs.size := Heap.lt_size he
    refine wpAny_pyNext_items_item_raw he ⟨o, (dlk_at I hd).2, hx, hod⟩ hi fun h' ho hT hz hk => ?_
    refine ⟨_, rfl, wpAny_letOwnedTupleGo_items (s := { s with heap := h' }) ho fun h'' he' sb => ?_⟩
    have hT2 : h''.get? s.heap.objs.size = some { cls := .type "tuple", data := .seq #[es[i].key, es[i].val] } := (sb.2 _ (Nat.ne_of_gt hlt)).trans hT
    have new : ObjOk X.prog X.w (upd H s.heap.objs.size (.tup [.ref q, v])) h'' s.heap.objs.size (.tup [.ref q, v]) :=
      ⟨by show 2 ≤ sizeLine; decide, [es[i].key, es[i].val], .cons hq (.cons hv .nil), ⟨_, hT2, rfl, _, rfl⟩⟩
    have I1 : Inv X pins σ (upd H s.heap.objs.size (.tup [.ref q, v])) { s with heap := h'' } :=
      I.turnedNew (t' := s.toks) (ch := [it]) (fun b ob hb e => (sb.2 b (by simpa using hb)).trans (hk b ob (by simpa using hb) e)) hf (Nat.le_refl _) new
    refine ⟨.ref s.heap.objs.size, _, I1, rfl, ⟨_, hi, q, v, hq, hv, rfl, I.hok.fresh (Nat.le_refl _), rfl⟩, ⟨es[i].key, es[i].val, he'⟩, fun b hb => ?_⟩
    have e : b = it := by simpa using hb
    rw [e, upd_ne (Nat.ne_of_lt hlt)]
    exact (hf it (by simp)).1
  done := by
    intro X hP hw hK hc i pins s σ H E I hf st hg
    subst hP hw hK
    obtain ⟨hd, hi⟩ := hg
    obtain ⟨f0, f1, f2, f3, f4, f5⟩ := hf it (by simp)
    obtain ⟨ok, ov, he⟩ := st
    exact wpAny_pyNext_items_end_raw (I.ok.hd hc) he ⟨o, (dlk_at I hd).2, hx, hod⟩ hi fun h' eb => ⟨rfl, I.turned (t' := s.toks) (fun b ob hb e => eb b ob hb e) f0 f1 f3 f4 f5⟩
  self := fun A i s Q E st h => let ⟨_, _, e⟩ := st; PySem.W.kcp_self e h
end
/-! #### the lock -/
theorem ext_frz {K : PySem.W.Frag} {ι : List Addr} {H : Hp} {a : Addr} {o o' : Obj} (e : H a = some (dctO a o)) : Ext K ι H ι (upd H a (.frz o' (dctO a o))) := ext_off (rd_dct e) (nf_dct e)
theorem lock_dct {X : Cx} {pins : List (Addr × Obj)} {σ : L2.St} {H : Hp} {s : Shared} {ι : List Addr} {M : Store} {n : Nat} {a : Addr} {kvs : List (D × D)} (I : Inv X pins σ H s) (A : Abs X.K ι H X.prog X.w M) (ea : ι[n]? = some a) (e : M[n]? = some (.dct kvs)) :
    ∃ o, Inv X pins σ (upd H a (.frz o (dctO a o))) s ∧ Step ι H ι (upd H a (.frz o (dctO a o))) ∧ Abs X.K ι (upd H a (.frz o (dctO a o))) X.prog X.w (M.set n (.dlk kvs)) ∧ DctAt X.K ι (upd H a (.frz o (dctO a o))) X.prog X.w a kvs o ∧ s.heap.get? a = some o := by
  obtain ⟨o, h1, h2⟩ := A.obj n a _ ea e
  obtain ⟨od, I1⟩ := I.lock h1 trivial
  have e1 := (dlk_at I1 upd_same).1
  have e2 := dct_at I h1
  have eo : od = o := Option.some.inj (e1.symm.trans e2)
  subst eo
  have ha := List.mem_of_getElem? ea
  have h3 := h2.ext (ext_frz (K := X.K) (ι := ι) (o' := od) h1)
  exact ⟨od, I1, step_upd ha (nf_dct h1), A.upd (nf_dct h1) ea ⟨od, upd_same, h3⟩, h3, e2⟩
theorem frz_dct {X : Cx} {pins : List (Addr × Obj)} {σ : L2.St} {H : Hp} {s : Shared} {ι : List Addr} {M : Store} {n : Nat} {a : Addr} {kvs : List (D × D)} (I : Inv X pins σ H s) (A : Abs X.K ι H X.prog X.w M) (ea : ι[n]? = some a) (e : M[n]? = some (.dlk kvs)) :
    ∃ o, H a = some (.frz o (dctO a o)) ∧ DctAt X.K ι H X.prog X.w a kvs o ∧ s.heap.get? a = some o := by
  obtain ⟨o, h1, h2⟩ := A.obj n a _ ea e
  exact ⟨o, h1, h2, (dlk_at I h1).2⟩
/-- a list, a tuple or a dict, walked -/
def iAny (f : EF) : IF := fun env M => (f env M).bind fun d M1 => match d with
  | .tup l => .ok ⟨l, fun _ => true⟩ M1
  | .ref n => match M1[n]? with
    | some (.lst l) => .ok ⟨l, fun M => decide (M[n]? = some (.lst l))⟩ M1
    | some (.fz l) => .ok ⟨l, fun M => decide (M[n]? = some (.fz l))⟩ M1
    | some (.dct kvs) => .ok ⟨kvs.map (·.1), fun _ => true⟩ (M1.set n (.dlk kvs))
    | some (.dlk kvs) => .ok ⟨kvs.map (·.1), fun _ => true⟩ M1
    | _ => .bad
  | _ => .bad
def pairD (p : D × D) : D := .tup [p.1, p.2]
/-- d.items(), walked -/
def iItm (f : EF) : IF := fun env M => (f env M).bind fun d M1 => match d with
  | .ref n => match M1[n]? with
    | some (.dct kvs) => .ok ⟨kvs.map pairD, fun _ => true⟩ (M1.set n (.dlk kvs))
    | some (.dlk kvs) => .ok ⟨kvs.map pairD, fun _ => true⟩ M1
    | _ => .bad
  | _ => .bad
section
variable {X : Cx} {W : WX}
theorem ent_get {K : PySem.W.Frag} {ι : List Addr} {H : Hp} {P : Program} {w : World} {kvs : List (D × D)} {xs : List (NestedKey × Addr × Value)} {es : Array DictEntry} (he : es.toList = xs.map (entryOfKey (nestedKind P w))) (pr : Paired (EntR K ι H) kvs xs) {i : Nat} {p : D × D} (e : kvs[i]? = some p) (hi : i < es.size) :
    ∃ q v, es[i].key = .ref q ∧ RelV v es[i].val ∧ Rep K ι H p.1 (.ref q) ∧ Rep K ι H p.2 v := by
  obtain ⟨b, hb, h1, h2, v, h3, h4⟩ := paired_get pr e
  have q : es.toList[i]? = some (entryOfKey (nestedKind P w) b) := by rw [he, List.getElem?_map, hb]; rfl
  rw [Array.getElem?_toList, Array.getElem?_eq_getElem hi] at q
  have q := Option.some.inj q
  refine ⟨b.2.1, v, by rw [q]; rfl, by rw [q]; exact h3, h2, h4⟩
theorem ent_size {K : PySem.W.Frag} {ι : List Addr} {H : Hp} {P : Program} {w : World} {kvs : List (D × D)} {xs : List (NestedKey × Addr × Value)} {es : Array DictEntry} (he : es.toList = xs.map (entryOfKey (nestedKind P w))) (pr : Paired (EntR K ι H) kvs xs) : es.size = kvs.length := by
  have h1 : es.size = xs.length := size_of_entries he
  have h2 := Paired.length pr
  omega
theorem ent_keys {K : PySem.W.Frag} {ι : List Addr} {H : Hp} {P : Program} {w : World} {kvs : List (D × D)} {xs : List (NestedKey × Addr × Value)} {es : Array DictEntry} (he : es.toList = xs.map (entryOfKey (nestedKind P w))) (pr : Paired (EntR K ι H) kvs xs) : KeysRef es := fun i hi => by
  have hz := ent_size he pr
  obtain ⟨q, v, h1, h2, _⟩ := ent_get he pr (List.getElem?_eq_getElem (show i < kvs.length by omega)) hi
  exact ⟨⟨q, h1⟩, v, h2⟩
theorem sim_K {G : Gd} {ι0 : List Addr} {H0 : Hp} {a : Addr} {o : Obj} {es : Array DictEntry} {ep : Nat} {kvs : List (D × D)} {xs : List (NestedKey × Addr × Value)} (hf : H0 a = some (.frz o (dctO a o))) (he : es.toList = xs.map (entryOfKey (nestedKind G.P G.w))) (pr : Paired (EntR G.K ι0 H0) kvs xs) :
    SimI G ι0 H0 (ItK a o es) ⟨kvs.map (·.1), fun _ => true⟩ := fun i ι H M x A _ => by
  have hz := ent_size he pr
  have hf' := x.frz _ _ _ hf
  refine ⟨fun d e => ?_, fun e => ⟨hf', by simp at e; omega⟩⟩
  simp only [List.getElem?_map, Option.map_eq_some_iff] at e
  obtain ⟨p, e, rfl⟩ := e
  have hi : i < es.size := by rw [hz]; exact (List.getElem?_eq_some_iff.mp e).1
  refine ⟨⟨hf', hi⟩, fun y H' h => ?_⟩
  obtain ⟨rfl, hi', q, hq, rfl⟩ := h
  obtain ⟨q', v, h1, h2, h3, h4⟩ := ent_get he pr e hi
  have : q' = q := Value.ref.inj (h1.symm.trans hq)
  subst this
  exact ⟨Step.refl, A, h3.ext x⟩
theorem sim_P {G : Gd} {ι0 : List Addr} {H0 : Hp} {a : Addr} {o : Obj} {es : Array DictEntry} {ep : Nat} {kvs : List (D × D)} {xs : List (NestedKey × Addr × Value)} (hf : H0 a = some (.frz o (dctO a o))) (he : es.toList = xs.map (entryOfKey (nestedKind G.P G.w))) (pr : Paired (EntR G.K ι0 H0) kvs xs)
    (un : ∀ (v u : V) (w : Value), RelV v w → RelV u w → v = u) : SimI G ι0 H0 (ItP a o es) ⟨kvs.map pairD, fun _ => true⟩ := fun i ι H M x A _ => by
  have hz := ent_size he pr
  have hf' := x.frz _ _ _ hf
  refine ⟨fun d e => ?_, fun e => ⟨hf', by simp at e; omega⟩⟩
  simp only [List.getElem?_map, Option.map_eq_some_iff] at e
  obtain ⟨p, e, rfl⟩ := e
  have hi : i < es.size := by rw [hz]; exact (List.getElem?_eq_some_iff.mp e).1
  refine ⟨⟨hf', hi⟩, fun y H' h => ?_⟩
  obtain ⟨T, hi', q, v, hq, hv, rfl, hT, rfl⟩ := h
  obtain ⟨q', v', h1, h2, h3, h4⟩ := ent_get he pr e hi
  have : q' = q := Value.ref.inj (h1.symm.trans hq)
  subst this
  have : v' = v := un _ _ _ h2 hv
  subst this
  have ex : Ext G.K ι H ι (upd H T (.tup [.ref q', v'])) := by have := ext_new (K := G.K) (ι := ι) (u := .tup [.ref q', v']) hT []; simpa using this
  refine ⟨step_tmp hT, A.tmp hT, ?_⟩
  simp only [pairD, Rep, Reps]
  exact ⟨T, [.ref q', v'], rfl, SqT.of upd_same, _, _, rfl, (h3.ext x).ext ex, _, _, rfl, (h4.ext x).ext ex, rfl⟩
theorem relV_un {v u : V} {w : Value} (h1 : RelV v w) (h2 : RelV u w) : v = u := by
  cases v <;> cases u <;> simp only [L2.RelV] at h1 h2 <;> first
    | (subst h1; cases h2; rfl)
    | (obtain ⟨t, rfl⟩ := h1; obtain ⟨t', h⟩ := h2; cases h; rfl)
    | (subst h1; obtain ⟨t', h⟩ := h2; cases h)
    | (obtain ⟨t, rfl⟩ := h1; obtain ⟨t', h⟩ := h2; exact nomatch h)
    | (obtain ⟨t, rfl⟩ := h1; exact nomatch h2)
    | (subst h1; cases h2)
    | (obtain ⟨t, rfl⟩ := h1; subst h2; rfl)
theorem si_any {tg e : Expr} {f : EF} (he : SE X W e f) : SI X W tg e (iAny f) := ⟨fun pins s σ H R I h => by
  obtain ⟨ι, M, env, A, E, h⟩ := h
  refine thn (he.run pins s σ H _ I (tE.seq A E h)) fun v s1 ⟨x, H1, I1, r1, ι1, M1, d, st, A1, E1, rd, _, h1⟩ => ?_
  cases d with
  | tup l =>
    simp only [Rep] at rd
    obtain ⟨a, vs, rfl, hq, rr⟩ := rd
    cases (show v = Value.ref a from r1)
    obtain ⟨its, rv, p, hz⟩ := I1.tuple hq
    refine wpAny_pyIter_tuple (show s1.heap.IsTuple a its.toArray from p) ?_
    exact pi_one (tk := s1.toks) I1 _ (turn_tuple a _) ⟨_, Heap.get?_push_size _ rfl, rfl, rfl⟩ (h1 ι1 H1 _ Step.refl A1 (sim_tup hq rr))
  | ref n =>
    simp only [Rep] at rd
    obtain ⟨a, ea, rfl⟩ := rd
    cases (show v = Value.ref a from r1)
    simp only at h1
    cases e : M1[n]? with
    | none => rw [e] at h1; exact h1.elim
    | some ob =>
      rw [e] at h1
      cases ob with
      | lst l =>
        obtain ⟨vs, hq, rr⟩ := sq_lst (A1.obj n a _ ea e)
        obtain ⟨its, rv, p, hz⟩ := I1.list hq
        refine wpAny_pyIter_list p.isList ?_
        exact pi_one (tk := s1.toks) I1 _ (turn_list a _) ⟨_, Heap.get?_push_size _ rfl, rfl, rfl⟩ (h1 ι1 H1 _ Step.refl A1 (sim_lst ea sq_lst))
      | fz l =>
        obtain ⟨vs, hq, rr⟩ := sq_fz (A1.obj n a _ ea e)
        obtain ⟨its, rv, p, hz⟩ := I1.list hq
        refine wpAny_pyIter_list p.isList ?_
        exact pi_one (tk := s1.toks) I1 _ (turn_list a _) ⟨_, Heap.get?_push_size _ rfl, rfl, rfl⟩ (h1 ι1 H1 _ Step.refl A1 (sim_lst ea sq_fz))
      | dct kvs =>
        obtain ⟨o, I2, s2, A2, d2, ho⟩ := lock_dct I1 A1 ea e
        obtain ⟨g1, g2, g3, es, ep, xs, g4, g5, g6, g7⟩ := d2
        refine iter_keys g1 ho g3 g4 (pi_one (tk := s1.toks) I2 _ (turn_K _ g4 g3 (ent_keys g5 g7)) ⟨_, Heap.get?_push_size _ rfl, rfl, rfl⟩ (h1 ι1 _ _ s2 A2 (sim_K (ep := ep) upd_same g5 g7)))
      | dlk kvs =>
        obtain ⟨o, hf, d2, ho⟩ := frz_dct I1 A1 ea e
        obtain ⟨g1, g2, g3, es, ep, xs, g4, g5, g6, g7⟩ := d2
        refine iter_keys g1 ho g3 g4 (pi_one (tk := s1.toks) I1 _ (turn_K _ g4 g3 (ent_keys g5 g7)) ⟨_, Heap.get?_push_size _ rfl, rfl, rfl⟩ (h1 ι1 _ _ Step.refl A1 (sim_K (ep := ep) hf g5 g7)))
      | _ => exact h1.elim
  | _ => exact h1.elim⟩
theorem items_run {pins : List (Addr × Obj)} {σ : L2.St} {H : Hp} {s : Shared} {elts : List Expr} {kk : Nat} {tpos cpos : Pos} {R : It → Hp → Prop} {a : Addr} {o : Obj} {es : Array DictEntry} {ep : Nat} (I : Inv X pins σ H s) (hs : (a == sysModules) = false) (ho : s.heap.get? a = some o) (hx : o.ExactDict) (hd : o.data = .dict es ep) (hk : KeysRef es) (q : R (ItP a o es) H) :
    wpAny (model X.prog X.w) X.A (callWith cpos (.builtin "dict.items") [.ref a] [] []) (fun v s' => wpAny (model X.prog X.w) X.A (pyIter v) (PIE X pins σ (.Tuple elts kk tpos) R) X.xe s') X.xe s := by
  have I2 : Inv X pins σ H { s with heap := s.heap.push { cls := .type "dict_items", data := .fields #[.ref a] } } := I.kept (t' := s.toks) fun b ob q => Heap.get?_push_of_some _ q
  have raw : s.heap.DictRaw a es ep := ⟨o, ho, hx, hd⟩
  have fin : wpAny (model X.prog X.w) X.A (pyIter (.ref s.heap.objs.size)) (PIE X pins σ (.Tuple elts kk tpos) R) X.xe { s with heap := s.heap.push { cls := .type "dict_items", data := .fields #[.ref a] } } :=
    wpAny_pyIter_items_raw (d := a) ⟨_, Heap.get?_push_size _ rfl, rfl, rfl⟩ (raw.push _) (pi_one (tk := s.toks) I2 _ (turn_P _ hd hx hk) ⟨.none, .none, Heap.get?_push_size _ rfl⟩ q)
  exact method_meetsIn F.slot_dict_items F.entry_dict_items rfl (PySem.evalArgs_none ⟨rfl, raw.typeIs, F.args_dict_items_1 _, _, meets_dict_items_raw a hs, ⟨es, ep, raw⟩, fin⟩)
theorem si_items {e : Expr} {f : EF} {elts : List Expr} {kk : Nat} {tpos apos cpos : Pos} (he : SE X W e f) (hbase : attributeBase e "items" X.env (eval e X.env) = eval e X.env := by rfl) (hline : (apos.endLine == cpos.line) = true := by rfl) :
    SI X W (.Tuple elts kk tpos) (.Call (.Attribute e "items" apos) [] [] cpos) (iItm f) := ⟨fun pins s σ H R I h => by
  obtain ⟨ι, M, env, A, E, h⟩ := h
  refine wpAny_Call_method (T := "dict") (id := "dict.items") hbase rfl hline F.plainAttrs_dict F.slot_dict_items F.type_dict_items (thn (he.run pins s σ H _ I (tE.seq A E h)) fun v s1 ⟨x, H1, I1, r1, ι1, M1, d, st, A1, E1, rd, _, h1⟩ => ?_)
  cases d with
  | ref n =>
    simp only [Rep] at rd
    obtain ⟨a, ea, rfl⟩ := rd
    cases (show v = Value.ref a from r1)
    simp only at h1
    cases e : M1[n]? with
    | none => rw [e] at h1; exact h1.elim
    | some ob =>
      rw [e] at h1
      cases ob with
      | dct kvs =>
        obtain ⟨o, I2, s2, A2, d2, ho⟩ := lock_dct I1 A1 ea e
        obtain ⟨g1, g2, g3, es, ep, xs, g4, g5, g6, g7⟩ := d2
        exact ⟨⟨o, ho, g3.1⟩, fun b eb => by { cases eb; exact ⟨o, ho, g3.2.1⟩ }, items_run I2 g1 ho g3 g4 (ent_keys g5 g7) (h1 ι1 _ _ s2 A2 (sim_P (ep := ep) upd_same g5 g7 fun _ _ _ => relV_un))⟩
      | dlk kvs =>
        obtain ⟨o, hf, d2, ho⟩ := frz_dct I1 A1 ea e
        obtain ⟨g1, g2, g3, es, ep, xs, g4, g5, g6, g7⟩ := d2
        exact ⟨⟨o, ho, g3.1⟩, fun b eb => by { cases eb; exact ⟨o, ho, g3.2.1⟩ }, items_run I1 g1 ho g3 g4 (ent_keys g5 g7) (h1 ι1 _ _ Step.refl A1 (sim_P (ep := ep) hf g5 g7 fun _ _ _ => relV_un))⟩
      | _ => exact h1.elim
  | _ => exact h1.elim⟩
end
end Sh

namespace Sh
open PySem L2

/-! ### dict comprehensions (the walk of the block follows HandS.DictComp, for a dict whose keys are tuples of any depth) -/
/-- a pair stored into the dict that is being made -/
def SetR (X : Cx) (RS : Addr → V → V → Hp → (Hp → Prop) → Prop) : Prop :=
  ∀ (pins : List (Addr × Obj)) (s : Shared) (σ : St) (H : Hp) (D : Addr) (y z : V) (u r : Value) (Nx : Hp → Prop) (E : Value → Shared → Prop) {Q : Unit → Shared → Prop}, Inv X pins σ H s → RelV y u → RelV z r → RS D y z H Nx → (∀ s' H', Inv X pins σ H' s' → Nx H' → Q () s') → wpAny (model X.prog X.w) X.A (dictSet D u r) Q E s
def rsD (G : Gd) : Addr → V → V → Hp → (Hp → Prop) → Prop := fun D y z H Nx => ∃ ι kvs o dk dv, H D = some (dctO D o) ∧ DctAt G.K ι H G.P G.w D kvs o ∧ Rep G.K ι H dk y ∧ Rep G.K ι H dv z ∧ (nkey dk).isSome = true ∧ kvs.length < 1000000 ∧ ∀ o', DctAt G.K ι (upd H D (dctO D o')) G.P G.w D (putKD kvs dk dv) o' → Nx (upd H D (dctO D o'))
theorem set_dcN {X : Cx} (hu : X.A.units + 64 < cLine) : SetR X (rsD (cgd X)) := by
  intro pins s σ H D y z u r Nx E Q I ry rz h hQ
  obtain ⟨ι, kvs, o, dk, dv, h1, h2, r2, r3, hk, hl, k⟩ := h
  obtain ⟨nkk, e2⟩ := Option.isSome_iff_exists.mp hk
  obtain ⟨xs, hx, pr, hxl, _, hs⟩ := dct_of I (dct_at I h1) h2
  obtain ⟨bb, rfl⟩ : ∃ b, y = .ref b := by
    cases dk with
    | tup l => simp only [Rep] at r2; obtain ⟨b, _, rfl, _⟩ := r2; exact ⟨b, rfl⟩
    | _ => simp [nkey] at e2
  rw [show u = Value.ref bb from ry]
  refine wpAny_dictSet_heap (show X.A.units + 8 < cLine by omega) (key_is I r2 e2) hx (fun h' hd sb => ?_) (by rw [hxl]; exact lim_le (Nat.le_of_lt hl))
  obtain ⟨o', es, ep, ho', hex, hdt, hes, _, hnd⟩ := hd
  have I' : Inv X pins σ (upd H D (dctO D o')) { s with heap := h', toks := s.toks + (nestedKind X.prog X.w).draws nkk } :=
    I.write (x := D) (e := D) (by rw [h1]; exact mut_dct) (.inl rfl) (fun b ob hb e => (sb.2 b hb).trans e) ⟨o', ho'⟩ (dctO_new ho')
  have x3 := ext_off (K := X.K) (ι := ι) (u := dctO D o') (rd_dct h1) (nf_dct h1)
  exact hQ _ _ I' (k o' ⟨hs, lim_le (Nat.le_trans (putKD_length _ _ _) hl), hex, es, ep, _, hdt, hes, hnd, Paired.mapP (put_rel e2 r2 rz r3 pr) fun _ _ z => z.ext x3⟩)
section
variable {X : Cx}
def tDcN (RS : Addr → V → V → Hp → (Hp → Prop) → Prop) (wi : TI) (g : TG) (tt : TT) (tk tv : TE) (vs : List Nat) : TE := fun σ H Q => wi σ H fun J H1 => ∀ D, H1 D = none → (D == sysModules) = false → ∃ W : Nat → Nat → Hp → Prop, (∃ m, W 0 m (upd H1 D (dctO D emptyD))) ∧ ∀ i m H, W i m H →
  (J.stop i H ∧ Q (.ref D) H) ∨ (J.go i H ∧ ∃ Nx : Hp → Prop, (∀ H', Nx H' → ∃ m', m' < m ∧ W (i + 1) m' H') ∧ ∀ x H', J.yld i H x H' → g x (wipe σ vs) H' fun σ2 H2 => wipe σ2 vs = wipe σ vs ∧ tt σ2 H2 fun b H3 =>
    if b = true then tk σ2 H3 fun y H4 => tv σ2 H4 fun z H5 => RS D y z H5 Nx else Nx H3)
theorem dcn_core {pins : List (Addr × Obj)} {s : Shared} {σ : St} {H : Hp} {Q : VK} {kx vx tg iter : Expr} {ifs : List Expr} {scope : Scope} {own : List (Str × Nat)} {pos pos' : Pos} {wi : TI} {g : TG} {tt : TT} {tk tv : TE} {RS : Addr → V → V → Hp → (Hp → Prop) → Prop} {use : Option (Value → Sem Unit)} {Qf : Value → Shared → Prop}
    (hc : X.calm = true) (hN : X.N.Nodup) (I : Inv X pins σ H s) (hi : PI X tg iter wi) (ok : BlkOk X.N X.env.scope scope own)
    (hg : ∀ (s : Shared) (H : Hp) (C : Addr) (cl : List (Str × Addr)) (fp : List Addr), PG (X.blk s H scope (compEnvC scope cl C X.env) fp) tg g) (ht : ∀ (s : Shared) (H : Hp) (C : Addr) (cl : List (Str × Addr)) (fp : List Addr), PTs (X.blk s H scope (compEnvC scope cl C X.env) fp) ifs tt)
    (hk : ∀ (s : Shared) (H : Hp) (C : Addr) (cl : List (Str × Addr)) (fp : List Addr), PE (X.blk s H scope (compEnvC scope cl C X.env) fp) kx tk)
    (he : ∀ (s : Shared) (H : Hp) (C : Addr) (cl : List (Str × Addr)) (fp : List Addr), PE (X.blk s H scope (compEnvC scope cl C X.env) fp) vx tv) (hs : ∀ x, foldedSetIterable iter X.env x = pure x)
    (hset : ∀ (s : Shared) (H : Hp) (C : Addr) (cl : List (Str × Addr)) (fp : List Addr), SetR (X.blk s H scope (compEnvC scope cl C X.env) fp) RS)
    (h : tDcN RS wi g tt tk tv (own.map (·.2)) σ H Q)
    (hRR : ∀ D C s' m H', Inv X pins σ H' s' → Q (.ref D) H' → s'.heap.Ns C m → FpOk X pins H' C → compPost (model X.prog X.w) X.A X.xe use Qf (.ref D) C (.ok .next) s') :
    wpAny (model X.prog X.w) X.A (comprehension (.DictComp kx vx [⟨tg, iter, ifs, 0⟩] scope pos) scope X.env pos' newDict false (eval iter X.env) use) Qf X.xe s := by
  have hfree : ∀ y ∈ scope.names, y.2 = .free → ∃ c, X.env.cells.lookup y.1 = some c := fun y hy e => by
    rcases ok.free y hy e with k | k
    · exact I.ok.has _ (.inl k)
    · exact I.ok.has _ (.inr k)
  refine wpAny_comprehension_free (use := use) rfl hs (closure_ok hfree) ok.kind (fun y hy e => by rw [ok.uniq y hy, e])
    (thn (hi.run pins s σ H _ I h) fun xv s1 hx => thn hx fun itv s2 h2 => ?_)
  obtain ⟨it, fp, tn, J, H2, e, I2, T, st2, f2, q⟩ := h2
  subst e
  refine wpAny_newObj_type (newEnv_comp ?_)
  generalize hD : s2.heap.objs.size = D
  have hDn : H2 D = none := I2.hok.fresh (Nat.le_of_eq hD)
  have hbig : (D == sysModules) = false := by rw [← hD]; exact big_ne I2.big
  obtain ⟨W, ⟨m0, w0⟩, turn⟩ := q D hDn hbig
  -- the new list
  generalize hs3 : ({ s2 with heap := s2.heap.push { cls := .type "dict", data := .dict #[] } } : Shared) = s3
  have I3 : Inv X pins σ (upd H2 D (dctO D emptyD)) s3 := by
    rw [← hs3]
    refine I2.laid (t' := s2.toks) (fun b o e => Heap.get?_push_of_some _ e) (Nat.le_of_eq hD) ?_
    rw [← hD]
    exact dctO_new (X := X) (Heap.get?_push_size _ rfl)
  have h3 : s3.heap = s2.heap.push { cls := .type "dict", data := .dict #[] } := by rw [← hs3]
  have sz : ∀ b ∈ fp, b < s2.heap.objs.size := fun b hb => by
    obtain ⟨o, e, _⟩ := T.obj _ _ st2 b hb
    exact Heap.lt_size e
  have f3 : ∀ b ∈ fp, FpOk X pins (upd H2 D (dctO D emptyD)) b ∧ b < s3.heap.objs.size := fun b hb => by
    have hlt := sz b hb
    refine ⟨⟨?_, (f2 b hb).2⟩, by rw [h3, Heap.size_push]; exact Nat.lt_succ_of_lt hlt⟩
    rw [upd_ne (by rw [← hD]; exact Nat.ne_of_lt hlt)]
    exact (f2 b hb).1
  have st3 : tn 0 s3.heap := T.keep _ _ _ st2 fun b _ o e => by rw [h3]; exact Heap.get?_push_of_some _ e
  have I4 := block_start I3 ok hN f3
  have pg := hg s3 (upd H2 D (dctO D emptyD)) s3.heap.objs.size (cellsFrom (s3.heap.objs.size + 1) scope.names (cloFrom X.env.cells scope.names [])) fp
  have pt := ht s3 (upd H2 D (dctO D emptyD)) s3.heap.objs.size (cellsFrom (s3.heap.objs.size + 1) scope.names (cloFrom X.env.cells scope.names [])) fp
  have ps := hset s3 (upd H2 D (dctO D emptyD)) s3.heap.objs.size (cellsFrom (s3.heap.objs.size + 1) scope.names (cloFrom X.env.cells scope.names [])) fp
  have pk := hk s3 (upd H2 D (dctO D emptyD)) s3.heap.objs.size (cellsFrom (s3.heap.objs.size + 1) scope.names (cloFrom X.env.cells scope.names [])) fp
  have pe := he s3 (upd H2 D (dctO D emptyD)) s3.heap.objs.size (cellsFrom (s3.heap.objs.size + 1) scope.names (cloFrom X.env.cells scope.names [])) fp
  show codeAny _ _ (.compStart (.DictComp kx vx [⟨tg, iter, ifs, 0⟩] scope pos) 0 (.ref it) (.ref D) (compEnvC scope (cellsFrom (s3.heap.objs.size + 1) scope.names (cloFrom X.env.cells scope.names [])) s3.heap.objs.size X.env)) (compPost (model X.prog X.w) X.A X.xe use Qf (.ref D) s3.heap.objs.size) { s3 with heap := pushCells (s3.heap.push { cls := .type "dict", data := .dict #[] }) scope.names }
  have nfp : ∀ b ∈ fp, (upd H2 D (dctO D emptyD)) b = none := fun b hb => (f3 b hb).1.1
  generalize hce : compEnvC scope (cellsFrom (s3.heap.objs.size + 1) scope.names (cloFrom X.env.cells scope.names [])) s3.heap.objs.size X.env = ce at I4 pg pt ps pk pe ⊢
  have cL : ce.locals = s3.heap.objs.size := by subst hce; rfl
  generalize hH3 : upd H2 D (dctO D emptyD) = H3 at I3 I4 pg pt ps pk pe w0 nfp f3
  generalize hs4 : ({ s3 with heap := pushCells (s3.heap.push { cls := .type "dict", data := .dict #[] }) scope.names } : Shared) = s4 at I4 ⊢
  have st4 : tn 0 s4.heap := T.keep _ _ _ st3 fun b _ o e => by rw [← hs4]; exact pushCells_keeps _ _ _ _ (Heap.get?_push_of_some _ e)
  have stat : ∀ {σ' : St} {H' : Hp} {s' : Shared}, Inv (X.blk s3 H3 scope ce fp) [] σ' H' s' → (∀ b ∈ fp, H' b = none) → ∀ b ∈ fp, FpOk (X.blk s3 H3 scope ce fp) [] H' b := fun {σ' H' s'} I' hn b hb =>
    ⟨hn b hb, (I'.ok.exf b hb).1, I'.ok.exfs b hb, .inl hb, fun x c e => (I'.ok.exf b hb).2 x c e, fun p hp => absurd (show p ∈ ([] : List (Addr × Obj)) ++ [] from hp) (by simp)⟩
  have loop : codeAny (model X.prog X.w) X.A (.compLoop (.DictComp kx vx [⟨tg, iter, ifs, 0⟩] scope pos) 0 (.ref it) (.ref D) ce) (compPost (model X.prog X.w) X.A X.xe use Qf (.ref D) s3.heap.objs.size) s4 := by
    refine compLoop_anyD (fun n s' => ∃ i H', Inv (X.blk s3 H3 scope ce fp) [] (wipe σ (own.map (·.2))) H' s' ∧ tn i s'.heap ∧ (∀ b ∈ fp, H' b = none) ∧ W i n H') ?_ m0 ⟨0, H3, I4, st4, nfp, w0⟩
    rintro n s5 ⟨i, H5, I5, st5, n5, w5⟩
    rcases turn i n H5 w5 with ⟨stop, qq⟩ | ⟨go, Nx, hNx, step⟩
    · have td := T.done (X.blk s3 H3 scope ce fp) rfl rfl rfl hc i [] s5 _ H5 (fun _ _ => False) I5 (stat I5 n5) st5 stop
      refine thnF td fun r s6 ⟨hr, I6⟩ => ?_
      subst hr
      -- back in the def's context
      have I7 : Inv X pins σ H5 s6 := I3.call' (ch := fp) I6.os I6.base I6.hok I6.bare fun b hb => ⟨(f3 b hb).1.2.2.2.1, (f3 b hb).1.2.1, (f3 b hb).1.2.2.2.2.1, (f3 b hb).1.2.2.2.2.2⟩
      have nC : H5 s3.heap.objs.size = none := by
        have z : H5 ce.locals = none := I6.free
        rw [cL] at z
        exact z
      obtain ⟨m, hn, _⟩ := I6.loc
      have hn : s6.heap.Ns ce.locals m := hn
      rw [cL] at hn
      exact hRR D s3.heap.objs.size s6 m H5 I7 qq hn (I3.fpOk (Nat.le_refl _) nC)
    · have ti := T.item (X.blk s3 H3 scope ce fp) rfl rfl rfl hc i [] s5 _ H5 (fun _ _ => False) I5 (stat I5 n5) st5 go
      refine thnF ti fun r s6 ⟨u, hr, h6⟩ => ?_
      subst hr
      refine thnF h6 fun _ s7 ⟨x, H7, I7, r7, y7, st7, n7⟩ => ?_
      have I7' := I7.pinned (stat I7 n7) (T.obj _ _ st7)
      refine thnF (pg.run _ s7 _ H7 x u _ I7' r7 (step x H7 y7)) fun _ s8 ⟨σ8, H8, I8, hw8, q8⟩ => ?_
      refine thnF (pt.run _ s8 σ8 H8 _ I8 q8) fun b s9 ⟨H9, I9, q9⟩ => ?_
      -- the turn's end
      have fin : ∀ {s' : Shared} {H' : Hp}, Inv (X.blk s3 H3 scope ce fp) ([] ++ pinsAt fp s7.heap) σ8 H' s' → Nx H' → ∃ m, m < n ∧ ∃ i H', Inv (X.blk s3 H3 scope ce fp) [] (wipe σ (own.map (·.2))) H' s' ∧ tn i s'.heap ∧ (∀ b ∈ fp, H' b = none) ∧ W i m H' := fun {s' H'} I' nx => by
        obtain ⟨m', hm, w'⟩ := hNx H' nx
        have pin' : ∀ b ∈ fp, ∀ o, s7.heap.get? b = some o → s'.heap.get? b = some o ∧ H' b = none := fun b hb o e =>
          let z := I'.pin (b, o) (List.mem_append_right _ (List.mem_append_right _ (mem_pinsAt hb e)))
          ⟨z.1, z.2.1⟩
        have hl : (wipe σ (own.map (·.2))).length = σ8.length := by rw [← hw8, wipe_length]
        refine ⟨m', hm, i + 1, H', (I'.unpinned (pins := [])).weak hl (fun j v e => ?_), T.keep _ _ _ st7 fun b hb o e => (pin' b hb o e).1, fun b hb => ?_, w'⟩
        · rw [← hw8] at e
          exact (wipe_some e).1
        · obtain ⟨o, e, _⟩ := T.obj _ _ st7 b hb
          exact (pin' b hb o e).2
      cases b with
      | false =>
        simp only [Bool.false_eq_true, if_false] at q9 ⊢
        exact fin I9 q9
      | true =>
        simp only [if_true] at q9 ⊢
        refine thnF (pk.run _ s9 σ8 H9 _ I9 q9) fun z s10 ⟨yk, H10, I10, r10, q10⟩ => ?_
        refine thnF (pe.run _ s10 σ8 H10 _ I10 q10) fun z2 s11 ⟨yv, H11, I11, r11, nx⟩ => ?_
        exact ps _ _ _ _ D yk yv z z2 _ _ I11 r10 r11 nx fun s12 H12 I12 nx => fin I12 nx
  exact codeAny_compStart_dict loop (T.self X.A 0 _ _ _ st4 loop)
theorem pe_dcN {kx vx tg iter : Expr} {ifs : List Expr} {scope : Scope} {own : List (Str × Nat)} {pos : Pos} {wi : TI} {g : TG} {tt : TT} {tk tv : TE} {RS : Addr → V → V → Hp → (Hp → Prop) → Prop} (hc : X.calm = true) (hN : X.N.Nodup) (hi : PI X tg iter wi) (ok : BlkOk X.N X.env.scope scope own)
    (hb : ∀ (s : Shared) (H : Hp) (C : Addr) (cl : List (Str × Addr)) (fp : List Addr), PG (X.blk s H scope (compEnvC scope cl C X.env) fp) tg g ∧ PTs (X.blk s H scope (compEnvC scope cl C X.env) fp) ifs tt ∧ PE (X.blk s H scope (compEnvC scope cl C X.env) fp) kx tk ∧ PE (X.blk s H scope (compEnvC scope cl C X.env) fp) vx tv ∧ SetR (X.blk s H scope (compEnvC scope cl C X.env) fp) RS)
    (hs : ∀ x, foldedSetIterable iter X.env x = pure x := by intro _; rfl) : PE X (.DictComp kx vx [⟨tg, iter, ifs, 0⟩] scope pos) (tDcN RS wi g tt tk tv (own.map (·.2))) := by
  refine ⟨fun pins s σ H Q I h => ?_⟩
  rw [arm_eval_DictComp]
  refine dcn_core hc hN I hi ok (fun s H C cl fp => (hb s H C cl fp).1) (fun s H C cl fp => (hb s H C cl fp).2.1) (fun s H C cl fp => (hb s H C cl fp).2.2.1) (fun s H C cl fp => (hb s H C cl fp).2.2.2.1) hs (fun s H C cl fp => (hb s H C cl fp).2.2.2.2) h fun D C s' m H' I' q hn f => ⟨m, hn, fun h'' sb => ?_⟩
  obtain ⟨f0, f1, f2, f3, f4, f5⟩ := f
  exact ⟨.ref D, H', I'.turned (t' := s'.toks) (fun b o hb e => (sb.2 b hb).trans e) f0 f1 f3 f4 f5, rfl, q⟩
end
def dcGo (guard : Store → Bool) (one : Bool) (is : List Nat) (c : TF) (fk fv : EF) (env : Env) : List D → List (D × D) → Store → Res D
  | [], acc, M => if guard M = true then .ok (.ref M.length) (M ++ [.dct acc]) else .bad
  | x :: r, acc, M => if guard M = true then (match parts one is.length x with
    | none => .bad
    | some ds => match c (setD is ds env) M with
      | .ok true M1 => (match fk (setD is ds env) M1 with
        | .ok k M2 => (match fv (setD is ds env) M2 with
          | .ok v M3 => if ((nkey k).isSome && decide (acc.length < 1000000)) = true then dcGo guard one is c fk fv env r (putKD acc k v) M3 else .bad
          | _ => .bad)
        | _ => .bad)
      | .ok false M1 => dcGo guard one is c fk fv env r acc M1
      | _ => .bad) else .bad
def eDc (fi : IF) (one : Bool) (is : List Nat) (own : List Nat) (c : TF) (fk fv : EF) : EF := fun env M => (fi env M).bind fun s M1 => dcGo s.guard one is c fk fv (wipeD env own) s.items [] M1
section
variable {X : Cx} {W : WX}
theorem rd_one {K : PySem.W.Frag} {i : Nat} {ι : List Addr} {H : Hp} {d : D} {ds : List D} {x : V} {σ : St} {Q : St → Hp → Prop} (e : parts true [i].length d = some ds) (r : Rep K ι H d x) (h : ∀ vs, Reps K ι H ds vs → Q (setV [i] vs σ) H) : gName i x σ H Q := by
  simp only [parts, if_true, Option.some.injEq] at e
  subst e
  exact h [_] (by simp only [Reps]; exact ⟨_, [], rfl, r, rfl⟩)
theorem rd_tup {K : PySem.W.Frag} {is : List Nat} {ι : List Addr} {H : Hp} {d : D} {ds : List D} {x : V} {σ : St} {Q : St → Hp → Prop} (e : parts false is.length d = some ds) (r : Rep K ι H d x) (h : ∀ vs, Reps K ι H ds vs → Q (setV is vs σ) H) : gTup K is.length (gNs is) x σ H Q := by
  cases d with
  | tup l =>
    simp only [parts, Bool.false_eq_true, if_false] at e
    split at e
    · rename_i hl
      cases e
      simp only [Rep] at r
      obtain ⟨p, vs, rfl, hq, rr⟩ := r
      have hl2 : vs.length = is.length := by rw [← hl, rr.length]
      exact ⟨p, vs, rfl, hq, hl2, gNs_of hl2 (h vs rr)⟩
    · cases e
  | _ => simp [parts] at e
theorem dc_read {t : TG} {fi : IF} {one : Bool} {is own : List Nat} {c : TF} {fk fv : EF} (hown : ∀ i ∈ is, i ∈ own)
    (rd : ∀ {ι : List Addr} {H : Hp} {d : D} {ds : List D} {x : V} {σ : St} {Q : St → Hp → Prop}, parts one is.length d = some ds → Rep X.K ι H d x → (∀ vs, Reps X.K ι H ds vs → Q (setV is vs σ) H) → t x σ H Q)
    {σ : St} {H : Hp} {Q : VK} (h : tE (cgd X) W (eDc fi one is own c fk fv) σ H Q) : tDcN (rsD (cgd X)) (tI (cgd X) W fi) t (tT (cgd X) W0 c) (tE (cgd X) W0 fk) (tE (cgd X) W0 fv) own σ H Q := by
  obtain ⟨ι, M, env, A, E, h⟩ := h
  refine tI.mono (tI.seq A E h) fun J H1 ⟨ι1, M1, s, s1, A1, E1, sim, _, h1⟩ => ?_
  intro D hD hbig
  have hDi : D ∉ ι1 := A1.notin hD
  refine ⟨fun i m H => m = s.items.length - i ∧ i ≤ s.items.length ∧ ∃ ι M acc o, Step ι1 H1 ι H ∧ D ∉ ι ∧ H D = some (dctO D o) ∧ DctAt X.K ι H X.prog X.w D acc o ∧ Abs (cgd X).K ι H (cgd X).P (cgd X).w M ∧ PostE (cgd X) W ι1 H1 σ (dcGo s.guard one is c fk fv (wipeD env own) (s.items.drop i) acc M) Q, ⟨_, rfl, Nat.zero_le _, ι1, M1, [], emptyD, step_tmp hD, hDi, upd_same, dctAt_nil hbig, A1.tmp hD, by simpa using h1⟩, ?_⟩
  rintro i m H2 ⟨rfl, hile, ι2, M2, acc, o2, s2, hD2, e2, da2, A2, h2⟩
  have x2 : Ext (cgd X).K ι1 H1 ι2 H2 := s2.ext A1.nt
  have E2 := (E1.wipe own).ext x2
  cases ei : s.items[i]? with
  | none =>
    have hl : s.items.length ≤ i := List.getElem?_eq_none_iff.mp ei
    rw [List.drop_eq_nil_of_le hl] at h2
    unfold dcGo at h2
    by_cases hgd : s.guard M2 = true
    · rw [if_pos hgd] at h2
      refine .inl ⟨(sim i ι2 H2 M2 x2 A2 hgd).2 (Nat.le_antisymm hile hl), h2 (ι2 ++ [D]) H2 _ (s2.add hD) (A2.add hD2 ⟨o2, e2, da2.ext (ext_add _)⟩) ?_⟩
      simp only [Rep]
      exact ⟨D, by rw [← A2.len]; simp, rfl⟩
    · rw [if_neg hgd] at h2; exact h2.elim
  | some d =>
    obtain ⟨hl, ed⟩ := List.getElem?_eq_some_iff.mp ei
    rw [List.drop_eq_getElem_cons hl, ed] at h2
    unfold dcGo at h2
    by_cases hgd : s.guard M2 = true
    · rw [if_pos hgd] at h2
      obtain ⟨go, yl⟩ := (sim i ι2 H2 M2 x2 A2 hgd).1 d ei
      refine .inr ⟨go, fun H' => s.items.length - (i + 1) < s.items.length - i ∧ i + 1 ≤ s.items.length ∧ ∃ ι M acc o, Step ι1 H1 ι H' ∧ D ∉ ι ∧ H' D = some (dctO D o) ∧ DctAt X.K ι H' X.prog X.w D acc o ∧ Abs (cgd X).K ι H' (cgd X).P (cgd X).w M ∧ PostE (cgd X) W ι1 H1 σ (dcGo s.guard one is c fk fv (wipeD env own) (s.items.drop (i + 1)) acc M) Q, fun H' ⟨h1, h2, h3⟩ => ⟨_, h1, rfl, h2, h3⟩, fun x H3 hy => ?_⟩
      have lt : s.items.length - (i + 1) < s.items.length - i := by omega
      obtain ⟨s3, A3, r3⟩ := yl x H3 hy
      obtain ⟨hD3, e3⟩ := s3.out hD2 e2
      have x3 := s3.ext (K := (cgd X).K) A2.nt
      cases ep : parts one is.length d with
      | none => rw [ep] at h2; exact h2.elim
      | some ds =>
        rw [ep] at h2
        refine rd ep r3 fun vs rv => ⟨?_, ?_⟩
        · rw [wipe_setV is vs _ hown, wipe_wipe]
        · have E3 := (E2.ext x3).setA (is := is) rv
          refine ⟨ι2, M2, _, A3, E3, ?_⟩
          cases ec : c (setD is ds (wipeD env own)) M2 with
          | bad => simp only [ec] at h2; exact h2.elim
          | exc _ _ _ => simp only [ec] at h2; exact h2.elim
          | ok b M4 =>
            simp only [ec] at h2
            rintro ι4 H4 b' s4 A4 rfl
            obtain ⟨hD4, e4⟩ := s4.out hD3 e3
            have x4 := s4.ext (K := (cgd X).K) A3.nt
            cases b with
            | false =>
              simp only [Bool.false_eq_true, if_false]
              exact ⟨lt, hl, ι4, M4, acc, o2, (s2.trans s3).trans s4, hD4, e4, da2.ext (x3.trans x4), A4, h2⟩
            | true =>
              simp only [if_true]
              refine ⟨ι4, M4, _, A4, E3.ext x4, ?_⟩
              cases ef : fk (setD is ds (wipeD env own)) M4 with
              | bad => simp only [ef] at h2; exact h2.elim
              | exc _ _ _ => simp only [ef] at h2; exact h2.elim
              | ok y M5 =>
                simp only [ef] at h2
                intro ι5 H5 yv s5 A5 r5
                obtain ⟨hD5, e5⟩ := s5.out hD4 e4
                have x5 := s5.ext (K := (cgd X).K) A4.nt
                refine ⟨ι5, M5, _, A5, (E3.ext x4).ext x5, ?_⟩
                cases eg : fv (setD is ds (wipeD env own)) M5 with
                | bad => simp only [eg] at h2; exact h2.elim
                | exc _ _ _ => simp only [eg] at h2; exact h2.elim
                | ok z M6 =>
                  simp only [eg] at h2
                  intro ι6 H6 zv s6 A6 r6
                  obtain ⟨hD6, e6⟩ := s6.out hD5 e5
                  have x6 := s6.ext (K := (cgd X).K) A5.nt
                  split at h2
                  · rename_i hk
                    simp only [Bool.and_eq_true, decide_eq_true_eq] at hk
                    refine ⟨ι6, acc, o2, y, z, e6, da2.ext (((x3.trans x4).trans x5).trans x6), r5.ext x6, r6, hk.1, hk.2, fun o' da' => ?_⟩
                    exact ⟨lt, hl, ι6, M6, _, o', ((((s2.trans s3).trans s4).trans s5).trans s6).off hD, hD6, upd_same, da', abs_off A6 hD6 (rd_dct e6) (nf_dct e6), h2⟩
                  · exact h2.elim
    · rw [if_neg hgd] at h2; exact h2.elim
theorem se_dc {kx vx tg iter : Expr} {ifs : List Expr} {scope : Scope} {own : List (Str × Nat)} {pos : Pos} {fi : IF} {one : Bool} {is : List Nat} {t : TG} {c : TF} {fk fv : EF} (hc : X.calm = true) (hN : X.N.Nodup) (hu : X.A.units + 64 < cLine) (hi : SI X W tg iter fi) (ok : BlkOk X.N X.env.scope scope own) (hown : ∀ i ∈ is, i ∈ own.map (·.2))
    (hb : ∀ (s : Shared) (H : Hp) (C : Addr) (cl : List (Str × Addr)) (fp : List Addr), PG (X.blk s H scope (compEnvC scope cl C X.env) fp) tg t ∧ PTs (X.blk s H scope (compEnvC scope cl C X.env) fp) ifs (tT (cgd (X.blk s H scope (compEnvC scope cl C X.env) fp)) W0 c) ∧ SE (X.blk s H scope (compEnvC scope cl C X.env) fp) W0 kx fk ∧ SE (X.blk s H scope (compEnvC scope cl C X.env) fp) W0 vx fv)
    (rd : ∀ {ι : List Addr} {H : Hp} {d : D} {ds : List D} {x : V} {σ : St} {Q : St → Hp → Prop}, parts one is.length d = some ds → Rep X.K ι H d x → (∀ vs, Reps X.K ι H ds vs → Q (setV is vs σ) H) → t x σ H Q)
    (hs : ∀ x, foldedSetIterable iter X.env x = pure x := by intro _; rfl) : SE X W (.DictComp kx vx [⟨tg, iter, ifs, 0⟩] scope pos) (eDc fi one is (own.map (·.2)) c fk fv) :=
  (pe_dcN (RS := rsD (cgd X)) hc hN hi ok (fun s H C cl fp => ⟨(hb s H C cl fp).1, (hb s H C cl fp).2.1, (hb s H C cl fp).2.2.1, (hb s H C cl fp).2.2.2, set_dcN (X := X.blk s H scope (compEnvC scope cl C X.env) fp) hu⟩) hs).imp fun σ H Q h => dc_read hown rd h
end
end Sh

namespace Sh
open PySem L2

section
variable {X : Cx} {W : WX}
/-! ### list comprehensions, by target -/
theorem se_lcP {elt tg iter : Expr} {ifs : List Expr} {scope : Scope} {own : List (Str × Nat)} {pos : Pos} {fi : IF} {one : Bool} {is : List Nat} {t : TG} {c : TF} {f : EF} (hc : X.calm = true) (hN : X.N.Nodup) (hi : SI X W tg iter fi) (ok : BlkOk X.N X.env.scope scope own) (hown : ∀ i ∈ is, i ∈ own.map (·.2))
    (hb : ∀ (s : Shared) (H : Hp) (C : Addr) (cl : List (Str × Addr)) (fp : List Addr), PG (X.blk s H scope (compEnvC scope cl C X.env) fp) tg t ∧ PTs (X.blk s H scope (compEnvC scope cl C X.env) fp) ifs (tT (cgd (X.blk s H scope (compEnvC scope cl C X.env) fp)) W0 c) ∧ SE (X.blk s H scope (compEnvC scope cl C X.env) fp) W0 elt f)
    (rd : ∀ {ι : List Addr} {H : Hp} {d : D} {ds : List D} {x : V} {σ : St} {Q : St → Hp → Prop}, parts one is.length d = some ds → Rep X.K ι H d x → (∀ vs, Reps X.K ι H ds vs → Q (setV is vs σ) H) → t x σ H Q)
    (hs : ∀ x, foldedSetIterable iter X.env x = pure x := by intro _; rfl) : SE X W (.ListComp elt [⟨tg, iter, ifs, 0⟩] scope pos) (eLc fi one is (own.map (·.2)) c f) :=
  (pe_lc hc hN hi ok (fun s H C cl fp => (hb s H C cl fp).1) (fun s H C cl fp => (hb s H C cl fp).2.1) (fun s H C cl fp => (hb s H C cl fp).2.2) hs).imp fun σ H Q h => lc_read hown rd h
theorem ss_setLcP {i : Nat} {y : Str} {py : Pos} {elt tg iter : Expr} {ifs : List Expr} {scope : Scope} {own : List (Str × Nat)} {pos spos : Pos} {fi : IF} {one : Bool} {is : List Nat} {t : TG} {c : TF} {f : EF} (hc : X.calm = true) (hN : X.N.Nodup) (hy : X.N[i]? = some y) (hyl : X.env.scope.names.lookup y = some .local)
    (hsw : swapsWith (.ListComp elt [⟨tg, iter, ifs, 0⟩] scope pos) (some (.Name y py)) spos.line X.env = pure true) (hi : SI X W tg iter fi) (ok : BlkOk X.N X.env.scope scope own) (hown : ∀ i ∈ is, i ∈ own.map (·.2))
    (hb : ∀ (s : Shared) (H : Hp) (C : Addr) (cl : List (Str × Addr)) (fp : List Addr), PG (X.blk s H scope (compEnvC scope cl C X.env) fp) tg t ∧ PTs (X.blk s H scope (compEnvC scope cl C X.env) fp) ifs (tT (cgd (X.blk s H scope (compEnvC scope cl C X.env) fp)) W0 c) ∧ SE (X.blk s H scope (compEnvC scope cl C X.env) fp) W0 elt f)
    (rd : ∀ {ι : List Addr} {H : Hp} {d : D} {ds : List D} {x : V} {σ : St} {Q : St → Hp → Prop}, parts one is.length d = some ds → Rep X.K ι H d x → (∀ vs, Reps X.K ι H ds vs → Q (setV is vs σ) H) → t x σ H Q)
    (hs : ∀ x, foldedSetIterable iter X.env x = pure x := by intro _; rfl) : SS X W (.Assign [.Name y py] (.ListComp elt [⟨tg, iter, ifs, 0⟩] scope pos) spos) (sSet i (eLc fi one is (own.map (·.2)) c f)) :=
  (ps_setLc hc hN hy hyl hsw hi ok (fun s H C cl fp => (hb s H C cl fp).1) (fun s H C cl fp => (hb s H C cl fp).2.1) (fun s H C cl fp => (hb s H C cl fp).2.2) hs).imp fun C σ H h => by
    obtain ⟨ι, M, env, A, E, h⟩ := h
    refine lc_read hown rd (tE.mono (tE.seqS A E h) fun x H1 ⟨ι1, M1, d, s1, A1, E1, r1, _, h1⟩ => ?_)
    exact h1 ι1 H1 _ Step.refl A1 (E1.set r1)
/-! ### a, b = x, y with plain local names -/
def sPar (is : List Nat) (fa : AF) : SF := fun env M => (fa env M).bindS env fun ds M1 => if ds.length = is.length then .ok (.nx (setD is ds env)) M1 else .bad
theorem tA.seqS {G : Gd} {ι : List Addr} {H : Hp} {σ : St} {M : Store} {env : Env} {f : AF} {g : List D → Store → Res Fl} {C : Ends} (A : Abs G.K ι H G.P G.w M) (E : EnvR G.K ι H env σ)
    (h : PostS G W ι H ((f env M).bindS env g) C) :
    tA G W f σ H fun x H1 => ∃ ι1 M1 d, Step ι H ι1 H1 ∧ Abs G.K ι1 H1 G.P G.w M1 ∧ EnvR G.K ι1 H1 env σ ∧ Reps G.K ι1 H1 d x ∧ f env M = .ok d M1 ∧ PostS G W ι1 H1 (g d M1) C := by
  refine ⟨ι, M, env, A, E, ?_⟩
  cases e : f env M with
  | ok d M1 =>
    rw [e] at h
    exact fun ι' H' v s a r => ⟨ι', M1, d, s, a, E.ext (s.ext A.nt), r, rfl, PostS.step s h⟩
  | exc c fs M1 => rw [e] at h; exact fun ι' H' cls d s a x => h ι' H' σ cls d s a (E.ext (s.ext A.nt)) x
  | bad => rw [e] at h; exact h
theorem ss_par2 {i j : Nat} {x y : Str} {a b : Expr} {fa : AF} {px py pt pos : Pos} {kt k2 : Nat} {pt2 : Pos} (hc : X.calm = true) (hN : X.N.Nodup) (hi : X.N[i]? = some x) (hj : X.N[j]? = some y) (hij : i ≠ j)
    (hx : X.env.scope.names.lookup x = some .local) (hy : X.env.scope.names.lookup y = some .local) (ha : SA X W [a, b] fa)
    (hw : swappedStores [.Tuple [.Name x px, .Name y py] kt pt] (.Tuple [a, b] k2 pt2) X.env = pure (some [x, y]))
    (hs : swapsWithSole [.Tuple [.Name x px, .Name y py] kt pt] (.Tuple [a, b] k2 pt2) pos.line X.env = pure false := by rfl) :
    SS X W (.Assign [.Tuple [.Name x px, .Name y py] kt pt] (.Tuple [a, b] k2 pt2) pos) (sPar [i, j] fa) :=
  (ps_par hc hN hi hj hij hx hy ha hw hs).imp fun C σ H h => by
    obtain ⟨ι, M, env, A, E, h⟩ := h
    refine tA.mono (tA.seqS A E h) fun vs H1 ⟨ι1, M1, ds, s1, A1, E1, r1, _, h1⟩ => ?_
    split at h1
    · rename_i hl
      match ds, hl, r1, h1 with
      | [d, e], hl, r1, h1 =>
        obtain ⟨v, u, rfl, rv, ru⟩ := reps_two r1
        exact ⟨v, u, rfl, h1 ι1 H1 _ Step.refl A1 ((E1.set rv).set ru)⟩
    · exact h1.elim
theorem reps_three {K : PySem.W.Frag} {ι : List Addr} {H : Hp} {d e f : D} {xs : List V} (h : Reps K ι H [d, e, f] xs) : ∃ v u w, xs = [v, u, w] ∧ Rep K ι H d v ∧ Rep K ι H e u ∧ Rep K ι H f w := by
  simp only [Reps] at h
  obtain ⟨v, r, rfl, a, u, r2, rfl, b, w, r3, rfl, c, rfl⟩ := h
  exact ⟨v, u, w, rfl, a, b, c⟩
theorem ss_par3 {i j l : Nat} {x y z : Str} {a b c : Expr} {fa : AF} {px py pz pt pos : Pos} {kt k2 : Nat} {pt2 : Pos} (hc : X.calm = true) (hN : X.N.Nodup) (hi : X.N[i]? = some x) (hj : X.N[j]? = some y) (hl : X.N[l]? = some z) (hij : i ≠ j) (hil : i ≠ l) (hjl : j ≠ l)
    (hx : X.env.scope.names.lookup x = some .local) (hy : X.env.scope.names.lookup y = some .local) (hz : X.env.scope.names.lookup z = some .local) (ha : SA X W [a, b, c] fa)
    (hw : swappedStores [.Tuple [.Name x px, .Name y py, .Name z pz] kt pt] (.Tuple [a, b, c] k2 pt2) X.env = pure (some [x, y, z]))
    (hs : swapsWithSole [.Tuple [.Name x px, .Name y py, .Name z pz] kt pt] (.Tuple [a, b, c] k2 pt2) pos.line X.env = pure false := by rfl) :
    SS X W (.Assign [.Tuple [.Name x px, .Name y py, .Name z pz] kt pt] (.Tuple [a, b, c] k2 pt2) pos) (sPar [i, j, l] fa) :=
  (ps_par3 hc hN hi hj hl hij hil hjl hx hy hz ha hw hs).imp fun C σ H h => by
    obtain ⟨ι, M, env, A, E, h⟩ := h
    refine tA.mono (tA.seqS A E h) fun vs H1 ⟨ι1, M1, ds, s1, A1, E1, r1, _, h1⟩ => ?_
    split at h1
    · rename_i hl
      match ds, hl, r1, h1 with
      | [d, e, f], hl, r1, h1 =>
        obtain ⟨v, u, w, rfl, rv, ru, rw'⟩ := reps_three r1
        exact ⟨v, u, w, rfl, h1 ι1 H1 _ Step.refl A1 (((E1.set rv).set ru).set rw')⟩
    · exact h1.elim
/-! ### list(d) -/
theorem vals_keys {K : PySem.W.Frag} {ι : List Addr} {H : Hp} {P : Program} {w : World} {kvs : List (D × D)} {xs : List (NestedKey × Addr × Value)} {es : Array DictEntry} {acc : Array Value} (he : es.toList = xs.map (entryOfKey (nestedKind P w))) (pr : Paired (EntR K ι H) kvs xs)
    (hacc : ItemsOf (fun i v => ∃ hi : i < es.size, v = es[i].key) acc es.size) : ∃ vs, Vals vs acc.toList ∧ Reps K ι H (kvs.map (·.1)) vs := by
  have hz := ent_size he pr
  have main : ∀ (kvs' : List (D × D)) (us : List Value) (n : Nat), us.length = kvs'.length → (∀ (j : Nat) (p : D × D) (u : Value), kvs'[j]? = some p → us[j]? = some u → ∃ q, u = Value.ref q ∧ Rep K ι H p.1 (.ref q)) → ∃ vs, Vals vs us ∧ Reps K ι H (kvs'.map (·.1)) vs := by
    intro kvs'
    induction kvs' with
    | nil => intro us n hl h; have : us = [] := List.length_eq_zero_iff.mp hl; subst this; exact ⟨[], .nil, by simp only [List.map_nil, Reps]⟩
    | cons p kvs' ih =>
      intro us n hl h
      cases us with
      | nil => simp at hl
      | cons u us =>
        obtain ⟨vs, a, b⟩ := ih us n (by simpa using hl) fun j p' u' h1 h2 => h (j + 1) p' u' (by simpa using h1) (by simpa using h2)
        obtain ⟨q, e1, e2⟩ := h 0 p u rfl rfl
        exact ⟨.ref q :: vs, .cons e1 a, by simp only [List.map_cons, Reps]; exact ⟨_, _, rfl, e2, b⟩⟩
  refine main kvs acc.toList 0 (by rw [Array.length_toList, hacc.1, hz]) fun j p u h1 h2 => ?_
  obtain ⟨hi, e⟩ := hacc.2 j u (by rw [← Array.getElem?_toList]; exact h2)
  obtain ⟨q, v, g1, g2, g3, g4⟩ := ent_get he pr h1 hi
  exact ⟨q, e.trans g1, g3⟩
theorem vals_vals {K : PySem.W.Frag} {ι : List Addr} {H : Hp} {P : Program} {w : World} {kvs : List (D × D)} {xs : List (NestedKey × Addr × Value)} {es : Array DictEntry} {acc : Array Value} (he : es.toList = xs.map (entryOfKey (nestedKind P w))) (pr : Paired (EntR K ι H) kvs xs)
    (hacc : ItemsOf (fun i v => ∃ hi : i < es.size, v = es[i].val) acc es.size) : ∃ vs, Vals vs acc.toList ∧ Reps K ι H (kvs.map (·.2)) vs := by
  have hz := ent_size he pr
  have main : ∀ (kvs' : List (D × D)) (us : List Value) (n : Nat), us.length = kvs'.length → (∀ (j : Nat) (p : D × D) (u : Value), kvs'[j]? = some p → us[j]? = some u → ∃ q, RelV q u ∧ Rep K ι H p.2 q) → ∃ vs, Vals vs us ∧ Reps K ι H (kvs'.map (·.2)) vs := by
    intro kvs'
    induction kvs' with
    | nil => intro us n hl h; have : us = [] := List.length_eq_zero_iff.mp hl; subst this; exact ⟨[], .nil, by simp only [List.map_nil, Reps]⟩
    | cons p kvs' ih =>
      intro us n hl h
      cases us with
      | nil => simp at hl
      | cons u us =>
        obtain ⟨vs, a, b⟩ := ih us n (by simpa using hl) fun j p' u' h1 h2 => h (j + 1) p' u' (by simpa using h1) (by simpa using h2)
        obtain ⟨q, e1, e2⟩ := h 0 p u rfl rfl
        exact ⟨q :: vs, .cons e1 a, by simp only [List.map_cons, Reps]; exact ⟨_, _, rfl, e2, b⟩⟩
  refine main kvs acc.toList 0 (by rw [Array.length_toList, hacc.1, hz]) fun j p u h1 h2 => ?_
  obtain ⟨hi, e⟩ := hacc.2 j u (by rw [← Array.getElem?_toList]; exact h2)
  obtain ⟨q, v, g1, g2, g3, g4⟩ := ent_get he pr h1 hi
  exact ⟨v, e ▸ g2, g4⟩
def gListA : D → Store → Option (D × Store) := fun d M => match d with
  | .ref n => match dctM M n with
    | some kvs => some (.ref M.length, M ++ [.lst (kvs.map (·.1))])
    | none => gList d M
  | _ => gList d M
def rListK (G : Gd) : List V → Hp → VK → Prop := fun xs H Q => ∃ ι M n kvs a, xs = [.ref a] ∧ Abs G.K ι H G.P G.w M ∧ ι[n]? = some a ∧ dctM M n = some kvs ∧ ∀ p vs, H p = none → Reps G.K ι H (kvs.map (·.1)) vs → Q (.ref p) (upd H p (.lst vs))
theorem cr_listK (hc : X.calm = true) : CallR X (.type "list") (rListK (cgd X)) := by
  intro pins s σ H xs us Q I r h
  obtain ⟨ι, M, n, kvs, a, rfl, A, ea, e, q⟩ := h
  rw [Vals.ref1 r]
  obtain ⟨o, ho, g1, g2, g3, es, ep, xs, g4, g5, g6, g7⟩ := dct_get I A ea e
  have hz := ent_size g5 g7
  refine PySem.W.kdl_call (KdlSrc.rawDict (es := es) (ep := ep) g1) (I.ok.hd hc) ⟨o, ho, g3, g4⟩ (by rw [hz]; exact g2) fun h' tk acc c hkeep hS hacc => ?_
  obtain ⟨vs, v1, v2⟩ := vals_keys g5 g7 hacc
  refine ⟨.ref s.heap.objs.size, upd H s.heap.objs.size (.lst vs), I.laid hkeep (Nat.le_refl _) (show ObjOk X.prog X.w _ _ _ (.lst vs) from ⟨?_, acc.toList, c, v1, ?_⟩), rfl, q _ vs (I.hok.fresh (Nat.le_refl _)) v2⟩
  · rw [← v2.length, List.length_map]; exact g2
  · rw [Array.toArray_toList]; exact hS
theorem cl_listA (hc : X.calm = true) : SCl X (.type "list") (op1 gListA) := cl_one (CallR.or (cr_listK hc) cl_list) fun ι M H d x Q A r q => by
  have alt : PostO (cgd X) ι H (gList d M) Q → rON (cgd X) (op1 gList) [x] H Q := fun q => ⟨ι, M, [d], A, Reps.one r, q⟩
  cases d with
  | ref n =>
    unfold gListA at q
    cases e : dctM M n with
    | none => simp only [e] at q; exact .inr (alt q)
    | some kvs =>
      simp only [e] at q
      simp only [Rep] at r
      obtain ⟨a, ea, rfl⟩ := r
      exact .inl ⟨ι, M, n, kvs, a, rfl, A, ea, e, fun p vs hp rv => PostO.lst A rv q p hp⟩
  | _ => exact .inr (alt q)
/-- list(e.values()) -/
def eLVals (f : EF) : EF := fun env M => (f env M).bind fun d M1 => match d with
  | .ref n => match dctM M1 n with
    | some kvs => .ok (.ref M1.length) (M1 ++ [.lst (kvs.map (·.2))])
    | none => .bad
  | _ => .bad
theorem se_listVals {e : Expr} {f : EF} {p pos apos cpos : Pos} (hc : X.calm = true) (he : SE X W e f) (hg : Gl X "list") (hm : X.mg "list" = none) (hbase : attributeBase e "values" X.env (eval e X.env) = eval e X.env := by rfl) (hline : (apos.endLine == cpos.line) = true := by rfl)
    (hs : starEach [.Call (.Attribute e "values" apos) [] [] cpos] X.env = (false, eval (.Call (.Attribute e "values" apos) [] [] cpos) X.env) :: starEach [] X.env := by rfl) :
    SE X W (.Call (.Name "list" p) [.Call (.Attribute e "values" apos) [] [] cpos] [] pos) (eLVals f) := ⟨fun pins s σ H Q I hq => by
  obtain ⟨ι, M, env, A, E, h⟩ := hq
  refine wpAny_Call_Name_kw (ld_blt I hg hm PyProof.Rows.boot_list ?_)
  refine PyProof.Rows.callWith_type1 ?_ hs rfl
  rw [hs]
  show wpAny _ _ (spliced ((false, eval (.Call (.Attribute e "values" apos) [] [] cpos) X.env) :: backTo pos (starEach [] X.env))) _ _ s
  refine Calls.spliced_cons ?_
  refine wpAny_Call_method (T := "dict") (id := "dict.values") hbase rfl hline F.plainAttrs_dict F.slot_dict_values F.type_dict_values (thn (he.run pins s σ H _ I (tE.seq A E h)) fun v s1 ⟨x, H1, I1, r1, ι1, M1, d, st, A1, E1, rd, _, h1⟩ => ?_)
  cases d with
  | ref n =>
    simp only [Rep] at rd
    obtain ⟨a, ea, rfl⟩ := rd
    cases (show v = Value.ref a from r1)
    simp only at h1
    cases e : dctM M1 n with
    | none => rw [e] at h1; exact h1.elim
    | some kvs =>
      rw [e] at h1
      obtain ⟨o, ho, g1, g2, g3, es, ep, xs, g4, g5, g6, g7⟩ := dct_get I1 A1 ea e
      have hz := ent_size g5 g7
      have raw : s1.heap.DictRaw a es ep := ⟨o, ho, g3, g4⟩
      have I2 : Inv X pins σ H1 { s1 with heap := s1.heap.push { cls := .type "dict_values", data := .fields #[.ref a] } } := I1.kept (t' := s1.toks) fun b ob q => Heap.get?_push_of_some _ q
      refine ⟨⟨o, ho, g3.1⟩, fun b eb => by { cases eb; exact ⟨o, ho, g3.2.1⟩ }, ?_⟩
      show wpAny _ _ (callWith cpos (.builtin "dict.values") [.ref a] [] []) _ X.xe s1
      refine method_meetsIn F.slot_dict_values F.entry_dict_values rfl (PySem.evalArgs_none ⟨rfl, raw.typeIs, F.args_dict_values_1 _, _, meets_dict_values_raw a g1, ⟨es, ep, raw⟩, ?_⟩)
      refine Calls.spliced_nil ?_
      refine PySem.W.kdl_call (KdlSrc.rawValues (r := s1.heap.objs.size) (d := a) (es := es) (ep := ep)) (I2.ok.hd hc) ⟨⟨_, Heap.get?_push_size _ rfl, rfl, rfl⟩, raw.push _⟩ (by rw [hz]; exact g2) fun h' tk acc c hkeep hS hacc => ?_
      obtain ⟨vs, v1, v2⟩ := vals_vals g5 g7 hacc
      have hfr := I2.hok.fresh (Nat.le_refl _)
      refine ⟨.ref _, upd H1 _ (.lst vs), I2.laid hkeep (Nat.le_refl _) (show ObjOk X.prog X.w _ _ _ (.lst vs) from ⟨?_, acc.toList, c, v1, ?_⟩), rfl, PostO.lst A1 v2 (Post.ofO (r := some _) h1) _ hfr⟩
      · rw [← v2.length, List.length_map]; exact g2
      · rw [Array.toArray_toList]; exact hS
  | _ => exact h1.elim⟩
end
end Sh

namespace PySem
section
variable {prog : Program} {w : World} {K : Type} [DecidableEq K] {knd : HeapKind prog w K} {A : Around} {E : Value → Shared → Prop} {s : Shared}
theorem sh_dict_copy {o : Addr} {more : List (K × Addr × Value)} {Q : Value → Shared → Prop} (hu : knd.room A.in1.in1) (hoS : (o == sysModules) = false) (hlt : o < s.heap.objs.size) (ho' : (s.heap.push { cls := .type "dict", data := .dict #[] }).DictOfH knd o more)
    (hap : (∀ x ∈ more, Shared.TypeIs { s with heap := s.heap.push { cls := .type "dict", data := .dict #[] } } (.ref x.2.1) "tuple") ∧ (more.map fun x => knd.hash x.1).Nodup) (hsz : more.length ≤ sizeLine)
    (h : ∀ h', h'.DictOfH knd s.heap.objs.size more → Heap.SameBut s.heap.objs.size (s.heap.push { cls := .type "dict", data := .dict #[] }) h' → Q (.ref s.heap.objs.size) { s with heap := h' }) :
    wpAny (model prog w) A (call (.type "dict") [.ref o]) Q E s := by
  refine callType_codes (Q₁ := fun obj s₁ => obj = .ref s.heap.objs.size ∧ s₁ = { s with heap := s.heap.push { cls := .type "dict", data := .dict #[] } }) F.kt_called_dict (F.kt_typeCall_dict_1 _) F.entry_dict_init (kt_code_dict_new _ ⟨rfl, rfl⟩) ?_
  rintro obj s₁ ⟨rfl, rfl⟩
  have hnew : (s.heap.push { cls := .type "dict", data := .dict #[] }).DictOfH knd s.heap.objs.size [] := Heap.DictOfH.new s.heap
  have hn : (more.map (·.1)).Nodup := ho'.nodup
  have hdo : s.heap.objs.size ≠ o := Nat.ne_of_gt hlt
  refine ⟨hnew.typeIs, F.args_dict_init_2 _ _, ?_⟩
  unfold Builtin.«dict.__init__»
  refine wpAny_bind ?_
  unfold Builtin.Dict.selfAndRest
  refine wpAny_bind (wpAny_notOrdered_dict hnew.typeIs ?_)
  show wpAny _ _ (pure (s.heap.objs.size, [Value.ref o])) _ _ _
  refine wpAny_pure ?_
  show wpAny _ _ (Builtin.Dict.updateFrom "dict.__init__" s.heap.objs.size (.ref o) [] .none) _ _ _
  refine updateFrom_dictH (A := A.in1) (kvs := []) (more := more) .none hu hdo hoS hnew ho' (.inr hap) (by simpa using hsz) fun h' hd' _ sb => ?_
  rw [storedAllH_nil_of_nodup more hn] at hd'
  exact ⟨rfl, h h' hd' sb⟩
end
end PySem
namespace Sh
open PySem L2
/-! ### dict(d), d a dict: a copy, where no two keys hash alike -/
/-- no text in the key: its hash is the same in each world -/
def noTx : NestedKey → Bool
  | .none => true
  | .num _ => true
  | .text _ => false
  | .tup ks => noTxs ks
where noTxs : List NestedKey → Bool
  | [] => true
  | k :: ks => noTx k && noTxs ks
/-- the hash, by data -/
def hsh : NestedKey → Int
  | .none => reduceHash 0xFCA86420
  | .num i => hashInt i
  | .text _ => 0
  | .tup ks => reduceHash (Builtin.Tuple.tupleHashOf (hshs ks))
where hshs : List NestedKey → List Int
  | [] => []
  | k :: ks => hsh k :: hshs ks
mutual
theorem hsh_eq (w : World) : ∀ k : NestedKey, noTx k = true → k.hash w = hsh k
  | .none, _ => by unfold NestedKey.hash hsh; rfl
  | .num i, _ => by unfold NestedKey.hash hsh; rfl
  | .text _, h => by cases h
  | .tup ks, h => by
    have h : noTx.noTxs ks = true := by unfold noTx at h; exact h
    have e := hshs_eq w ks h
    unfold NestedKey.hash hsh
    rw [e]
theorem hshs_eq (w : World) : ∀ ks : List NestedKey, noTx.noTxs ks = true → NestedKey.hashes w ks = hsh.hshs ks
  | [], _ => by unfold NestedKey.hashes hsh.hshs; rfl
  | k :: ks, h => by
    have h : (noTx k && noTx.noTxs ks) = true := by unfold noTx.noTxs at h; exact h
    simp only [Bool.and_eq_true] at h
    unfold NestedKey.hashes hsh.hshs
    rw [hsh_eq w k h.1, hshs_eq w ks h.2]
end
def nodupI : List Int → Bool
  | [] => true
  | i :: l => !(l.contains i) && nodupI l
theorem nodupI_ok : ∀ {l : List Int}, nodupI l = true → l.Nodup
  | [], _ => List.nodup_nil
  | i :: l, h => by
    simp only [nodupI, Bool.and_eq_true, Bool.not_eq_true'] at h
    exact List.nodup_cons.mpr ⟨by simpa using h.1, nodupI_ok h.2⟩
/-- the keys' hashes, if all are told by data -/
def hashesD : List (D × D) → Option (List Int)
  | [] => some []
  | (k, _) :: r => match nkey k with
    | some x => if noTx x = true then (hashesD r).map (hsh x :: ·) else none
    | none => none
def apartD (kvs : List (D × D)) : Bool := decide (kvs.length ≤ 1) || (match hashesD kvs with
  | some l => nodupI l
  | none => false)
theorem hashesD_ok {K : PySem.W.Frag} {ι : List Addr} {H : Hp} {w : World} : ∀ {kvs : List (D × D)} {xs : List (NestedKey × Addr × Value)} {l : List Int}, Paired (EntR K ι H) kvs xs → hashesD kvs = some l → (xs.map fun x => x.1.hash w) = l
  | _, _, l, .nil, e => by cases e; rfl
  | (k, v) :: kvs, x :: xs, l, .cons r t, e => by
    unfold hashesD at e
    rw [r.1] at e
    simp only at e
    split at e
    · rename_i hn
      simp only [Option.map_eq_some_iff] at e
      obtain ⟨l', e1, rfl⟩ := e
      rw [List.map_cons, hsh_eq w _ hn, hashesD_ok t e1]
    · cases e
theorem apartD_ok {K : PySem.W.Frag} {ι : List Addr} {H : Hp} {w : World} {kvs : List (D × D)} {xs : List (NestedKey × Addr × Value)} (p : Paired (EntR K ι H) kvs xs) (h : apartD kvs = true) : (xs.map fun x => x.1.hash w).Nodup := by
  simp only [apartD, Bool.or_eq_true, decide_eq_true_eq] at h
  rcases h with h | h
  · have := Paired.length p
    match xs, this with
    | [], _ => exact List.nodup_nil
    | [x], _ => simp
    | _ :: _ :: _, this => simp at this; omega
  · cases e : hashesD kvs with
    | none => rw [e] at h; cases h
    | some l =>
      rw [e] at h
      rw [hashesD_ok p e]
      exact nodupI_ok h
def gDict : D → Store → Option (D × Store) := fun d M => match d with
  | .ref n => match dctM M n with
    | some kvs => if apartD kvs = true then some (.ref M.length, M ++ [.dct kvs]) else none
    | none => none
  | _ => none
section
variable {X : Cx} {W : WX}
theorem cl_dictC (hu : X.A.units + 64 < cLine) : SCl X (.type "dict") (op1 gDict) := by
  intro pins s σ H xs us Q I r h
  obtain ⟨ι, M, ds, A, rr, q⟩ := h
  match ds, rr, q with
  | [.ref n], rr, q =>
    obtain ⟨v, rfl, rv⟩ := reps_one rr
    simp only [Rep] at rv
    obtain ⟨a, ea, rfl⟩ := rv
    rw [Vals.ref1 r]
    simp only [op1, gDict] at q
    cases e : dctM M n with
    | none => rw [e] at q; exact q.elim
    | some kvs =>
      simp only [e] at q
      split at q
      · rename_i hap
        have I2 : Inv X pins σ H { s with heap := s.heap.push { cls := .type "dict", data := .dict #[] } } := I.kept (t' := s.toks) fun b ob q => Heap.get?_push_of_some _ q
        obtain ⟨o, ho, da⟩ := dct_get I A ea e
        obtain ⟨o2, ho2, da2⟩ := dct_get I2 A ea e
        obtain ⟨xs, hx, pr, hxl, hz, hs⟩ := dct_of I2 ho2 da2
        refine sh_dict_copy (knd := nestedKind X.prog X.w) (show X.A.units + 1 + 1 + 8 < cLine by omega) hs (Heap.lt_size ho) hx ⟨fun x hx' => ?_, apartD_ok pr hap⟩ (by omega) fun h' hd sb => ?_
        · obtain ⟨o', es, ep, _, _, _, _, his, _⟩ := hx
          have hk := (his x hx').1
          obtain ⟨i, hi⟩ := List.getElem?_of_mem hx'
          have : ∀ {k : NestedKey} {q : Addr}, NestedIs (s.heap.push { cls := .type "dict", data := .dict #[] }) k (.ref q) → Shared.TypeIs { s with heap := s.heap.push { cls := .type "dict", data := .dict #[] } } (.ref q) "tuple" := by
            intro k q hk
            cases hk with
            | tup hg hc hd hk => exact ⟨_, hg, hc⟩
          exact this hk
        · have hn := I.hok.fresh (Nat.le_refl s.heap.objs.size)
          obtain ⟨o', es, ep, ho', hex, hdt, hes, _, hnd⟩ := hd
          have kp : ∀ b u, s.heap.get? b = some u → h'.get? b = some u := fun b u e => (sb.2 b (Nat.ne_of_lt (Heap.lt_size e))).trans (Heap.get?_push_of_some _ e)
          have x3 : Ext X.K ι H (ι ++ [s.heap.objs.size]) (upd H s.heap.objs.size (dctO s.heap.objs.size o')) := ext_new hn _
          refine ⟨.ref s.heap.objs.size, upd H s.heap.objs.size (dctO s.heap.objs.size o'), I.laid (t' := s.toks) kp (Nat.le_refl _) (dctO_new (X := X) ho'), rfl, q (ι ++ [s.heap.objs.size]) _ _ (step_new hn) (A.new hn ⟨o', upd_same, big_ne I.big, hz, hex, es, ep, xs, hdt, hes, hnd, Paired.mapP pr fun _ _ z => z.ext x3⟩) ?_⟩
          simp only [Rep]
          exact ⟨_, by rw [← A.len]; simp, rfl⟩
      · exact q.elim
  | [.non], rr, q => exact q.elim
  | [.bl _], rr, q => exact q.elim
  | [.int _], rr, q => exact q.elim
  | [.str _], rr, q => exact q.elim
  | [.tup _], rr, q => exact q.elim
  | [.ty _], rr, q => exact q.elim
  | [], rr, q => exact q.elim
  | _ :: _ :: _, rr, q => exact q.elim
end
end Sh

namespace Sh
open PySem L2
/-! ### o.m(k = v, ..) -/
def eMethK (c : Nat) (m : Str) (nk np : Nat) (gD : List D → List D → List D) (ff : FF) (fo : EF) (fk : AF) : EF := fun env M => (fo env M).bind fun o M1 => match o with
  | .ref i => match M1[i]? with
    | some (.ins c' fs) => if c' = c ∧ fs.lookup m = none then (fk env M1).bind fun es M2 => if es.length = nk ∧ (gD [.ref i] es).length = np then ff (gD [.ref i] es) M2 else .bad else .bad
    | _ => .bad
  | _ => .bad
section
variable {X : Cx} {W : WX}
theorem FRel.none {K : PySem.W.Frag} {ι : List Addr} {H : Hp} {m : Str} : ∀ {fs : List (Str × D)} {vs : List (Str × V)}, FRel K ι H fs vs → fs.lookup m = none → vs.lookup m = none
  | _, _, .nil, _ => rfl
  | (a, d) :: fs, (b, v) :: vs, .cons r t, h => by
    obtain ⟨e, _⟩ := r
    simp only at e
    subst e
    simp only [List.lookup] at h ⊢
    cases q : (m == a) with
    | true => rw [q] at h; cases h
    | false => rw [q] at h; exact FRel.none t h
theorem se_methK0 {o : Expr} {m : Str} {apos pos : Pos} {c k np : Nat} {ks : List Str} {gD : List D → List D → List D} {ff : FF} {fo : EF} {fk : AF} {kws : List Keyword} {pl : Sem Bool} {f : Addr} (he : SE X W o fo) (cl : Cls X.K (ca X.K c)) (mt : Meth X.K (ca X.K c) m f) (F : FnK X k f 1 ks np gD ff) (hr : Room k X.A) (tk : Takes X W) (hkw : PK X kws (tA (cgd X) W fk))
    (hall : (backToKw pos (keywordEach kws X.env)).all (·.1.isSome) = true := by rfl) (hks : (backToKw pos (keywordEach kws X.env)).filterMap (·.1) = ks := by rfl)
    (hpl : ((backTo pos (starEach [] X.env)).any (·.1) || (backToKw pos (keywordEach kws X.env)).any (·.1.isNone)) = false := by rfl)
    (ht : eval (.Call (.Attribute o m apos) [] kws pos) X.env = (do
      let ov ← eval o X.env
      standAt apos.atName
      let (f, first) ← holding [ov] (getMethod ov m pl)
      callWith pos f first (backTo pos (starEach [] X.env)) (backToKw pos (keywordEach kws X.env))) := by rfl) :
    SE X W (.Call (.Attribute o m apos) [] kws pos) (eMethK c m ks.length np gD ff fo fk) := by
  obtain ⟨fd, ps, F, g, gV, hb, hgd⟩ := F
  refine ⟨fun pins s σ H Q I h => ?_⟩
  obtain ⟨ι, M, env, A, E, h⟩ := h
  refine PySem.W.methodCall_KW (pl := pl) (thn (he.run pins s σ H _ I (tE.seq A E h)) fun u s1 ⟨x, H1, I1, rx, ι1, M1, d, st, A1, E1, rd, _, h1⟩ => ?_) ht
  cases d with
  | ref i =>
    have rd0 := rd
    simp only [Rep] at rd
    obtain ⟨a, ea, rfl⟩ := rd
    obtain rfl : u = Value.ref a := rx
    simp only at h1
    cases e : M1[i]? with
    | none => rw [e] at h1; exact h1.elim
    | some ob =>
      rw [e] at h1
      cases ob with
      | ins c' fs =>
        simp only at h1
        by_cases hcc : c' = c ∧ fs.lookup m = none
        · rw [if_pos hcc] at h1
          obtain ⟨rfl, hno⟩ := hcc
          obtain ⟨dx, vs, g1, g2⟩ := A1.obj i a _ ea e
          refine getmeth_ok I1 g1 cl mt (g2.none hno) ?_
          refine PySem.W.callWith_KW0 (first := [.ref a]) (h₀ := X.base) I.ok.mod.kin mt.kp hall ?_ hpl
          refine thn (hkw.run pos pins s1 σ H1 _ I1 (tA.seq A1 E1 h1)) fun ws s2 ⟨zs, H2, I2, rz, ι2, M2, es, st2, A2, E2, re, _, h2⟩ => ⟨I2.kIn, ?_⟩
          rw [hks]
          by_cases hl : es.length = ks.length ∧ (gD [.ref i] es).length = np
          · rw [if_pos hl] at h2
            have r1 : Vals [V.ref a] [Value.ref a] := .cons rfl .nil
            have r2 := hb.rel r1 rz
            have hD : Reps X.K ι2 H2 (gD [.ref i] es) (gV [.ref a] zs) := hgd _ _ _ _ _ _ (Reps.one (rd0.ext (st2.ext A1.nt))) re
            refine wpAny_call (codeAny_mono (F.run X.A X.stack s2 H2 ⟨[.ref a], ks.zip ws⟩ (g [.ref a] ws) (gV [.ref a] zs) Q (WE W σ) hr I2.env0 (hb.to s2 [.ref a] ws I2.kIn rfl (by rw [← rz.length, ← re.length]; exact hl.1)) r2 ⟨ι2, M2, _, A2, hD, hl.2, postF_of h2⟩) fun r s' hq => ?_)
            cases r with
            | error e => exact passAt tk σ pins _ _ e s' I2 hq
            | ok fl =>
              cases fl with
              | ret u => exact I2.after hq
              | next => exact False.elim hq
              | brk => exact False.elim hq
              | cont => exact False.elim hq
          · rw [if_neg hl] at h2; exact h2.elim
        · rw [if_neg hcc] at h1; exact h1.elim
      | _ => exact h1.elim
  | _ => exact h1.elim
/-! ### the module's constants -/
theorem se_gint {x : Str} {i : Int} {pos : Pos} (hg : Gl X x) (hm : ∃ t, X.mg x = some (.int i t)) (hd : (x == ("__debug__" : Str)) = false := by decide) : SE X W (.Name x pos) (eC (.int i)) := by
  obtain ⟨t, hm⟩ := hm
  exact (pe_glob (v := .int i) hg hm ⟨t, rfl⟩ hd).imp fun σ H Q ⟨ι, M, env, A, E, h⟩ => h ι H _ Step.refl A (by simp only [Rep])
theorem se_gstr {x z : Str} {pos : Pos} (hg : Gl X x) (hm : ∃ t, X.mg x = some (.str z t)) (hd : (x == ("__debug__" : Str)) = false := by decide) : SE X W (.Name x pos) (eC (.str z)) := by
  obtain ⟨t, hm⟩ := hm
  exact (pe_glob (v := .str z) hg hm ⟨t, rfl⟩ hd).imp fun σ H Q ⟨ι, M, env, A, E, h⟩ => h ι H _ Step.refl A (by simp only [Rep])
/-- a tuple of texts -/
theorem reps_strs {K : PySem.W.Frag} {ι : List Addr} {H : Hp} : ∀ (zs : List Str), Reps K ι H (zs.map D.str) (zs.map V.str)
  | [] => by simp only [List.map_nil, Reps]
  | z :: zs => by simp only [List.map_cons, Reps]; exact ⟨_, _, rfl, by simp only [Rep], reps_strs zs⟩
theorem se_gtup {x : Str} {zs : List Str} {pos : Pos} (hg : Gl X x) (hm : X.mg x = some (.ref (He.ga X.K x))) (ht : He.tupB X.K x (zs.map He.Dv.str) = true) (hd : (x == ("__debug__" : Str)) = false := by decide) : SE X W (.Name x pos) (eC (.tup (zs.map D.str))) :=
  (pe_glob (v := .ref (He.ga X.K x)) hg hm rfl hd).imp fun σ H Q ⟨ι, M, env, A, E, h⟩ => h ι H _ Step.refl A (by
    have e : (zs.map He.Dv.str).map (He.Dv.v X.K) = zs.map V.str := by rw [List.map_map]; rfl
    have q := He.tupB_ok ht H
    rw [e] at q
    simp only [Rep]
    exact ⟨_, _, rfl, q, reps_strs zs⟩)
end
end Sh

namespace Sh
open PySem L2

/-! ### what a law's text gives -/
structure Wx where
  fa : List He.Fa
  fn : List He.DefD
  cs : List Nat
  tups : List (Str × List Str)
  flds : List (Str × List Nat)
  ext : PySem.W.Frag → Bool := fun _ => true
/-- no list stands in the written part -/
def noLst (K : PySem.W.Frag) : Bool := K.all fun p => match p.2.cls with
  | .type n => n != "list"
  | _ => true
theorem lookup_mem {K : PySem.W.Frag} {b : Addr} {o : Obj} (h : K.lookup b = some o) : ∃ p ∈ K, p.2 = o := by
  induction K with
  | nil => cases h
  | cons q K ih =>
    obtain ⟨c, u⟩ := q
    simp only [List.lookup] at h
    split at h
    · cases h; exact ⟨_, List.mem_cons_self, rfl⟩
    · obtain ⟨p, m, e⟩ := ih h; exact ⟨p, List.mem_cons_of_mem _ m, e⟩
theorem noLst_ok {K : PySem.W.Frag} (h : noLst K = true) : ∀ b o, K.lookup b = some o → o.cls ≠ .type "list" := fun b o e q => by
  obtain ⟨p, m, rfl⟩ := lookup_mem e
  have z := List.all_eq_true.mp h p m
  simp only [q] at z
  cases z
def Wx.chk1 (d : Wx) (K : PySem.W.Frag) : Bool := isiB K d.cs && ((d.tups.all fun p => He.tupB K p.1 (p.2.map He.Dv.str)) && (d.flds.all fun p => p.2.all fun c => (He.Fa.cls (cnm c)).ok K && (He.Fa.noat (cnm c) p.1).ok K))
def Wx.chk (d : Wx) (K : PySem.W.Frag) : Bool := (noLst K && d.ext K) && d.chk1 K
structure FX (d : Wx) (K : PySem.W.Frag) (mg : Str → Option Value) : Prop where
  says : He.SaysD d.fa d.fn K
  chk : d.chk K = true
  gl : ∀ x, He.Fa.glo x ∈ d.fa → mg x = some (.ref (He.ga K x))
  fr : ∀ x, He.Fa.free x ∈ d.fa → mg x = none
  it : ∀ x i, He.Fa.int x i ∈ d.fa → ∃ t, mg x = some (.int i t)
section
variable {d : Wx} {K : PySem.W.Frag} {mg : Str → Option Value}
theorem SaysD.mem (c : He.SaysD d.fa d.fn K) {f : He.Fa} (h : f ∈ d.fa) : f.ok K = true := by
  obtain ⟨i, e⟩ := List.getElem?_of_mem h
  exact c.fact i e
theorem FX.of {h : Heap} (X : K.In h) (G : h.Ns mainGlobals mg) (c : d.chk K = true) (s : He.SaysD d.fa d.fn K) : FX d K mg :=
  ⟨s, c, fun x m => He.glo_ok X G (SaysD.mem s m), fun x m => He.free_ok X G (SaysD.mem s m), fun x i m => He.int_ok X G (SaysD.mem s m)⟩
theorem FX.glo (F : FX d K mg) (i : Nat) {x : Str} (h : d.fa[i]? = some (.glo x) := by rfl) : mg x = some (.ref (He.ga K x)) := F.gl x (List.mem_of_getElem? h)
theorem FX.free (F : FX d K mg) (i : Nat) {x : Str} (h : d.fa[i]? = some (.free x) := by rfl) : mg x = none := F.fr x (List.mem_of_getElem? h)
theorem FX.int (F : FX d K mg) (i : Nat) {x : Str} {n : Int} (h : d.fa[i]? = some (.int x n) := by rfl) : ∃ t, mg x = some (.int n t) := F.it x n (List.mem_of_getElem? h)
theorem FX.meth (F : FX d K mg) (i : Nat) {x m : Str} (h : d.fa[i]? = some (.meth x m) := by rfl) : Meth K (He.ga K x) m (He.ma K (He.ga K x) m) := He.meth_ok (F.says.fact i h)
theorem FX.mkr (F : FX d K mg) (i : Nat) {x : Str} (h : d.fa[i]? = some (.mkr x) := by rfl) : Mk K (He.ga K x) (He.ma K (He.ga K x) "__init__") := He.mkr_ok (F.says.fact i h)
theorem FX.cls (F : FX d K mg) (i : Nat) {x : Str} (h : d.fa[i]? = some (.cls x) := by rfl) : Cls K (He.ga K x) := He.cls_ok (F.says.fact i h)
theorem FX.nol (F : FX d K mg) : ∀ b o, K.lookup b = some o → o.cls ≠ .type "list" := noLst_ok (He.ba (He.ba F.chk).1).1
theorem FX.more (F : FX d K mg) : d.ext K = true := (He.ba (He.ba F.chk).1).2
theorem FX.isi (F : FX d K mg) : IsiOk K d.cs := isiB_ok (He.ba (He.ba F.chk).2).1
theorem FX.tup (F : FX d K mg) (i : Nat) {x : Str} {zs : List Str} (h : d.tups[i]? = some (x, zs) := by rfl) : He.tupB K x (zs.map He.Dv.str) = true := List.all_eq_true.mp (He.ba (He.ba (He.ba F.chk).2).2).1 _ (List.mem_of_getElem? h)
theorem FX.fld (F : FX d K mg) (i : Nat) {f : Str} {cs : List Nat} (h : d.flds[i]? = some (f, cs) := by rfl) : ∀ c, cs.contains c = true → Cls K (ca K c) ∧ NoAttr K (ca K c) f := fun c hc => by
  have q := List.all_eq_true.mp (List.all_eq_true.mp (He.ba (He.ba (He.ba F.chk).2).2).2 _ (List.mem_of_getElem? h)) c (by simpa using hc)
  obtain ⟨q1, q2⟩ := He.ba q
  exact ⟨He.cls_ok q1, He.noat_ok q2⟩
end
/-! ### a def -/
def FnC (P : Program) (w : World) (K : PySem.W.Frag) (mg : Str → Option Value) (base : Heap) (k : Nat) (f : Addr) (n : Nat) (ff : FF) : Prop :=
  (∃ fd ps, FnOk P w K mg base (L2.CX P w) k f fd ps (spF ⟨K, P, w⟩ n ff) ∧ Binds K fd ps []) ∧ PySem.W.keepIn K (.ref f) = true
def FnKC (P : Program) (w : World) (K : PySem.W.Frag) (mg : Str → Option Value) (base : Heap) (k : Nat) (f : Addr) (n : Nat) (ks : List Str) (np : Nat) (gD : List D → List D → List D) (ff : FF) : Prop :=
  ∃ fd ps, FnOk P w K mg base (L2.CX P w) k f fd ps (spF ⟨K, P, w⟩ np ff) ∧ BD K fd ps n ks gD
section
variable {P : Program} {w : World} {K : PySem.W.Frag} {mg : Str → Option Value} {base : Heap}
theorem FnC.mono {j k n : Nat} {f : Addr} {ff : FF} (F : FnC P w K mg base j f n ff) (h : j ≤ k) : FnC P w K mg base k f n ff := by
  obtain ⟨⟨fd, ps, ⟨l, r⟩, b⟩, kp⟩ := F
  exact ⟨⟨fd, ps, ⟨l, fun A outer s H args us vs Q E hr => r A outer s H args us vs Q E (hr.mono h)⟩, b⟩, kp⟩
theorem FnKC.mono {j k n : Nat} {f : Addr} {ks : List Str} {np : Nat} {gD : List D → List D → List D} {ff : FF} (F : FnKC P w K mg base j f n ks np gD ff) (h : j ≤ k) : FnKC P w K mg base k f n ks np gD ff := by
  obtain ⟨fd, ps, ⟨l, r⟩, b⟩ := F
  exact ⟨fd, ps, ⟨l, fun A outer s H args us vs Q E hr => r A outer s H args us vs Q E (hr.mono h)⟩, b⟩
end
theorem room_u {k : Nat} {A : Around} (r : Room k A) : A.units + 65 < cLine := by have := r.un; omega
theorem room_v {k : Nat} {A : Around} (r : Room k A) : A.units + 64 < cLine := by have := r.un; omega
section
variable {P : Program} {w : World} {K : PySem.W.Frag} {mg : Str → Option Value} {base : Heap} {N : List Str} {qual : Str} {scope : Scope} {f : Addr} {cdv : Value} {A : Around} {outer : List PySem.Env} {s : Shared} {H : Hp} {E : XK}
theorem tkF : Takes (cxOf (L2.CX P w) P w K mg base N qual scope f cdv A outer s H E) (fun cls d _ H => E cls d H) := takes_of rfl rfl rfl rfl
theorem ownF : PassesOwn (model P w) (cxOf (L2.CX P w) P w K mg base N qual scope f cdv A outer s H E).A (cxOf (L2.CX P w) P w K mg base N qual scope f cdv A outer s H E).env (cxOf (L2.CX P w) P w K mg base N qual scope f cdv A outer s H E).xe := passes_of rfl
end
/-! ### short words -/
section
variable {X : Cx} {W : WX}
theorem sv (i : Nat) {x : Str} {pos : Pos} (hN : X.N[i]? = some x := by rfl) (hv : Vis X.env.scope x := by first | exact Or.inl rfl | exact Or.inr (Or.inl rfl) | exact Or.inr (Or.inr rfl)) (hd : (x == ("__debug__" : Str)) = false := by decide) (hcd : (x == ("__classdict__" : Str)) = false := by decide) : SE X W (.Name x pos) (eVar i) := se_var hN hv hd hcd
theorem sC {e : Expr} {es : List Expr} {fa : AF} {x : Str} {p pos : Pos} {j k n : Nat} {f : Addr} {ff : FF} (F : FnC X.prog X.w X.K X.mg X.base j f n ff) (hr : Room k X.A) (hm : X.mg x = some (.ref f)) (tk : Takes X W) (ha : SA X W (e :: es) fa) (hjk : j ≤ k := by decide) (hg : Gl X x := by rfl)
    (hdb : (x == ("__debug__" : Str)) = false := by decide) (he : starEach (e :: es) X.env = (false, eval e X.env) :: starEach es X.env := by rfl) (hpl : (backTo pos (starEach es X.env)).any (·.1) = false := by rfl) :
    SE X W (.Call (.Name x p) (e :: es) [] pos) (eCall n ff fa) := se_call F.1 (hr.mono hjk) hg hm F.2 tk ha hdb he hpl
theorem sC0 {x : Str} {p pos : Pos} {j k n : Nat} {f : Addr} {ff : FF} (F : FnC X.prog X.w X.K X.mg X.base j f n ff) (hr : Room k X.A) (hm : X.mg x = some (.ref f)) (tk : Takes X W) (hjk : j ≤ k := by decide) (hg : Gl X x := by rfl)
    (hdb : (x == ("__debug__" : Str)) = false := by decide) : SE X W (.Call (.Name x p) [] [] pos) (eCall n ff aNil) := se_call0 F.1 (hr.mono hjk) hg hm F.2 tk hdb
theorem gnm (i : Nat) {x : Str} {pos : Pos} (hN : X.N.Nodup) (hi : X.N[i]? = some x := by rfl) (hx : Loc X.env.scope x := by first | exact Or.inl rfl | exact Or.inr rfl) (hf : X.fn x = true ∨ X.env.scope.names.lookup x = some .local := by first | exact .inl rfl | exact .inr rfl) : SG X (.Name x pos) (gNm i) := sg_nm hN hi hx hf
theorem sset (i : Nat) {x : Str} {e : Expr} {f : EF} {pos pos' : Pos} (hN : X.N.Nodup) (he : SE X W e f) (hi : X.N[i]? = some x := by rfl) (hx : Loc X.env.scope x := by first | exact Or.inl rfl | exact Or.inr rfl) (hs : swapsWith e (some (.Name x pos')) pos.line X.env = pure false := by rfl) (hf : X.fn x = true ∨ X.env.scope.names.lookup x = some .local := by first | exact .inl rfl | exact .inr rfl) :
    SS X W (.Assign [.Name x pos'] e pos) (sSet i f) := ss_set hN hi hx he hs hf
theorem isT {e : Expr} {fe : EF} {p pos : Pos} {cs : List Nat} (n : String) {x : Str} {p2 : Pos} (O : IsiOk X.K cs) (hm : X.mg "isinstance" = none) (hmn : X.mg x = none) (ha : SE X W e fe) (hv : bootBuiltins x = some (.type n) := by decide +kernel) (hg : Gl X "isinstance" := by rfl) (hg2 : Gl X x := by rfl) (hn : x ≠ "__name__" := by decide) (hd : (x == ("__debug__" : Str)) = false := by decide)
    (he : starEach [e, .Name x p2] X.env = (false, eval e X.env) :: starEach [.Name x p2] X.env := by rfl) (he2 : starEach [.Name x p2] X.env = (false, eval (.Name x p2) X.env) :: starEach [] X.env := by rfl) (hpl : (backTo pos (starEach [.Name x p2] X.env)).any (·.1) = false := by rfl) :
    SE X W (.Call (.Name "isinstance" p) [e, .Name x p2] [] pos) (eIsi cs [.ty n] fe) := se_isi (t := .ty n) O hg hm ha (pe_bltn hg2 hmn hv rfl hn hd) he he2 hpl
theorem isC {e : Expr} {fe : EF} {p pos : Pos} {cs : List Nat} (c : Nat) {x : Str} {p2 : Pos} (O : IsiOk X.K cs) (hm : X.mg "isinstance" = none) (hmn : X.mg x = some (.ref (He.ga X.K x))) (ha : SE X W e fe) (hc : cnm c = x := by rfl) (hg : Gl X "isinstance" := by rfl) (hg2 : Gl X x := by rfl) (hd : (x == ("__debug__" : Str)) = false := by decide)
    (he : starEach [e, .Name x p2] X.env = (false, eval e X.env) :: starEach [.Name x p2] X.env := by rfl) (he2 : starEach [.Name x p2] X.env = (false, eval (.Name x p2) X.env) :: starEach [] X.env := by rfl) (hpl : (backTo pos (starEach [.Name x p2] X.env)).any (·.1) = false := by rfl) :
    SE X W (.Call (.Name "isinstance" p) [e, .Name x p2] [] pos) (eIsi cs [.cls c] fe) := se_isi (t := .cls c) O hg hm ha (pe_glob hg2 hmn (by subst hc; rfl) hd) he he2 hpl
end
/-! ### the head's hook -/
def obsX (n : Nat) (d : Wx) (g : Addr → Option Obj) : He.AlD := (d.chk (He.frG g (He.asD g n)) && (He.obsD d.fa d.fn (He.frG g (He.asD g n))).1, (He.obsD d.fa d.fn (He.frG g (He.asD g n))).2)
def hookX (n : Nat) (d : Wx) : PySem.W.Hook where
  α := He.AlD
  obs := fun s => obsX n d s.heap.get?
  val := fun _ => He.valD d.fn
  says := fun _ h => ∃ K : PySem.W.Frag, K.In h ∧ d.chk K = true ∧ He.SaysD d.fa d.fn K
  of := fun _ s e => ⟨He.frG s.heap.get? (He.asD s.heap.get? n), He.frG_in, by
    have e : obsX n d s.heap.get? = He.valD d.fn := e
    unfold obsX He.valD at e
    obtain ⟨e1, e2⟩ := Prod.mk.inj e
    obtain ⟨c1, c2⟩ := He.ba e1
    exact ⟨c1, by unfold He.SaysD He.valD; exact Prod.ext c2 e2⟩⟩
  keeps := fun _ _ _ ⟨K, hK, c⟩ k => ⟨K, PySem.W.Frag.In.keeps hK k, c⟩
theorem obsX_eq {n : Nat} {d : Wx} {g : Addr → Option Obj} {s : Shared} (h : ∀ a, g a = s.heap.get? a) : obsX n d g = (hookX n d).obs s := by
  have e : g = s.heap.get? := funext h
  rw [e] <;> rfl
end Sh

namespace Sh
open PySem L2
def clsBody (s : Stmt) : List Stmt := match s with
  | .ClassDef _ _ _ b _ _ _ _ _ _ _ => b
  | _ => []
def gId : List D → List D → List D := fun ds es => ds ++ es
def gKw (a : Nat) (dfl : List D) : List D → List D → List D := fun ds es => ds ++ (dfl.take a ++ (es ++ dfl.drop a))
theorem bd_of {K : PySem.W.Frag} {fd : FuncData} {ps : List Str} {n : Nat} (h : Binds K fd ps []) (hn : ps.length = n) : BD K fd ps n [] gId where
  ex := ⟨fun us ws => us ++ ws, fun vs zs => vs ++ zs, ⟨fun s us ws X h1 h2 => by
      have e : ws = [] := List.length_eq_zero_iff.mp h2
      subst e
      have := h s us X (by simp [h1, hn])
      simpa using this, fun r1 r2 => r1.append r2⟩, fun ι H ds es vs zs r1 r2 => r1.append r2⟩
theorem vals_take : ∀ {vs : List V} {us : List Value} (n : Nat), Vals vs us → Vals (vs.take n) (us.take n)
  | _, _, 0, _ => .nil
  | _, _, n + 1, .nil => .nil
  | _, _, n + 1, .cons a b => .cons a (vals_take n b)
theorem vals_drop : ∀ {vs : List V} {us : List Value} (n : Nat), Vals vs us → Vals (vs.drop n) (us.drop n)
  | _, _, 0, h => h
  | _, _, n + 1, .nil => .nil
  | _, _, n + 1, .cons a b => vals_drop n b
theorem vals_kw {a : Nat} {vs mz zs : List V} {us mv ws : List Value} (r1 : Vals vs us) (r2 : Vals mz mv) (r3 : Vals zs ws) : Vals (vs ++ (mz.take a ++ (zs ++ mz.drop a))) (us ++ (mv.take a ++ (ws ++ mv.drop a))) :=
  r1.append ((vals_take a r2).append (r3.append (vals_drop a r2)))
theorem bd_kw {K : PySem.W.Frag} {fd : FuncData} {ps : List Str} {n a : Nat} {ks : List Str} {mz : List V} {dfl : List D} (h : ∃ mv : List Value, KBn K fd ps n ks (fun us ws => us ++ (mv.take a ++ (ws ++ mv.drop a))) (fun vs zs => vs ++ (mz.take a ++ (zs ++ mz.drop a)))) (hd : ∀ ι H, Reps K ι H dfl mz) : BD K fd ps n ks (gKw a dfl) where
  ex := let ⟨mv, h⟩ := h; ⟨_, _, h, fun ι H ds es vs zs r1 r2 => r1.append (((hd ι H).takeN a).append (r2.append ((hd ι H).drop a)))⟩
def oNeg : O1 := fun d M => match d with
  | .int i => some (.int (-i), M)
  | _ => none
theorem so_neg {X : Cx} : SUn X (unaryOp .USub) oNeg := un_neg.imp fun x H Q ⟨ι, M, d, A, r, q⟩ => by
  cases d with
  | int i => simp only [Rep] at r; subst r; exact ⟨i, rfl, q ι H _ Step.refl A (by simp only [Rep])⟩
  | _ => exact q.elim
end Sh

namespace Sh
open PySem L2
/-! ### a call that is handed no object of ours, and hands none back: it runs apart -/
def eCallE (n : Nat) (ff : FF) (fa : AF) : EF := fun env M => (fa env M).bind fun ds M1 => if ds.length = n ∧ D.blws 0 ds = true then (match ff ds [] with
  | .ok d _ => if D.blw 0 d = true then .ok d M1 else .bad
  | _ => .bad) else .bad
section
variable {K : PySem.W.Frag} {ι : List Addr} {H : Hp} {P : Program} {w : World} {M : Store}
theorem abs_nil : Abs K [] H P w [] := ⟨rfl, List.nodup_nil, fun n a o h => by simp at h⟩
theorem reps0 {l : List D} {vs : List V} (b : D.blws 0 l = true) (h : Reps K ι H l vs) : Reps K [] H l vs := by
  have := Reps.take (n := 0) b h
  simpa using this
theorem rep0 {d : D} {v : V} (b : D.blw 0 d = true) (h : Rep K ι H d v) : Rep K [] H d v := by
  have := Rep.take (n := 0) b h
  simpa using this
theorem ext0 {ι' : List Addr} (ι2 : List Addr) : Ext K [] H ι2 H := ⟨fun n a e => by simp at e, fun _ _ h => h, fun _ _ _ h => h⟩
/-- a step from nothing keeps all that was there -/
theorem step_all {ι' : List Addr} {H' : Hp} (s : Step [] H ι' H') (A : Abs K ι H P w M) : Step ι H ι H' ∧ Abs K ι H' P w M := by
  have fr : ∀ a o, H a = some o → H' a = some o := fun a o e => s.frame a o e (by simp)
  have st : Step ι H ι H' := ⟨⟨[], by simp⟩, fun a o e _ => fr a o e, fun a h n => absurd h n, s.frz⟩
  have x : Ext K ι H ι H' := st.ext A.nt
  refine ⟨st, A.len, A.nd, fun n a o h1 h2 => ?_⟩
  have ho := A.obj n a o h1 h2
  refine ho.ext x (fun u e => fr a u e) fun xs r => ?_
  obtain ⟨u, eu⟩ := ho.some
  have eu' := fr a u eu
  rcases r with r | ⟨o', r⟩
  · rw [eu'] at r; cases r; exact .inl eu
  · rw [eu'] at r; cases r; exact .inr ⟨o', eu⟩
end
section
variable {X : Cx} {W : WX} {k n : Nat} {f : Addr} {ff : FF} {fa : AF} {x : Str} {e : Expr} {es : List Expr} {p pos : Pos}
theorem callE_imp {G : Gd} {ι : List Addr} {H : Hp} {σ : St} {M : Store} {ds : List D} {vs : List V} {Q : VK} {E : XK} (A : Abs G.K ι H G.P G.w M) (r : Reps G.K ι H ds vs)
    (h : PostE G W ι H σ (if ds.length = n ∧ D.blws 0 ds = true then (match ff ds [] with | .ok d _ => if D.blw 0 d = true then .ok d M else .bad | _ => .bad) else .bad) Q) : spF G n ff vs H Q E := by
  by_cases hl : ds.length = n ∧ D.blws 0 ds = true
  · rw [if_pos hl] at h
    refine ⟨[], [], ds, abs_nil, reps0 hl.2 r, hl.1, ?_⟩
    cases ef : ff ds [] with
    | ok d M' =>
      simp only [ef] at h
      split at h
      · rename_i hd
        intro ι' H' v st A' rv
        obtain ⟨s2, A2⟩ := step_all st A
        exact h ι H' v s2 A2 ((rep0 hd rv).ext (ext0 (ι' := []) ι))
      · exact h.elim
    | exc c fs M' => simp only [ef] at h; exact h.elim
    | bad => simp only [ef] at h; exact h.elim
  · rw [if_neg hl] at h; exact h.elim
theorem se_callE (F : Fn X k f n ff) (hr : Room k X.A) (hg : Gl X x) (hm : X.mg x = some (.ref f)) (hk : PySem.W.keepIn X.K (.ref f) = true) (tk : Takes X W) (ha : SA X W (e :: es) fa)
    (hdb : (x == ("__debug__" : Str)) = false := by decide) (he : starEach (e :: es) X.env = (false, eval e X.env) :: starEach es X.env := by rfl) (hpl : (backTo pos (starEach es X.env)).any (·.1) = false := by rfl) :
    SE X W (.Call (.Name x p) (e :: es) [] pos) (eCallE n ff fa) := by
  obtain ⟨fd, ps, F, hb⟩ := F
  refine (pe_callS (E := WE W) F hr hg hm hk hb (fun σ => passAt tk σ) ha hdb he hpl).imp fun σ H Q h => ?_
  obtain ⟨ι, M, env, A, E, h⟩ := h
  refine tA.mono (tA.seq A E h) fun xs H1 ⟨ι1, M1, d1, s1, A1, E1, r1, _, h1⟩ => ?_
  exact callE_imp A1 r1 h1
theorem se_callE0 (F : Fn X k f n ff) (hr : Room k X.A) (hg : Gl X x) (hm : X.mg x = some (.ref f)) (hk : PySem.W.keepIn X.K (.ref f) = true) (tk : Takes X W)
    (hdb : (x == ("__debug__" : Str)) = false := by decide) : SE X W (.Call (.Name x p) [] [] pos) (eCallE n ff aNil) := by
  obtain ⟨fd, ps, F, hb⟩ := F
  refine ⟨fun pins s σ H Q I h => ?_⟩
  obtain ⟨ι, M, env, A, E, h⟩ := h
  refine wpAny_Call_Name_kw (ld_glob I hg hm ?_ hdb)
  refine PySem.W.callWith_K0 I.kIn hk (run_fnS F hr hb (passAt tk σ) I .nil ?_)
  exact callE_imp (ds := []) A (by simp only [Reps]) h
theorem sCE {j : Nat} (F : FnC X.prog X.w X.K X.mg X.base j f n ff) (hr : Room k X.A) (hm : X.mg x = some (.ref f)) (tk : Takes X W) (ha : SA X W (e :: es) fa) (hjk : j ≤ k := by decide) (hg : Gl X x := by rfl)
    (hdb : (x == ("__debug__" : Str)) = false := by decide) (he : starEach (e :: es) X.env = (false, eval e X.env) :: starEach es X.env := by rfl) (hpl : (backTo pos (starEach es X.env)).any (·.1) = false := by rfl) :
    SE X W (.Call (.Name x p) (e :: es) [] pos) (eCallE n ff fa) := se_callE F.1 (hr.mono hjk) hg hm F.2 tk ha hdb he hpl
theorem sCE0 {j : Nat} (F : FnC X.prog X.w X.K X.mg X.base j f n ff) (hr : Room k X.A) (hm : X.mg x = some (.ref f)) (tk : Takes X W) (hjk : j ≤ k := by decide) (hg : Gl X x := by rfl)
    (hdb : (x == ("__debug__" : Str)) = false := by decide) : SE X W (.Call (.Name x p) [] [] pos) (eCallE n ff aNil) := se_callE0 F.1 (hr.mono hjk) hg hm F.2 tk hdb
end
/-! ### a law's end -/
def isTrueR : Res D → Bool
  | .ok (.bl true) _ => true
  | _ => false
theorem law_sp {G : Gd} {ff : FF} {H : Hp} {a : Addr} {ns : List Int} (nl : ∀ b o, G.K.lookup b = some o → o.cls ≠ .type "list") (hO : Only H) (hS : SqL G.K H a (ns.map V.int)) (h : isTrueR (ff [.ref 0] [.fz (ns.map D.int)]) = true) : spF G 1 ff [.ref a] H (fun v _ => v = .bl true) fun _ _ _ => False := by
  have hf : ∃ o, H a = some (.frz o (.lst (ns.map V.int))) := by
    rcases hS with (hS | ⟨o, hS⟩) | ⟨o, its, n, h1, h2, _⟩
    · rcases hO a with z | ⟨o, xs, z⟩ <;> (rw [hS] at z; cases z)
    · exact ⟨o, hS⟩
    · exact absurd h2 (nl a o h1)
  obtain ⟨o, hf⟩ := hf
  have repI : ∀ l : List Int, Reps G.K [a] H (l.map D.int) (l.map V.int) := by
    intro l
    induction l with
    | nil => simp only [List.map_nil, Reps]
    | cons i l ih => simp only [List.map_cons, Reps]; exact ⟨_, _, rfl, by simp only [Rep], ih⟩
  refine ⟨[a], [.fz (ns.map D.int)], [.ref 0], ⟨rfl, by simp, fun n b ob h1 h2 => ?_⟩, ?_, rfl, ?_⟩
  · cases n with
    | zero =>
      simp at h1 h2
      subst h1 h2
      exact ⟨_, o, hf, repI ns⟩
    | succ n => simp at h1
  · simp only [Reps, Rep]
    exact ⟨_, _, rfl, ⟨a, rfl, rfl⟩, rfl⟩
  · cases e : ff [.ref 0] [.fz (ns.map D.int)] with
    | ok d M' =>
      rw [e] at h
      cases d with
      | bl b =>
        cases b with
        | true => intro ι' H' v _ _ rv; simpa only [Rep] using rv
        | false => cases h
      | _ => cases h
    | exc c fs M' => rw [e] at h; cases h
    | bad => rw [e] at h; cases h
end Sh

namespace Sh
open PySem L2
/-- as HandS.HeadEnd's walk_ofE, what a def lets out told by the world -/
theorem walk_ofW {l : PySem.W.OpenLaw} {n k : Nat} {q : Program} {loose : List Str} {XP : (Str → Option Value) → Heap → Prop} {YP : World → Heap → Prop} {d : DefRec} {x : Str}
    (hn : l.most = some n) (hn2 : n ≤ sizeLine) (hdf : d.params.defaults = []) (hr : Room k callerA)
    (F : ∀ (w : World) (mg : Str → Option Value) (fa : Addr) (h : Heap), YP w h → h.Ns mainGlobals mg → mg d.name = some (.ref fa) →
      ∃ (K : PySem.W.Frag) (fd : FuncData) (sp : Sp), K.In h ∧ (∀ (s : Shared) (u : Value), BindsTo s fd ⟨[u], []⟩ [(x, u)]) ∧
        (∀ (H : Hp) (a : Addr) (ns : List Int), ns.length ≤ n → Only H → SqL K H a (ns.map V.int) → sp [.ref a] H (fun v _ => v = .bl true) fun _ _ _ => False) ∧
        ∀ base : Heap, K.In base → base.Ns mainGlobals mg → FnOk l.prog w K mg base (L2.CX l.prog w) k fa fd [x] sp) :
    PySem.W.WalkO q loose XP YP l.row.toRowW d [] (fun f vs => PySem.call f vs) := by
  refine Att.attach_call hn hdf fun w s₀ s₁ mg mb fa o pm cd doc a vs ns G Y ho hd hcd hmg hobj hints hlen hg => ?_
  obtain ⟨K, fd, sp, KX, hb, hsp, hF⟩ := F w mg fa _ Y G.T.g hmg
  exact law_call KX G.T.g G.T.b G.T.builtins G.T.nolimit hg hobj hints (Nat.le_trans hlen hn2) hr hF hb (fun H hO hS => hsp H a ns hlen hO hS) fun H e s' c => by
    obtain ⟨_, _, _, _, _, _, _, _, _, _, _, _, z⟩ := c
    exact z
end Sh

namespace Sh
open PySem L2
/-! ### clear of a list or a dict, count -/
def oClrD : OM := fun x ds M => match x, ds with
  | .ref n, [] => match M[n]? with
    | some (.dct _) => some (.non, M.set n (.dct []))
    | _ => none
  | _, _ => none
section
variable {X : Cx} {W : WX}
theorem mt_clrD : MtR X "dict.clear" (rOM (cgd X) oClrD) := by
  intro pins s σ H x xs v us Q I rx rxs h
  obtain ⟨ι, M, d, ds, A, r, rs, q⟩ := h
  match d, ds, r, rs, q with
  | .ref n, [], r, rs, q =>
    simp only [Rep] at r
    obtain ⟨a, ea, rfl⟩ := r
    simp only [Reps] at rs
    subst rs
    cases rxs
    cases (show v = Value.ref a from rx)
    simp only [oClrD] at q
    cases e : M[n]? with
    | none => rw [e] at q; exact q.elim
    | some ob =>
      rw [e] at q
      cases ob with
      | dct kvs =>
        obtain ⟨o, h1, h2⟩ := A.obj n a _ ea e
        obtain ⟨g1, g2, g3, es, ep, xs, g4, g5, g6, g7⟩ := h2
        have hz := ent_size g5 g7
        have ha := List.mem_of_getElem? ea
        refine call_meetsIn PySem.F.slot_dict_clear ⟨o, dct_at I h1, g3.1⟩ PySem.F.entry_dict_clear (PySem.F.args_dict_clear_1 _) (meets_dict_clear_raw a) ⟨es, ep, ⟨o, dct_at I h1, g3, g4⟩, by rw [hz]; exact g2, fun h' raw sb => ?_⟩
        obtain ⟨o', ho', hc', hd'⟩ := raw
        have I' : Inv X pins σ (upd H a (dctO a o')) { s with heap := h' } := I.write (x := a) (e := a) (t' := s.toks) (by rw [h1]; exact mut_dct) (.inl rfl) (fun b ob hb e => (sb.2 b hb).trans e) ⟨o', ho'⟩ (dctO_new ho')
        exact ⟨.non, _, I', rfl, q ι _ .non (step_upd ha (nf_dct h1)) (A.upd (nf_dct h1) ea ⟨o', upd_same, g1, Nat.zero_le _, hc', #[], ep + 1, [], hd', rfl, List.nodup_nil, .nil⟩) (by simp only [Rep])⟩
      | _ => exact q.elim
  | .ref n, _ :: _, r, rs, q => exact q.elim
  | .non, _, r, rs, q => exact q.elim
  | .bl _, _, r, rs, q => exact q.elim
  | .int _, _, r, rs, q => exact q.elim
  | .str _, _, r, rs, q => exact q.elim
  | .tup _, _, r, rs, q => exact q.elim
  | .ty _, _, r, rs, q => exact q.elim
def eClr (fo : EF) : EF := fun env M => (fo env M).bind fun x M1 => if tyD M1 "list" x = true then ofO (oLst gClr x [] M1) else if tyD M1 "dict" x = true then ofO (oClrD x [] M1) else .bad
theorem _root_.L2.PE.or {e : Expr} {t t' : TE} (h : PE X e t) (h' : PE X e t') : PE X e (fun σ H Q => t σ H Q ∨ t' σ H Q) := ⟨fun pins s σ H Q I q => q.elim (fun q => h.run pins s σ H Q I q) fun q => h'.run pins s σ H Q I q⟩
theorem se_clr {o : Expr} {fo : EF} {apos cpos : Pos} (ho : SE X W o fo) (hbase : attributeBase o "clear" X.env (eval o X.env) = eval o X.env := by rfl) (hline : (apos.endLine == cpos.line) = true := by rfl) : SE X W (.Call (.Attribute o "clear" apos) [] [] cpos) (eClr fo) :=
  (PE.or (se_mt0 PySem.F.plainAttrs_list PySem.F.slot_list_clear PySem.F.type_list_clear mt_clr ho hbase hline) (se_mt0 PySem.F.plainAttrs_dict PySem.F.slot_dict_clear PySem.F.type_dict_clear mt_clrD ho hbase hline)).imp fun σ H Q h => by
    obtain ⟨ι, M, env, A, E, h⟩ := h
    cases e : fo env M with
    | ok x M1 =>
      have h : PostE (cgd X) W ι H σ (if tyD M1 "list" x = true then ofO (oLst gClr x [] M1) else if tyD M1 "dict" x = true then ofO (oClrD x [] M1) else .bad) Q := by
        have := h; unfold eClr at this; rw [e] at this; exact this
      by_cases c : tyD M1 "list" x = true
      · rw [if_pos c] at h
        refine .inl ⟨ι, M, env, A, E, ?_⟩
        unfold eMt
        rw [e]
        show PostE (cgd X) W ι H σ (if tyD M1 "list" x = true then (aNil env M1).bind fun ds M2 => ofO (oLst gClr x ds M2) else .bad) Q
        rw [if_pos c]; exact h
      · rw [if_neg c] at h
        refine .inr ⟨ι, M, env, A, E, ?_⟩
        unfold eMt
        rw [e]
        show PostE (cgd X) W ι H σ (if tyD M1 "dict" x = true then (aNil env M1).bind fun ds M2 => ofO (oClrD x ds M2) else .bad) Q
        exact h
    | exc c fs M1 =>
      refine .inl ⟨ι, M, env, A, E, ?_⟩
      unfold eClr at h
      unfold eMt
      rw [e] at h ⊢
      exact h
    | bad => unfold eClr at h; rw [e] at h; exact h.elim
end
end Sh

namespace Sh
open PySem L2
def oCount : OM := fun o ds M => match o, ds with
  | .ref n, [x] => match lstM M n with
    | some l => if (flatD x && l.all flatD) = true then some (.int ((l.countP fun z => eqF z x : Nat) : Int), M) else none
    | none => none
  | _, _ => none
theorem count_rel {K : PySem.W.Frag} {ι : List Addr} {H : Hp} {x : D} {xv : V} (rx : Rep K ι H x xv) (fx : flatD x = true) : ∀ {l : List D} {vs : List V} {us : List Value}, Reps K ι H l vs → Vals vs us → l.all flatD = true → us.countP (eqU xv) = l.countP fun z => eqF z x
  | [], vs, us, r, v, _ => by simp only [Reps] at r; subst r; cases v; rfl
  | d :: l, vs, us, r, v, f => by
    simp only [Reps] at r
    obtain ⟨y, q, rfl, h1, h2⟩ := r
    simp only [List.all_cons, Bool.and_eq_true] at f
    cases v with
    | cons a b =>
      rw [List.countP_cons, List.countP_cons, eqU_of a (flat_rep h1 f.1), eqF_rep h1 rx f.1 fx, count_rel rx fx h2 b f.2]
section
variable {X : Cx} {W : WX}
theorem mt_cnt : MtR X "list.count" (rOM (cgd X) oCount) := by
  intro pins s σ H x xs v us Q I rx rxs h
  obtain ⟨ι, M, d, ds, A, r, rs, q⟩ := h
  match d, ds, r, rs, q with
  | .ref n, [y], r, rs, q =>
    simp only [Rep] at r
    obtain ⟨a, ea, rfl⟩ := r
    obtain ⟨yv, rfl, ry⟩ := reps_one rs
    cases (show v = Value.ref a from rx)
    obtain ⟨u, rfl, ru⟩ := rxs.one
    simp only [oCount] at q
    cases el : lstM M n with
    | none => rw [el] at q; exact q.elim
    | some l =>
      simp only [el] at q
      split at q
      · rename_i hf
        simp only [Bool.and_eq_true] at hf
        obtain ⟨vs, h1, h2⟩ := lst_get A ea el
        obtain ⟨its, rv, ⟨⟨cls, dd, data, sl⟩, m, ho, hc, hdn, hd⟩, hlen⟩ := I.list h1
        simp only at hc hd
        subst hc hd
        have fl := (flats_rep ry hf.1 h2 hf.2).1
        refine call_meets PySem.F.slot_list_count ⟨_, ho, rfl⟩ PySem.F.entry_list_count (PySem.F.args_list_count_2 _ _)
          (SeqAt.list_countAt a its.toArray m dd sl u (eqU yv)) ⟨ho, fun z hz => mem_eqAt ru (flat_rep ry hf.1) rv fl z (by simpa using hz), ?_⟩
        have ec : its.toArray.toList.countP (eqU yv) = l.countP fun z => eqF z y := count_rel ry hf.1 h2 rv hf.2
        refine ⟨.int (l.countP fun z => eqF z y : Nat), H, I.tok _, ⟨s.toks, ?_⟩, q ι H _ Step.refl A (by simp only [Rep])⟩
        rw [ec]
      · exact q.elim
  | .ref n, [], r, rs, q => exact q.elim
  | .ref n, _ :: _ :: _, r, rs, q => exact q.elim
  | .non, _, r, rs, q => exact q.elim
  | .bl _, _, r, rs, q => exact q.elim
  | .int _, _, r, rs, q => exact q.elim
  | .str _, _, r, rs, q => exact q.elim
  | .tup _, _, r, rs, q => exact q.elim
  | .ty _, _, r, rs, q => exact q.elim
end
end Sh

namespace Sh
open PySem L2
/-! ### dict([(k, v), ..]) -/
def pairsD : List D → Option (List (D × D))
  | [] => some []
  | .tup [k, v] :: l => if (nkey k).isSome = true then (pairsD l).map ((k, v) :: ·) else none
  | _ => none
section
variable {X : Cx} {W : WX}
theorem pairs_laid {pins : List (Addr × Obj)} {σ : L2.St} {H : Hp} {s : Shared} {ι : List Addr} (I : Inv X pins σ H s) : ∀ {l : List D} {vs : List V} {us : List Value} {kvs : List (D × D)}, Reps X.K ι H l vs → Vals vs us → pairsD l = some kvs →
    ∃ Z : List (Addr × NestedKey × Addr × Value), us = Z.map (fun z => Value.ref z.1) ∧ Paired (EntR X.K ι H) kvs (Z.map (·.2)) ∧ ∀ z ∈ Z, PairAt s.heap z.1 (.ref z.2.2.1) z.2.2.2 ∧ (nestedKind X.prog X.w).is s.heap z.2.1 z.2.2.1
  | [], vs, us, kvs, r, v, e => by
    simp only [Reps] at r
    subst r
    cases v
    cases e
    exact ⟨[], rfl, .nil, fun z h => by cases h⟩
  | d :: l, vs, us, kvs, r, v, e => by
    match d, e with
    | .tup [k, y], e =>
      simp only [pairsD] at e
      split at e
      · rename_i hk
        simp only [Option.map_eq_some_iff] at e
        obtain ⟨kvs', e1, rfl⟩ := e
        simp only [Reps] at r
        obtain ⟨x, q, rfl, h1, h2⟩ := r
        cases v with
        | cons a b =>
          obtain ⟨Z, z1, z2, z3⟩ := pairs_laid I h2 b e1
          obtain ⟨nkk, ek⟩ := Option.isSome_iff_exists.mp hk
          simp only [Rep] at h1
          obtain ⟨t, ws, rfl, hq, hr⟩ := h1
          obtain ⟨kv, yv, rfl, rk, ry⟩ := reps_two hr
          obtain ⟨its, rv, pt, _⟩ := I.tuple hq
          obtain ⟨u1, u2, rfl, ru1, ru2⟩ := vals2 rv
          obtain ⟨bb, rfl⟩ : ∃ b, kv = .ref b := by
            cases k with
            | tup l => simp only [Rep] at rk; obtain ⟨b, _, rfl, _⟩ := rk; exact ⟨b, rfl⟩
            | _ => simp [nkey] at ek
          cases (show u1 = Value.ref bb from ru1)
          refine ⟨(t, nkk, bb, u2) :: Z, ?_, .cons ⟨ek, rk, yv, ru2, ry⟩ z2, fun z hz => ?_⟩
          · rw [List.map_cons, ← z1, show _ = Value.ref t from a]
          · rcases List.mem_cons.mp hz with rfl | hz
            · exact ⟨.inl pt, key_is I rk ek⟩
            · exact z3 z hz
      · cases e
def gDictP : D → Store → Option (D × Store) := fun d M => match d with
  | .ref n => match lstM M n with
    | some l => match pairsD l with
      | some kvs => some (.ref M.length, M ++ [.dct (putAll [] kvs)])
      | none => none
    | none => none
  | _ => none
theorem cl_dictP (hc : X.calm = true) (hu : X.A.units + 64 < cLine) : SCl X (.type "dict") (op1 gDictP) := by
  intro pins s σ H xs us Q I r h
  obtain ⟨ι, M, ds, A, rr, q⟩ := h
  match ds, rr, q with
  | [.ref n], rr, q =>
    obtain ⟨v, rfl, rv⟩ := reps_one rr
    simp only [Rep] at rv
    obtain ⟨a, ea, rfl⟩ := rv
    rw [Vals.ref1 r]
    simp only [op1, gDictP] at q
    cases el : lstM M n with
    | none => rw [el] at q; exact q.elim
    | some l =>
      simp only [el] at q
      cases ep : pairsD l with
      | none => rw [ep] at q; exact q.elim
      | some kvs =>
        rw [ep] at q
        obtain ⟨vs, h1, h2⟩ := lst_get A ea el
        obtain ⟨its, rv, pl, hz⟩ := I.list h1
        obtain ⟨Z, z1, z2, z3⟩ := pairs_laid I h2 rv ep
        have hlZ : Z.length = its.length := by rw [z1, List.length_map]
        have hli := rv.length
        let ps : List (Value × Value) := Z.map fun z => (Value.ref z.2.2.1, z.2.2.2)
        let Ts : Nat → Addr := fun j => (Z[j]?.map (·.1)).getD 0
        have hps : ps.length = Z.length := List.length_map _
        have hZ : ∀ (j : Nat) (k v : Value), ps[j]? = some (k, v) → ∃ z : Addr × NestedKey × Addr × Value, Z[j]? = some z ∧ k = Value.ref z.2.2.1 ∧ v = z.2.2.2 := fun j k v e => by
          simp only [ps, List.getElem?_map, Option.map_eq_some_iff] at e
          obtain ⟨z, e1, e2⟩ := e
          cases e2
          exact ⟨z, e1, rfl, rfl⟩
        have ok : PlainSeq "list" s.heap a its.toArray ∧ PairItems s.heap its.toArray Ts ps := by
          obtain ⟨o, m, ho, hcl, hdn, hdt⟩ := pl
          refine ⟨⟨o, m, ho, hcl, hdn, hdt⟩, by rw [List.size_toArray, hps, hlZ], fun j k v e => ?_⟩
          obtain ⟨z, e1, rfl, rfl⟩ := hZ j k v e
          have eT : Ts j = z.1 := by simp only [Ts, e1, Option.map_some, Option.getD_some]
          rw [eT]
          refine ⟨?_, (z3 z (List.mem_of_getElem? e1)).1⟩
          rw [z1]
          simp [e1]
        have hn := I.hok.fresh (Nat.le_refl s.heap.objs.size)
        have keys : ∀ h' : Heap, (∀ b o, b ≠ s.heap.objs.size → s.heap.get? b = some o → h'.get? b = some o) → ∀ x ∈ Z.map (·.2), (nestedKind X.prog X.w).is h' x.1 x.2.1 := fun h' hk x hx => by
          obtain ⟨z, mz, rfl⟩ := List.mem_map.mp hx
          have q := (z3 z mz).2
          exact ⟨NestedIs.at (fun b o vs n hb _ => hk b o (Nat.ne_of_lt (Heap.lt_size hb)) hb) _ _ q.1, q.2⟩
        refine call_dict_pairsH (knd := nestedKind X.prog X.w) (ps := Z.map (·.2)) (PairArg.list a its.toArray Ts ps) (I.ok.hd hc) (show X.A.units + 1 + 1 + 8 < cLine by omega) ok ⟨by rw [List.length_map, hps], fun i key v rel => ?_⟩ (fun h' hk x hx => keys h' (fun b o hb e => hk b o hb (by simp) e) x hx) (by rw [hps, hlZ, ← hli]; exact hz) fun h' tk hd kp => ?_
        · obtain ⟨z, e1, rfl, rfl⟩ := hZ i key v rel
          exact ⟨z.2.1, z.2.2.1, by simp [e1], rfl⟩
        · obtain ⟨o', es, epo, ho', hex, hdt, hes, _, hnd⟩ := hd
          have x3 : Ext X.K ι H (ι ++ [s.heap.objs.size]) (upd H s.heap.objs.size (dctO s.heap.objs.size o')) := ext_new hn _
          have hl2 := putAll_length kvs []
          have hl3 := Paired.length z2
          rw [List.length_map] at hl3
          refine ⟨.ref s.heap.objs.size, upd H s.heap.objs.size (dctO s.heap.objs.size o'), I.laid (t' := tk) (fun b u e => kp b u (by simp) e) (Nat.le_refl _) (dctO_new (X := X) ho'), rfl, q (ι ++ [s.heap.objs.size]) _ _ (step_new hn) (A.new hn ⟨o', upd_same, big_ne I.big, ?_, hex, es, epo, _, hdt, hes, hnd, Paired.mapP (putAll_rel z2 .nil) fun _ _ z => z.ext x3⟩) ?_⟩
          · simp at hl2; omega
          · simp only [Rep]
            exact ⟨_, by rw [← A.len]; simp, rfl⟩
  | [.non], rr, q => exact q.elim
  | [.bl _], rr, q => exact q.elim
  | [.int _], rr, q => exact q.elim
  | [.str _], rr, q => exact q.elim
  | [.tup _], rr, q => exact q.elim
  | [.ty _], rr, q => exact q.elim
  | [], rr, q => exact q.elim
  | _ :: _ :: _, rr, q => exact q.elim
def gDictA : D → Store → Option (D × Store) := fun d M => match d with
  | .ref n => match dctM M n with
    | some _ => gDict d M
    | none => gDictP d M
  | _ => none
theorem cl_dictA (hc : X.calm = true) (hu : X.A.units + 64 < cLine) : SCl X (.type "dict") (op1 gDictA) := cl_one (CallR.or (cl_dictC hu) (cl_dictP hc hu)) fun ι M H d x Q A r q => by
  cases d with
  | ref n =>
    unfold gDictA at q
    cases e : dctM M n with
    | none => simp only [e] at q; exact .inr ⟨ι, M, [.ref n], A, Reps.one r, q⟩
    | some kvs => simp only [e] at q; exact .inl ⟨ι, M, [.ref n], A, Reps.one r, q⟩
  | _ => exact q.elim
end
end Sh

namespace Sh
open PySem L2
/-! ### x == y of instances whose class has its own __eq__ -/
/-- disp: the class's __eq__; cs: classes that are not below each other -/
def oEqO (cs : List Nat) (disp : Nat → Option FF) : O2 := fun x y M => match x with
  | .ref i => match M[i]? with
    | some (.ins c _) => match disp c with
      | some ff => match y with
        | .ref j => match M[j]? with
          | some (.ins e _) => if (cs.contains c && cs.contains e) = true then (match ff [x, y] M with
            | .ok d M' => some (d, M')
            | _ => none) else none
          | _ => none
        | _ => none
      | none => none
    | _ => oEq x y M
  | _ => oEq x y M
def NotF (K : PySem.W.Frag) (cs : List Nat) : Prop := ∀ c ∈ cs, ∀ e ∈ cs, PySem.W.notFirst K (ca K c) (.ref (ca K e)) = true
def notfB (K : PySem.W.Frag) (cs : List Nat) : Bool := cs.all fun c => cs.all fun e => PySem.W.notFirst K (ca K c) (.ref (ca K e))
theorem notfB_ok {K : PySem.W.Frag} {cs : List Nat} (h : notfB K cs = true) : NotF K cs := fun c m e n => List.all_eq_true.mp (List.all_eq_true.mp h c m) e n
section
variable {X : Cx} {W : WX}
theorem so_eqO {cs : List Nat} {disp : Nat → Option FF} {k : Nat} (hn : NotF X.K cs) (hd : ∀ c ff, disp c = some ff → ∃ f, Meth X.K (ca X.K c) "__eq__" f ∧ Fn X k f 2 ff) (hr : Room k X.A) : SOp X (compareOp .Eq) (oEqO cs disp) := by
  intro pins s σ H x y v u Q I rx ry q
  obtain ⟨ι, M, d, e, A, r1, r2, q⟩ := q
  have plain : PostO (cgd X) ι H (oEq d e M) Q → wpAny (model X.prog X.w) X.A (compareOp .Eq v u) (EP X pins σ Q) X.xe s := fun q =>
    so_eq (by have := hr.un; omega) pins s σ H x y v u Q I rx ry ⟨ι, M, d, e, A, r1, r2, q⟩
  cases d with
  | ref i =>
    simp only [oEqO] at q
    cases ei : M[i]? with
    | none => rw [ei] at q; exact plain q
    | some ob =>
      rw [ei] at q
      cases ob with
      | ins c fs =>
        simp only at q
        cases ec : disp c with
        | none => rw [ec] at q; exact q.elim
        | some ff =>
          simp only [ec] at q
          cases e with
          | ref j =>
            simp only at q
            cases ej : M[j]? with
            | none => rw [ej] at q; exact q.elim
            | some ob2 =>
              rw [ej] at q
              cases ob2 with
              | ins c2 fs2 =>
                simp only at q
                split at q
                · rename_i hcs
                  simp only [Bool.and_eq_true] at hcs
                  have r10 := r1
                  have r20 := r2
                  simp only [Rep] at r1 r2
                  obtain ⟨a, ea, rfl⟩ := r1
                  obtain ⟨b, eb, rfl⟩ := r2
                  cases (show v = Value.ref a from rx)
                  cases (show u = Value.ref b from ry)
                  obtain ⟨f, mt, F⟩ := hd c ff ec
                  obtain ⟨dx, vs, h1, _⟩ := A.obj i a _ ea ei
                  obtain ⟨dy, ws, h2, _⟩ := A.obj j b _ eb ej
                  obtain ⟨_, O1, _⟩ := ins_get I.hok h1
                  obtain ⟨_, J1, _⟩ := O1.look
                  obtain ⟨_, O2', _⟩ := ins_get I.hok h2
                  obtain ⟨_, J2, _⟩ := O2'.look
                  obtain ⟨m, hF⟩ := I.fr
                  show wpAny _ _ (richCompare .Eq (.ref a) (.ref b)) _ _ _
                  refine PySem.W.cmp_K (op := .Eq) (tb := .ref (ca X.K c2)) hr.units0 hF I.ok.mod.kin J1 J2.type (hn c (by simpa using hcs.1) c2 (by simpa using hcs.2)) mt.at_ mt.fn ?_
                  refine wpAny_mono (wpAny_call (run_fnR (Q := Q) (us := [.ref a, .ref b]) (vs := [.ref a, .ref b]) (fn_raw F) hr pass00 I (.cons rfl (.cons rfl .nil)) ⟨ι, M, [.ref i, .ref j], A, ?_, rfl, ?_⟩)) (fun w s' z => ?_) fun _ _ x => x
                  · simp only [Reps]
                    exact ⟨_, _, rfl, r10, _, _, rfl, r20, rfl⟩
                  · cases ef : ff [.ref i, .ref j] M with
                    | ok dd M' => rw [ef] at q; exact q
                    | exc _ _ _ => rw [ef] at q; exact q.elim
                    | bad => rw [ef] at q; exact q.elim
                  · obtain ⟨z', H', I', rz, qz⟩ := z
                    exact SlX.cmpback rz ⟨z', H', I', rz, qz⟩
                · exact q.elim
              | _ => exact q.elim
          | _ => exact q.elim
      | _ => exact plain q
  | _ => exact plain q
end
end Sh

namespace Sh
open PySem L2
section
variable {prog : Program} {w : World} {A : Around} {E : Value → Shared → Prop} {s : Shared} {K : PySem.W.Frag} {x C f : Addr} {ox : Obj} {od : Option Obj} {b : Value}
/-- what x != y asks of the class -/
structure NeOk (K : PySem.W.Frag) (C : Addr) : Prop where
  ne : PySem.W.findIn K (.ref C) "__ne__" = some (some (.builtin "object.__ne__"))
  sub : PySem.W.subIn K (.ref C) (.type "object") = some true
theorem ne_call {Q : Value → Shared → Prop} (X : K.In s.heap) (I : PySem.W.InstAt s.heap x ox C od) (c : NeOk K C) (hu : A.units + 1 < cLine) (hs : PySem.W.findIn K (.ref C) "__eq__" = some (some (.ref f))) (hf : PySem.W.isFn K (.ref f) = true)
    (h : wpAny (model prog w) A.in1 (call (.ref f) [.ref x, b]) (fun r s' => ∃ k, r = Value.bool k ∧ Q (.bool (!k)) s') E s) : wpAny (model prog w) A (call (.builtin "object.__ne__") [.ref x, b]) Q E s := by
  have inst : PySem.W.Looks (model prog w) s.heap (isInstance (.ref x) (.type "object")) true := I.type.andThen (PySem.W.looks_subIn X c.sub)
  refine wpAny_call (codeAny_call_builtin F.cmp_object.ne.plain F.cmpEntry_ne (@PySem.W.check_slot (model prog w) _ _ _ "object.__ne__" "object" "__ne__" (.ref x) [b] [] _ F.cmpKind_ne F.cmpSplit_ne inst (F.cmpArgs_ne _ _) ?_))
  unfold Builtin.«object.__ne__»
  refine wpAny_bind (wpAny_pure ?_)
  refine wpAny_bind (wpAny_cRoomFor hu ?_)
  refine wpAny_bind (PySem.W.ifBound_K X I hs hf (wpAny_mono h (fun r s' z => ?_) fun _ _ e => e))
  obtain ⟨k, rfl, q⟩ := z
  refine wpAny_bind (wpAny_of_eq (a := k) rfl ?_)
  exact wpAny_pure q
theorem ne_own {Q : Value → Shared → Prop} {tb : Value} (X : K.In s.heap) (I : PySem.W.InstAt s.heap x ox C od) (c : NeOk K C) (hu : A.units + 1 < cLine) (hb : PySem.W.Looks (model prog w) s.heap (typeOf b) tb) (hn : PySem.W.notFirst K C tb = true) (hs : PySem.W.findIn K (.ref C) "__eq__" = some (some (.ref f))) (hf : PySem.W.isFn K (.ref f) = true)
    (h : wpAny (model prog w) A.in1 (call (.ref f) [.ref x, b]) (fun r s' => ∃ k, r = Value.bool k ∧ Q (.bool (!k)) s') E s) : wpAny (model prog w) A (richCompare .NotEq (.ref x) b) Q E s := by
  have bound : wpAny (model prog w) A (callSpecialIfBound? (.ref x) "__ne__" [b]) (fun r s' => ∃ k, r = some (Value.bool k) ∧ Q (.bool k) s') E s := by
    have hc : wpAny (model prog w) A (call (.builtin "object.__ne__") ([.ref x] ++ [b]) >>= fun v => pure (some v)) (fun r s' => ∃ k, r = some (Value.bool k) ∧ Q (.bool k) s') E s :=
      wpAny_bind (ne_call (Q := fun v s' => wpAny (model prog w) A (pure (some v)) (fun r s' => ∃ k, r = some (Value.bool k) ∧ Q (.bool k) s') E s') X I c hu hs hf (wpAny_mono h (fun r s' ⟨k, e, q⟩ => ⟨k, e, wpAny_pure ⟨!k, rfl, q⟩⟩) fun _ _ e => e))
    simp only [callSpecialIfBound?, bindSpecialIfBound?]
    refine wpAny_holding (wpAny_bind (wpAny_bind (wpAny_bind (I.type.here ((PySem.W.looks_findIn X c.ne).here ?_)))))
    simp only [F.cmp_object.ne.bind]
    refine wpAny_bind (wpAny_askSetting (wpAny_ite ?_))
    split
    · exact wpAny_bind (wpAny_pure (wpAny_pure hc))
    · exact wpAny_tryCatch (wpAny_bind (wpAny_pure (wpAny_pure hc)))
  have one : wpAny (model prog w) A (tryCompare (.ref x) "__ne__" b) (fun r s' => ∃ k, r = some (Value.bool k) ∧ Q (.bool k) s') E s := by
    unfold tryCompare
    refine wpAny_bind (wpAny_mono bound (fun r s' ⟨k, e, q⟩ => ?_) fun _ _ e => e)
    subst e
    exact wpAny_pure ⟨k, rfl, q⟩
  unfold richCompare
  simp only [oneThing_ref]
  refine wpAny_holding (wpAny_bind (wpAny_cRoomFor (Nat.lt_of_succ_lt hu) ?_))
  refine wpAny_bind (I.type.here (wpAny_bind (hb.here ?_)))
  split
  · rename_i q
    have e : PySem.W.subIn K tb (.ref C) = some false := by
      rcases Bool.or_eq_true_iff.mp hn with e | e
      · rw [beq_iff_eq.mp e] at q; simp at q
      · exact beq_iff_eq.mp e
    refine wpAny_bind ((PySem.W.looks_subIn X e).here ?_)
    simp only [Bool.false_eq_true, if_false]
    refine wpAny_bind (wpAny_mono one (fun r s' z => ?_) fun _ _ e => e)
    obtain ⟨k, rfl, hq⟩ := z
    exact wpAny_pure hq
  · refine wpAny_bind (wpAny_pure ?_)
    simp only [Bool.false_eq_true, if_false]
    refine wpAny_bind (wpAny_mono one (fun r s' z => ?_) fun _ _ e => e)
    obtain ⟨k, rfl, hq⟩ := z
    exact wpAny_pure hq
end
end Sh

namespace Sh
open PySem L2
def oNeO (cs : List Nat) (disp : Nat → Option FF) : O2 := fun x y M => match x with
  | .ref i => match M[i]? with
    | some (.ins c _) => match disp c with
      | some ff => match y with
        | .ref j => match M[j]? with
          | some (.ins e _) => if (cs.contains c && cs.contains e) = true then (match ff [x, y] M with
            | .ok (.bl b) M' => some (.bl (!b), M')
            | _ => none) else none
          | _ => none
        | _ => none
      | none => none
    | _ => oNe x y M
  | _ => oNe x y M
def NeAll (K : PySem.W.Frag) (cs : List Nat) : Prop := ∀ c ∈ cs, NeOk K (ca K c)
def neB (K : PySem.W.Frag) (cs : List Nat) : Bool := cs.all fun c => He.eqO (PySem.W.findIn K (.ref (ca K c)) "__ne__") (some (some (.builtin "object.__ne__"))) && decide (PySem.W.subIn K (.ref (ca K c)) (.type "object") = some true)
theorem neB_ok {K : PySem.W.Frag} {cs : List Nat} (h : neB K cs = true) : NeAll K cs := fun c m => by
  obtain ⟨h1, h2⟩ := He.ba (List.all_eq_true.mp h c m)
  exact ⟨He.eqO_ok h1, of_decide_eq_true h2⟩
section
variable {X : Cx} {W : WX}
theorem so_neO {cs : List Nat} {disp : Nat → Option FF} {k : Nat} (hn : NotF X.K cs) (hne : NeAll X.K cs) (hd : ∀ c ff, disp c = some ff → ∃ f, Meth X.K (ca X.K c) "__eq__" f ∧ Fn X k f 2 ff) (hr : Room (k + 1) X.A) : SOp X (compareOp .NotEq) (oNeO cs disp) := by
  intro pins s σ H x y v u Q I rx ry q
  obtain ⟨ι, M, d, e, A, r1, r2, q⟩ := q
  have plain : PostO (cgd X) ι H (oNe d e M) Q → wpAny (model X.prog X.w) X.A (compareOp .NotEq v u) (EP X pins σ Q) X.xe s := fun q =>
    so_ne (by have := hr.un; omega) pins s σ H x y v u Q I rx ry ⟨ι, M, d, e, A, r1, r2, q⟩
  cases d with
  | ref i =>
    simp only [oNeO] at q
    cases ei : M[i]? with
    | none => rw [ei] at q; exact plain q
    | some ob =>
      rw [ei] at q
      cases ob with
      | ins c fs =>
        simp only at q
        cases ec : disp c with
        | none => rw [ec] at q; exact q.elim
        | some ff =>
          simp only [ec] at q
          cases e with
          | ref j =>
            simp only at q
            cases ej : M[j]? with
            | none => rw [ej] at q; exact q.elim
            | some ob2 =>
              rw [ej] at q
              cases ob2 with
              | ins c2 fs2 =>
                simp only at q
                split at q
                · rename_i hcs
                  simp only [Bool.and_eq_true] at hcs
                  have r10 := r1
                  have r20 := r2
                  simp only [Rep] at r1 r2
                  obtain ⟨a, ea, rfl⟩ := r1
                  obtain ⟨b, eb, rfl⟩ := r2
                  cases (show v = Value.ref a from rx)
                  cases (show u = Value.ref b from ry)
                  obtain ⟨f, mt, F⟩ := hd c ff ec
                  obtain ⟨dx, vs, h1, _⟩ := A.obj i a _ ea ei
                  obtain ⟨dy, ws, h2, _⟩ := A.obj j b _ eb ej
                  obtain ⟨_, O1, _⟩ := ins_get I.hok h1
                  obtain ⟨_, J1, _⟩ := O1.look
                  obtain ⟨_, O2', _⟩ := ins_get I.hok h2
                  obtain ⟨_, J2, _⟩ := O2'.look
                  show wpAny _ _ (richCompare .NotEq (.ref a) (.ref b)) _ _ _
                  refine ne_own (tb := .ref (ca X.K c2)) I.kIn J1 (hne c (by simpa using hcs.1)) (by have := hr.un; omega) J2.type (hn c (by simpa using hcs.1) c2 (by simpa using hcs.2)) mt.at_ mt.fn ?_
                  refine wpAny_mono (wpAny_call (SlX.run_at (Q := fun z H' => ∃ k, z = .bl k ∧ Q (.bl (!k)) H') (us := [.ref a, .ref b]) (ws := [.ref a, .ref b]) (fn_raw F) hr.in1 I.env0.in1 pass00 I (.cons rfl (.cons rfl .nil)) ⟨ι, M, [.ref i, .ref j], A, ?_, rfl, ?_⟩)) (fun w s' z => ?_) fun _ _ x => x
                  · simp only [Reps]
                    exact ⟨_, _, rfl, r10, _, _, rfl, r20, rfl⟩
                  · cases ef : ff [.ref i, .ref j] M with
                    | ok dd M' =>
                      rw [ef] at q
                      cases dd with
                      | bl kb =>
                        intro ι' H' v' st A' rv
                        simp only [Rep] at rv
                        exact ⟨kb, rv, q ι' H' _ st A' (by simp only [Rep])⟩
                      | _ => exact q.elim
                    | exc _ _ _ => rw [ef] at q; exact q.elim
                    | bad => rw [ef] at q; exact q.elim
                  · obtain ⟨z', H', I', rz, kb, rfl, qz⟩ := z
                    cases (show w = Value.bool kb from rz)
                    exact ⟨kb, rfl, .bl (!kb), H', I', rfl, qz⟩
                · exact q.elim
              | _ => exact q.elim
          | _ => exact q.elim
      | _ => exact plain q
  | _ => exact plain q
end
end Sh

namespace Sh
open PySem L2
/-! ### == of data with dicts in them -/
section
variable {prog : Program} {w : World} {K : Type} [DecidableEq K] {knd : HeapKind prog w K} {A : Around} {E : Value → Shared → Prop} {s : Shared}
open PySem.W in
theorem same_pairsH {nm : String} {a b : Addr} {xa xb : List (K × Addr × Value)} {r : Bool} {Q : Bool → Shared → Prop} (hu : knd.room A) (ha : (a == sysModules) = false) (hb : (b == sysModules) = false)
    (da : s.heap.DictOfH knd a xa) (db : s.heap.DictOfH knd b xb) (hits : xa.length = xb.length → KeqHitsIn prog w A s (pairsH xb) (pairsH xa) r) (h : Q (xa.length == xb.length && r) s) :
    wpAny (model prog w) A (Builtin.Dict.samePairs nm a b) Q E s := by
  obtain ⟨oa, es, ep, hoa, _, hda, hea, hia, hna⟩ := da
  obtain ⟨ob, es', ep', hob, _, hdb, heb, hib, hnb⟩ := db
  have hla : xa.length = es.size := (size_of_entries hea).symm
  have hlb : xb.length = es'.size := (size_of_entries heb).symm
  rw [hla, hlb] at h
  unfold Builtin.Dict.samePairs Builtin.Dict.showsAll
  rw [if_neg (show ¬ (a == sysModules) = true by rw [ha]; exact Bool.false_ne_true), if_neg (show ¬ (b == sysModules) = true by rw [hb]; exact Bool.false_ne_true)]
  refine wpAny_bind (wpAny_pure (wpAny_bind (wpAny_pure ?_)))
  refine wpAny_bind (wpAny_dictEntries hoa hda ?_)
  dsimp only
  refine wpAny_bind (wpAny_dictEntries hob hdb ?_)
  by_cases hsz : es.size = es'.size
  case neg =>
    rw [if_pos (by simpa using hsz)]
    have hbf : (es.size == es'.size) = false := by simpa using hsz
    rw [hbf, Bool.false_and] at h
    exact wpAny_bind (wpAny_rule (wpAny_pure h))
  case pos =>
    have h' : Q r s := by simpa [hsz] using h
    have hits' := hits (by rw [hla, hlb]; exact hsz)
    rw [if_neg (by rw [hsz]; simp)]
    refine wpAny_bind (wpAny_dictEpoch hoa hda ?_)
    refine wpAny_bind ?_
    rw [Std.Legacy.Range.forIn_eq_forIn_range']
    simp only [Std.Legacy.Range.size, Nat.sub_zero, Nat.add_sub_cancel, Nat.div_one]
    refine wpAny_forIn_list _
      (fun rest q s' => s' = s ∧ q = (none, ()) ∧ ∃ i, rest = List.range' i (es.size - i) ∧ i ≤ es.size ∧ KeqHitsIn prog w A s (pairsH xb) ((pairsH xa).drop i) r)
      _ ?_ ?_ _ _ ⟨rfl, rfl, 0, by simp, Nat.zero_le _, hits'⟩
    · rintro x rest q s' ⟨rfl, rfl, i, hr, hi, hpre⟩
      have hlt : i < es.size := by
        rcases Nat.lt_or_ge i es.size with h | h
        · exact h
        · rw [Nat.sub_eq_zero_of_le h] at hr; simp at hr
      obtain ⟨rfl, hrest⟩ : x = i ∧ rest = List.range' (i + 1) (es.size - (i + 1)) := by
        have e : es.size - i = (es.size - (i + 1)) + 1 := by omega
        rw [e, List.range'_succ] at hr
        injection hr with h1 h2
        exact ⟨h1, h2⟩
      refine wpAny_bind (wpAny_dictEntries hoa hda ?_)
      have hlt' : x < xa.length := by rw [hla]; exact hlt
      obtain ⟨k, ad, v, hkv⟩ : ∃ k ad v, xa[x] = (k, ad, v) := ⟨_, _, _, rfl⟩
      have hget : xa[x]? = some (k, ad, v) := by rw [List.getElem?_eq_getElem hlt', hkv]
      have hent : es[x]? = some (entryOfKey knd (k, ad, v)) := by rw [entry_at hea, hget]; rfl
      have hdrop : (pairsH xa).drop x = (k, v) :: (pairsH xa).drop (x + 1) := by
        have hl : x < (pairsH xa).length := by rw [pairsH_length]; exact hlt'
        rw [List.drop_eq_getElem_cons hl]
        congr 1
        simp [pairsH, hkv]
      have hkey := hia (k, ad, v) (List.mem_of_getElem? hget)
      rw [hent]
      rw [hdrop] at hpre
      show wpAny _ _ (holding [.ref ad, v] _ >>= _) _ _ _
      refine wpAny_bind (wpAny_holding (wpAny_bind ?_))
      show wpAny _ _ (dictFind b (.ref ad) (knd.hash k)) _ _ _
      refine wpAny_dictFind_heap hu hkey hob hdb heb hib hnb (fun hnone => ?_) fun j p hj => ?_
      · have hn : valueAt (pairsH xb) k = none := by rw [valueAt_pairsH, atKey_none_of_get hnone]; rfl
        rcases hpre.inv with ⟨_, er⟩ | ⟨y, _, _, hy, _⟩
        · rw [er] at h'
          refine wpAny_pure ?_
          show wpAny _ _ (if (!false) = true then _ else _) _ _ _
          rw [if_pos (by decide)]
          exact wpAny_pure (wpAny_pure h')
        · rw [hn] at hy; exact nomatch hy
      · have hv' : valueAt (pairsH xb) k = some p.2 := by rw [valueAt_pairsH, atKey_of_get hnb hj]; rfl
        have hent2 : es'[j]? = some (entryOfKey knd (k, p)) := by rw [entry_at heb, hj]; rfl
        refine wpAny_bind (wpAny_dictEntries hob hdb ?_)
        rw [hent2]
        rcases hpre.inv with ⟨hn, _⟩ | ⟨y, e, b', hy, he, hrr, er⟩
        · rw [hv'] at hn; exact nomatch hn
        · have ey : p.2 = y := Option.some.inj (hv'.symm.trans hy)
          rw [← ey] at he
          refine wpAny_holding (he _ _ ?_)
          cases e with
          | false =>
            rw [er, Bool.false_and] at h'
            show wpAny _ _ (if (!false) = true then _ else _) _ _ _
            rw [if_pos (by decide)]
            exact wpAny_pure (wpAny_pure h')
          | true =>
            rw [Bool.true_and] at er
            rw [← er] at hrr
            show wpAny _ _ (if (!true) = true then _ else _) _ _ _
            rw [if_neg (by decide)]
            refine wpAny_bind (wpAny_dictEpoch hoa hda ?_)
            rw [if_neg (by simp)]
            exact wpAny_pure ⟨rfl, rfl, x + 1, hrest, hlt, hrr⟩
    · rintro q s' ⟨rfl, rfl, i, hr, hi, hpre⟩
      have hin : i = es.size := by
        rcases Nat.lt_or_ge i es.size with h | h
        · have e : es.size - i = (es.size - (i + 1)) + 1 := by omega
          rw [e, List.range'_succ] at hr; exact nomatch hr
        · exact Nat.le_antisymm hi h
      refine wpAny_pure ?_
      have hp : (pairsH xa).drop i = [] := by rw [hin, ← hla, ← pairsH_length xa, List.drop_length]
      rw [hp] at hpre
      cases hpre
      exact h'
open PySem.W in
theorem eq_dictsH {a b : Addr} {xa xb : List (K × Addr × Value)} {r : Bool} {Q : Value → Shared → Prop} (hr : knd.room A.in1) (ha : (a == sysModules) = false) (hb : (b == sysModules) = false)
    (da : s.heap.DictOfH knd a xa) (db : s.heap.DictOfH knd b xb) (hu : A.units < cLine) (hits : xa.length = xb.length → KeqHitsIn prog w A.in1 s (pairsH xb) (pairsH xa) r) (h : Q (.bool (xa.length == xb.length && r)) s) :
    wpAny (model prog w) A (compareOp .Eq (.ref a) (.ref b)) Q E s := by
  refine wpAny_richCompare_same_room (op := .Eq) da.typeIs db.typeIs PySem.F.slot_dict_eq (wpAny_call_entry PySem.F.slot_dict_eq da.typeIs PySem.F.entry_dict_eq ?_ (PySem.F.args_dict_eq_2 _ _)) hu
  show wpAny _ _ (Builtin.Dict.dictSlotArgs "__eq__" ⟨[.ref a, .ref b], []⟩ >>= _) _ _ s
  refine wpAny_bind ?_
  unfold Builtin.Dict.dictSlotArgs
  refine wpAny_bind (wpAny_notOrdered_dict da.typeIs ?_)
  show wpAny _ _ (pure (Value.ref a, Value.ref b)) _ _ s
  refine wpAny_pure ?_
  refine wpAny_bind (wpAny_isInstance (T := "dict") db.typeIs PySem.F.sub_dict_dict ?_)
  simp only [Bool.not_true, Bool.false_eq_true, if_false]
  refine wpAny_bind (wpAny_pure (wpAny_bind (wpAny_pure ?_)))
  refine wpAny_bind (same_pairsH hr ha hb da db hits ?_)
  refine wpAny_pure ⟨_, rfl, ?_, ?_⟩
  · exact fun x => nomatch x
  · simpa using h
end
end Sh

namespace Sh
open PySem L2
/-! ### == of data with dicts in them: the meaning -/
def andO : Option Bool → Option Bool → Option Bool
  | some a, some b => some (a && b)
  | _, _ => none
def eqFs (f : D → D → Option Bool) : List D → List D → Option Bool
  | a :: l, b :: r => andO (f a b) (eqFs f l r)
  | _, _ => some true
def eqFd (f : D → D → Option Bool) (kb : List (D × D)) : List (D × D) → Option Bool
  | [] => some true
  | (k, v) :: r => match lookD kb k with
    | none => some false
    | some y => andO (f v y) (eqFd f kb r)
/-- deep ==, by objects of other numbers -/
def eqFr (f : D → D → Option Bool) (M : Store) (i j : Nat) : Option Bool := match lstM M i, lstM M j with
  | some l, some r => if l.length = r.length then eqFs f l r else some false
  | _, _ => match dctM M i, dctM M j with
    | some ka, some kb => if ka.length = kb.length then eqFd f kb ka else some false
    | _, _ => none
def eqG (M : Store) : Nat → D → D → Option Bool
  | 0, _, _ => none
  | n + 1, x, y => match eqD M x y with
    | some b => some b
    | none => match x, y with
      | .tup l, .tup r => (eqFs (eqG M n) l r).map fun b => b && l.length == r.length
      | .ref i, .ref j => if i = j then some true else eqFr (eqG M n) M i j
      | _, _ => none
/-- == where no own class stands -/
def oEqG : O2 := fun x y M => match eqD M x y with
  | some b => some (.bl b, M)
  | none => match x, y with
    | .tup l, .tup r => (eqFs (eqG M 8) l r).map fun b => (.bl (b && l.length == r.length), M)
    | .ref i, .ref j => if i = j then none else (eqFr (eqG M 8) M i j).map fun b => (.bl b, M)
    | _, _ => none
theorem optAll_eqv {M : Store} {n : Nat} (ih : ∀ d p, pyd M n d = some p → PyData.eqv p p = true) : ∀ (l : List D) (ps : List PyData), optAll (l.map (pyd M n)) = some ps → PyData.eqvAll ps ps = true
  | [], ps, e => by simp [optAll] at e; subst e; rfl
  | d :: l, ps, e => by
    simp only [List.map_cons] at e
    cases q : pyd M n d with
    | none => rw [q] at e; simp [optAll] at e
    | some p =>
      rw [q] at e
      simp only [optAll, Option.map_eq_some_iff] at e
      obtain ⟨ps', e1, rfl⟩ := e
      simp only [PyData.eqvAll, ih d p q, optAll_eqv ih l ps' e1, Bool.and_self]
theorem pyd_eqv {M : Store} : ∀ (n : Nat) (d : D) (p : PyData), pyd M n d = some p → PyData.eqv p p = true
  | 0, _, _, e => by simp [pyd] at e
  | n + 1, d, p, e => by
    cases d with
    | non => simp [pyd] at e; subst e; simp [PyData.eqv]
    | bl b => simp [pyd] at e; subst e; simp [PyData.eqv]
    | int i => simp [pyd] at e; subst e; simp [PyData.eqv]
    | str x => simp [pyd] at e; subst e; simp [PyData.eqv]
    | ty n => simp [pyd] at e
    | tup l =>
      simp only [pyd, Option.map_eq_some_iff] at e
      obtain ⟨ps, e, rfl⟩ := e
      simp only [PyData.eqv]
      exact optAll_eqv (pyd_eqv n) l ps e
    | ref k =>
      simp only [pyd] at e
      cases e1 : M[k]? with
      | none => rw [e1] at e; cases e
      | some o =>
        rw [e1] at e
        cases o with
        | lst l =>
          simp only [Option.map_eq_some_iff] at e
          obtain ⟨ps, e, rfl⟩ := e
          simp only [PyData.eqv]
          exact optAll_eqv (pyd_eqv n) l ps e
        | fz l =>
          simp only [Option.map_eq_some_iff] at e
          obtain ⟨ps, e, rfl⟩ := e
          simp only [PyData.eqv]
          exact optAll_eqv (pyd_eqv n) l ps e
        | _ => cases e
theorem eqD_refl {M : Store} {d : D} {b : Bool} (h : eqD M d d = some b) : b = true := by
  unfold eqD at h
  cases e : pyd M 8 d with
  | none => rw [e] at h; cases h
  | some p =>
    rw [e] at h
    simp only at h
    split at h
    · cases h; exact pyd_eqv 8 d p e
    · cases h
theorem eqFs_refl {f : D → D → Option Bool} (hf : ∀ d b, f d d = some b → b = true) : ∀ (l : List D) (b : Bool), eqFs f l l = some b → b = true
  | [], b, h => by simp [eqFs] at h; exact h
  | d :: l, b, h => by
    simp only [eqFs] at h
    cases e1 : f d d with
    | none => rw [e1] at h; simp [andO] at h
    | some x =>
      cases e2 : eqFs f l l with
      | none => rw [e1, e2] at h; simp [andO] at h
      | some y =>
        rw [e1, e2] at h
        simp only [andO, Option.some.injEq] at h
        rw [← h, hf d x e1, eqFs_refl hf l y e2]; rfl
theorem eqG_refl {M : Store} : ∀ (n : Nat) (d : D) (b : Bool), eqG M n d d = some b → b = true
  | 0, _, _, h => by simp [eqG] at h
  | n + 1, d, b, h => by
    simp only [eqG] at h
    cases e : eqD M d d with
    | some b' => rw [e] at h; cases h; exact eqD_refl e
    | none =>
      rw [e] at h
      cases d with
      | tup l =>
        simp only [Option.map_eq_some_iff] at h
        obtain ⟨b', h, rfl⟩ := h
        rw [eqFs_refl (eqG_refl n) l b' h]; simp
      | ref i => simp at h; exact h
      | _ => cases h
section
variable {X : Cx} {pins : List (Addr × Obj)} {σ : St} {H : Hp} {s : Shared} {ι : List Addr} {M : Store}
theorem ntsq (I : Inv X pins σ H s) (A : Abs X.K ι H X.prog X.w M) {n : Nat} {a : Addr} {vs : List V} (ea : ι[n]? = some a) (h : SqT X.K H a vs) : False := by
  have m := List.mem_of_getElem? ea
  rcases h with h | ⟨o, its, k, h, _⟩
  · exact A.nt a m vs h
  · obtain ⟨u, e⟩ := A.tracked m
    rw [(I.bs a o (I.mod.kin a o h)).2] at e
    cases e
mutual
theorem rep_inj (I : Inv X pins σ H s) (A : Abs X.K ι H X.prog X.w M) : ∀ (d e : D) (v : V), Rep X.K ι H d v → Rep X.K ι H e v → d = e
  | .non, e, v, r, q => by cases e <;> simp only [Rep] at r q <;> simp_all
  | .bl _, e, v, r, q => by cases e <;> simp only [Rep] at r q <;> simp_all
  | .int _, e, v, r, q => by cases e <;> simp only [Rep] at r q <;> simp_all
  | .str _, e, v, r, q => by cases e <;> simp only [Rep] at r q <;> simp_all
  | .ty _, e, v, r, q => by cases e <;> simp only [Rep] at r q <;> simp_all
  | .ref n, e, v, r, q => by
    simp only [Rep] at r
    obtain ⟨a, ea, rfl⟩ := r
    cases e with
    | ref m =>
      simp only [Rep] at q
      obtain ⟨b, eb, h⟩ := q
      cases h
      rw [ix_inj A.nd ea eb]
    | tup l =>
      simp only [Rep] at q
      obtain ⟨b, vs, h, h1, h2⟩ := q
      cases h
      exact absurd h1 (fun z => ntsq I A ea z)
    | _ => simp only [Rep] at q; cases q
  | .tup l, e, v, r, q => by
    simp only [Rep] at r
    obtain ⟨a, vs, rfl, h1, h2⟩ := r
    cases e with
    | ref m =>
      simp only [Rep] at q
      obtain ⟨b, eb, h⟩ := q
      cases h
      exact absurd h1 (fun z => ntsq I A eb z)
    | tup l' =>
      simp only [Rep] at q
      obtain ⟨b, us, h, g1, g2⟩ := q
      cases h
      have := I.tuple_inj h1 g1
      subst this
      rw [reps_inj I A l l' vs h2 g2]
    | _ => simp only [Rep] at q; cases q
theorem reps_inj (I : Inv X pins σ H s) (A : Abs X.K ι H X.prog X.w M) : ∀ (l r : List D) (vs : List V), Reps X.K ι H l vs → Reps X.K ι H r vs → l = r
  | [], r, vs, h, g => by
    simp only [Reps] at h
    subst h
    cases r with
    | nil => rfl
    | cons d r => simp only [Reps] at g; obtain ⟨v, z, e, _⟩ := g; cases e
  | d :: l, r, vs, h, g => by
    simp only [Reps] at h
    obtain ⟨v, z, rfl, h1, h2⟩ := h
    cases r with
    | nil => simp only [Reps] at g; cases g
    | cons e r =>
      simp only [Reps] at g
      obtain ⟨v', z', e', g1, g2⟩ := g
      cases e'
      rw [rep_inj I A d e v h1 g1, reps_inj I A l r z h2 g2]
end
end
end Sh

namespace Sh
open PySem L2
section
variable {X : Cx} {pins : List (Addr × Obj)} {σ : St} {H : Hp} {s : Shared} {ι : List Addr} {M : Store}
theorem eqD_in (I : Inv X pins σ H s) (A : Abs X.K ι H X.prog X.w M) {x y : D} {v u : V} {v' u' : Value} {b : Bool} (r1 : Rep X.K ι H x v) (r2 : Rep X.K ι H y u) (h : eqD M x y = some b) (q1 : RelV v v') (q2 : RelV u u')
    {Ar : Around} (hu : Ar.units + 66 < cLine) : SeqAt.EqIn X.prog X.w Ar s v' u' b := by
  obtain ⟨p, q, h1, h2, h3, h4, rfl⟩ := eqD_of (G := cgd X) A r1 r2 h
  obtain ⟨as, e1⟩ := Dp.reads I p v v' h1 q1
  obtain ⟨bs, e2⟩ := Dp.reads I q u u' h2 q2
  exact (SeqAt.EqAt.of_in1 (PySem.W.keq_at e1 e2 h3 h4 (by show Ar.units + 1 + 64 < cLine; omega))).inModel _ _
/-- what is to be shown of a way to compare -/
def EqOk (X : Cx) (s : Shared) (ι : List Addr) (H : Hp) (n : Nat) (f : D → D → Option Bool) : Prop := ∀ (x y : D) (v u : V) (v' u' : Value) (b : Bool), Rep X.K ι H x v → Rep X.K ι H y u → f x y = some b → RelV v v' → RelV u u' →
  ∀ Ar : Around, Ar.units + n < cLine → SeqAt.EqIn X.prog X.w Ar s v' u' b
theorem eqFs_each {n : Nat} {f : D → D → Option Bool} (hf : EqOk X s ι H n f) : ∀ (l r : List D) (vs us : List V) (ws zs : List Value) (b : Bool), Reps X.K ι H l vs → Reps X.K ι H r us → Vals vs ws → Vals us zs → eqFs f l r = some b →
    ∃ e : Nat → Bool, b = (List.range (min ws.length zs.length)).all e ∧ ∀ j (h1 : j < ws.length) (h2 : j < zs.length) (Ar : Around), Ar.units + n < cLine → SeqAt.EqIn X.prog X.w Ar s ws[j] zs[j] (e j)
  | [], r, vs, us, ws, zs, b, h1, h2, q1, q2, e => by
    simp only [Reps] at h1
    subst h1
    cases q1
    simp [eqFs] at e
    subst e
    exact ⟨fun _ => true, by simp, fun j h => by simp at h⟩
  | a :: l, [], vs, us, ws, zs, b, h1, h2, q1, q2, e => by
    simp only [Reps] at h2
    subst h2
    cases q2
    simp [eqFs] at e
    subst e
    exact ⟨fun _ => true, by simp, fun j h h' => by simp at h'⟩
  | a :: l, c :: r, vs, us, ws, zs, b, h1, h2, q1, q2, e => by
    simp only [Reps] at h1 h2
    obtain ⟨v, vs, rfl, h1, h1'⟩ := h1
    obtain ⟨u, us, rfl, h2, h2'⟩ := h2
    cases q1 with
    | @cons _ v' _ ws p1 q1 =>
      cases q2 with
      | @cons _ u' _ zs p2 q2 =>
        simp only [eqFs] at e
        cases e1 : f a c with
        | none => rw [e1] at e; simp [andO] at e
        | some x =>
          cases e2 : eqFs f l r with
          | none => rw [e1, e2] at e; simp [andO] at e
          | some y =>
            rw [e1, e2] at e
            simp only [andO, Option.some.injEq] at e
            obtain ⟨g, hg, hh⟩ := eqFs_each hf l r vs us ws zs y h1' h2' q1 q2 e2
            refine ⟨fun j => match j with | 0 => x | j + 1 => g j, ?_, fun j hj hj' => ?_⟩
            · rw [← e, hg]
              simp only [List.length_cons, Nat.add_min_add_right, List.range_succ_eq_map, List.all_cons, List.all_map]
              rfl
            · cases j with
              | zero => exact fun Ar hu => hf a c v u v' u' x h1 h2 e1 p1 p2 Ar hu
              | succ j => exact hh j (by simpa using hj) (by simpa using hj')
theorem vals_len {vs : List V} {ws : List Value} (h : Vals vs ws) : vs.length = ws.length := h.length
theorem reps_len {K : PySem.W.Frag} {ι : List Addr} {H : Hp} : ∀ {l : List D} {vs : List V}, Reps K ι H l vs → l.length = vs.length
  | [], _, h => by simp only [Reps] at h; subst h; rfl
  | d :: l, _, h => by
    simp only [Reps] at h
    obtain ⟨v, r, rfl, _, h⟩ := h
    simp [reps_len h]
open PySem.W in
theorem eqFd_hits {n : Nat} {f : D → D → Option Bool} (hf : EqOk X s ι H n f) {kb : List (D × D)} {xb : List (NestedKey × Addr × Value)} (pb : Paired (EntR X.K ι H) kb xb) {Ar : Around} (hu : Ar.units + n < cLine) :
    ∀ (ka : List (D × D)) (xa : List (NestedKey × Addr × Value)) (b : Bool), Paired (EntR X.K ι H) ka xa → eqFd f kb ka = some b → KeqHitsIn X.prog X.w Ar s (pairsH xb) (pairsH xa) b
  | [], _, b, .nil, e => by
    simp [eqFd] at e
    subst e
    exact .nil
  | (k, d) :: ka, (x, a, v) :: xa, b, .cons r t, e => by
    obtain ⟨h1, h2, w, h3, h4⟩ := r
    obtain ⟨l1, l2⟩ := look_rel (k := k) (x := x) h1 pb
    simp only [eqFd] at e
    cases q : lookD kb k with
    | none =>
      rw [q] at e
      cases e
      exact .miss (by rw [valueAt_pairsH, l2 q]; rfl)
    | some y =>
      rw [q] at e
      simp only at e
      obtain ⟨p, u, g1, g2, g3⟩ := l1 y q
      cases e1 : f d y with
      | none => rw [e1] at e; simp [andO] at e
      | some z =>
        cases e2 : eqFd f kb ka with
        | none => rw [e1, e2] at e; simp [andO] at e
        | some z' =>
          rw [e1, e2] at e
          simp only [andO, Option.some.injEq] at e
          subst e
          exact .hit (by rw [valueAt_pairsH, g1]; rfl) (hf d y w u v p.2 z h4 g3 e1 h3 g2 Ar hu) (eqFd_hits hf pb hu ka xa z' t e2)
theorem list_at (I : Inv X pins σ H s) (A : Abs X.K ι H X.prog X.w M) {i : Nat} {a : Addr} {l : List D} (ea : ι[i]? = some a) (e : lstM M i = some l) : ∃ vs ws, Reps X.K ι H l vs ∧ Vals vs ws ∧ s.heap.IsList a ws.toArray := by
  obtain ⟨vs, h1, h2⟩ := lst_get A ea e
  obtain ⟨its, rv, pl, _⟩ := I.list h1
  exact ⟨vs, its, h2, rv, pl.isList⟩
/-- the comparison of two objects of other numbers, as richCompare and as == -/
theorem eqFr_rc (I : Inv X pins σ H s) (A : Abs X.K ι H X.prog X.w M) {n : Nat} {f : D → D → Option Bool} (hf : EqOk X s ι H n f) (hn : 9 ≤ n) {i j : Nat} {a c : Addr} {b : Bool} (ei : ι[i]? = some a) (ej : ι[j]? = some c)
    (h : eqFr f M i j = some b) {Ar : Around} (hu : Ar.units + (n + 1) < cLine) {E Q : Value → Shared → Prop} (q : Q (.bool b) s) : wpAny (model X.prog X.w) Ar (compareOp .Eq (.ref a) (.ref c)) Q E s := by
  have hu' : Ar.in1.units + n < cLine := by show Ar.units + 1 + n < cLine; omega
  unfold eqFr at h
  have dd : (match dctM M i, dctM M j with
    | some ka, some kb => if ka.length = kb.length then eqFd f kb ka else some false
    | _, _ => none) = some b → wpAny (model X.prog X.w) Ar (compareOp .Eq (.ref a) (.ref c)) Q E s := fun h => by
    cases e1 : dctM M i with
    | none => rw [e1] at h; cases h
    | some ka =>
      cases e2 : dctM M j with
      | none => rw [e1, e2] at h; cases h
      | some kb =>
        rw [e1, e2] at h
        simp only at h
        obtain ⟨oa, g1, g2⟩ := dct_get I A ei e1
        obtain ⟨ob, g3, g4⟩ := dct_get I A ej e2
        obtain ⟨xa, da, pa, la, _, sa⟩ := dct_of I g1 g2
        obtain ⟨xb, db, pb, lb, _, sb⟩ := dct_of I g3 g4
        by_cases hl : ka.length = kb.length
        · rw [if_pos hl] at h
          refine eq_dictsH (r := b) (show (Ar.units + 1) + 8 < cLine by omega) sa sb da db (by omega) (fun _ => eqFd_hits hf pb hu' ka xa b pa h) ?_
          rw [la, lb, hl]
          simpa using q
        · rw [if_neg hl] at h
          cases h
          refine eq_dictsH (r := false) (show (Ar.units + 1) + 8 < cLine by omega) sa sb da db (by omega) (fun z => absurd (by rw [← la, ← lb]; exact z) hl) ?_
          simpa using q
  cases e1 : lstM M i with
  | none => rw [e1] at h; exact dd h
  | some l =>
    cases e2 : lstM M j with
    | none => rw [e1, e2] at h; exact dd h
    | some r =>
      rw [e1, e2] at h
      simp only at h
      obtain ⟨vs, ws, r1, v1, p1⟩ := list_at I A ei e1
      obtain ⟨us, zs, r2, v2, p2⟩ := list_at I A ej e2
      have hl1 := reps_len r1
      have hl2 := reps_len r2
      have hl3 := v1.length
      have hl4 := v2.length
      by_cases hl : l.length = r.length
      · rw [if_pos hl] at h
        obtain ⟨g, hg, hh⟩ := eqFs_each hf l r vs us ws zs b r1 r2 v1 v2 h
        have hs : ws.toArray.size = zs.toArray.size := by simp; omega
        refine SeqAt.rcIn_lists p1 p2 hs (by omega) (fun j h1 h2 => by simpa using hh j (by simpa using h1) (by simpa using h2) Ar.in1 hu') ?_
        have : min ws.length zs.length = ws.toArray.size := by simp at hs ⊢; omega
        rw [← this, ← hg]
        exact q
      · rw [if_neg hl] at h
        cases h
        exact SeqAt.RcAt.lists_lengths p1 p2 (by simp; omega) (by omega) _ _ E Q q
theorem eqFt_rc (I : Inv X pins σ H s) {n : Nat} {f : D → D → Option Bool} (hf : EqOk X s ι H n f) {l r : List D} {vs us : List V} {a c : Addr} {b : Bool} (t1 : SqT X.K H a vs) (r1 : Reps X.K ι H l vs) (t2 : SqT X.K H c us) (r2 : Reps X.K ι H r us)
    (h : eqFs f l r = some b) {Ar : Around} (hu : Ar.units + (n + 1) < cLine) {E Q : Value → Shared → Prop} (q : Q (.bool (b && l.length == r.length)) s) : wpAny (model X.prog X.w) Ar (compareOp .Eq (.ref a) (.ref c)) Q E s := by
  obtain ⟨ws, v1, p1, _⟩ := I.tuple t1
  obtain ⟨zs, v2, p2, _⟩ := I.tuple t2
  obtain ⟨g, hg, hh⟩ := eqFs_each hf l r vs us ws zs b r1 r2 v1 v2 h
  have hl1 := reps_len r1
  have hl2 := reps_len r2
  have hl3 := v1.length
  have hl4 := v2.length
  refine SeqAt.rcIn_tuples p1 p2 (by omega) (fun j h1 h2 => by simpa using hh j (by simpa using h1) (by simpa using h2) Ar.in1 (by show Ar.units + 1 + n < cLine; omega)) ?_
  have e1 : ws.toArray.size = l.length := by simp; omega
  have e2 : zs.toArray.size = r.length := by simp; omega
  have e3 : min ws.toArray.size zs.toArray.size = min ws.length zs.length := by simp
  rw [e3, ← hg, e1, e2]
  exact q
theorem eqG_ok (I : Inv X pins σ H s) (A : Abs X.K ι H X.prog X.w M) : ∀ n : Nat, EqOk X s ι H (n + 66) (eqG M n)
  | 0 => fun x y v u v' u' b _ _ h => by simp [eqG] at h
  | n + 1 => fun x y v u v' u' b r1 r2 h q1 q2 Ar hu => by
    simp only [eqG] at h
    cases e : eqD M x y with
    | some b' => rw [e] at h; cases h; exact eqD_in I A r1 r2 e q1 q2 (by omega)
    | none =>
      rw [e] at h
      cases x with
      | tup l =>
        cases y with
        | tup r =>
          have r1' := r1
          have r2' := r2
          simp only [Option.map_eq_some_iff] at h
          obtain ⟨b', h, rfl⟩ := h
          simp only [Rep] at r1 r2
          obtain ⟨a, vs, rfl, t1, r1⟩ := r1
          obtain ⟨c, us, rfl, t2, r2⟩ := r2
          cases (show v' = Value.ref a from q1)
          cases (show u' = Value.ref c from q2)
          by_cases hac : a = c
          · subst hac
            have := rep_inj I A _ _ _ r1' r2'
            cases this
            have hb : (b' && l.length == l.length) = true := by
              rw [eqFs_refl (eqG_refl n) l b' h]; simp
            rw [hb]
            exact (SeqAt.EqAt.same _).inModel _ _
          · exact SeqAt.EqIn.of_refs hac fun E Q hq => eqFt_rc I (eqG_ok I A n) t1 r1 t2 r2 h (by omega) hq
        | _ => cases h
      | ref i =>
        cases y with
        | ref j =>
          simp only [Rep] at r1 r2
          obtain ⟨a, ei, rfl⟩ := r1
          obtain ⟨c, ej, rfl⟩ := r2
          cases (show v' = Value.ref a from q1)
          cases (show u' = Value.ref c from q2)
          by_cases hij : i = j
          · subst hij
            rw [ei] at ej
            cases ej
            simp at h
            subst h
            exact (SeqAt.EqAt.same _).inModel _ _
          · simp only [if_neg hij] at h
            exact SeqAt.EqIn.of_refs (fun z => hij (ix_inj A.nd ei (by rw [z]; exact ej))) fun E Q hq => eqFr_rc I A (eqG_ok I A n) (by omega) ei ej h (by omega) hq
        | _ => cases h
      | _ => cases h
end
section
variable {X : Cx}
theorem so_eqG (hu : X.A.units + 80 < cLine) : SOp X (compareOp .Eq) oEqG := by
  intro pins s σ H x y v u Q I rx ry q
  obtain ⟨ι, M, d, e, A, r1, r2, q⟩ := q
  simp only [oEqG] at q
  cases ed : eqD M d e with
  | some b =>
    refine so_eq (by omega) pins s σ H x y v u Q I rx ry ⟨ι, M, d, e, A, r1, r2, ?_⟩
    rw [ed] at q
    simp only [oEq, ed, Option.map]
    exact q
  | none =>
    rw [ed] at q
    cases d with
    | tup l =>
      cases e with
      | tup r =>
        simp only [Rep] at r1 r2
        obtain ⟨a, vs, rfl, t1, r1⟩ := r1
        obtain ⟨c, us, rfl, t2, r2⟩ := r2
        cases (show v = Value.ref a from rx)
        cases (show u = Value.ref c from ry)
        cases h : eqFs (eqG M 8) l r with
        | none => simp only [h] at q; exact q.elim
        | some b =>
          simp only [h, Option.map] at q
          exact eqFt_rc I (eqG_ok I A 8) t1 r1 t2 r2 h (by omega) ⟨.bl _, H, I, rfl, PostO.bl (G := cgd X) A q⟩
      | _ => exact q.elim
    | ref i =>
      cases e with
      | ref j =>
        simp only [Rep] at r1 r2
        obtain ⟨a, ei, rfl⟩ := r1
        obtain ⟨c, ej, rfl⟩ := r2
        cases (show v = Value.ref a from rx)
        cases (show u = Value.ref c from ry)
        by_cases hij : i = j
        · simp only [if_pos hij] at q; exact q.elim
        · simp only [if_neg hij] at q
          cases h : eqFr (eqG M 8) M i j with
          | none => simp only [h] at q; exact q.elim
          | some b =>
            simp only [h, Option.map] at q
            exact eqFr_rc I A (eqG_ok I A 8) (by omega) ei ej h (by omega) ⟨.bl _, H, I, rfl, PostO.bl (G := cgd X) A q⟩
      | _ => exact q.elim
    | _ => exact q.elim
end
end Sh

namespace Sh
open PySem L2
/-! ### a statement that does not look into a locked list: what it holds is hidden meanwhile -/
def sHide (i : Nat) (f : SF) : SF := fun env M => match M[i]? with
  | some (.fz l) => match f env (M.set i .dead) with
    | .ok fl M' => .ok fl (M'.set i (.fz l))
    | _ => .bad
  | _ => .bad
section
variable {K : PySem.W.Frag} {P : Program} {w : World} {ι ι' : List Addr} {H H' : Hp} {M M' : Store}
theorem Abs.hide (A : Abs K ι H P w M) (i : Nat) : Abs K ι H P w (M.set i .dead) where
  len := by rw [List.length_set]; exact A.len
  nd := A.nd
  obj := fun n a o h1 h2 => by
    by_cases e : i = n
    · subst e
      have hl : i < M.length := by rw [← A.len]; exact (List.getElem?_eq_some_iff.mp h1).1
      rw [List.getElem?_set_self hl] at h2
      cases h2
      exact ⟨A.tracked (List.mem_of_getElem? h1), A.nt a (List.mem_of_getElem? h1)⟩
    · rw [List.getElem?_set_ne e] at h2
      exact A.obj n a o h1 h2
theorem Abs.unhide (A : Abs K ι H P w M) {i : Nat} {l : List D} (e : M[i]? = some (.fz l)) (s : Step ι H ι' H') (A' : Abs K ι' H' P w M') : Abs K ι' H' P w (M'.set i (.fz l)) where
  len := by rw [List.length_set]; exact A'.len
  nd := A'.nd
  obj := fun n a o h1 h2 => by
    by_cases en : i = n
    · subst en
      have hl : i < M'.length := by rw [← A'.len]; exact (List.getElem?_eq_some_iff.mp h1).1
      rw [List.getElem?_set_self hl] at h2
      cases h2
      obtain ⟨b, eb, vs, o, h3, h4⟩ := A.have e
      have := s.ix eb
      rw [h1] at this
      cases this
      exact ⟨vs, o, s.frz _ _ _ h3, h4.ext (s.ext A.nt)⟩
    · rw [List.getElem?_set_ne en] at h2
      exact A'.obj n a o h1 h2
end
section
variable {X : Cx} {W : WX}
theorem hide_imp {G : Gd} {f : SF} {i : Nat} {C : Ends} {σ : St} {H : Hp} (h : tS G W (sHide i f) C σ H) : tS G W f C σ H := by
  obtain ⟨ι, M, env, A, E, h⟩ := h
  unfold sHide at h
  cases e : M[i]? with
  | none => rw [e] at h; exact h.elim
  | some o =>
    rw [e] at h
    cases o with
    | fz l =>
      simp only at h
      refine ⟨ι, M.set i .dead, env, A.hide i, E, ?_⟩
      cases ef : f env (M.set i .dead) with
      | ok fl M' =>
        rw [ef] at h
        cases fl with
        | nx env' => exact fun ι' H' σ' s a r => h ι' H' σ' s (A.unhide e s a) r
        | rt d => exact fun ι' H' v s a r => h ι' H' v s (A.unhide e s a) r
        | bk env' => exact fun ι' H' σ' s a r => h ι' H' σ' s (A.unhide e s a) r
        | ct env' => exact fun ι' H' σ' s a r => h ι' H' σ' s (A.unhide e s a) r
        | xc c fs env' => exact fun ι' H' σ' cls d s a r q => h ι' H' σ' cls d s (A.unhide e s a) r q
      | exc c fs M' => rw [ef] at h; exact h.elim
      | bad => rw [ef] at h; exact h.elim
    | _ => exact h.elim
theorem ss_hide {st : Stmt} {f : SF} (i : Nat) (h : SS X W st f) : SS X W st (sHide i f) := h.imp fun C σ H q => hide_imp q
theorem sss_hide {st : List Stmt} {f : SF} (i : Nat) (h : SSs X W st f) : SSs X W st (sHide i f) := h.imp fun C σ H q => hide_imp q
theorem room_w {k : Nat} {A : Around} (r : Room k A) : A.units + 80 < cLine := by have := r.un; omega
end
end Sh

namespace Sh
open PySem L2
/-! ### dicts that were locked by a walk over them are free again behind the statement -/
def unlM : Store → Store → Store
  | .dct _ :: M, .dlk kvs :: M' => .dct kvs :: unlM M M'
  | _ :: M, o :: M' => o :: unlM M M'
  | [], M' => M'
  | _, [] => []
def unlO : Option DO → Option DO → Option DO
  | some (.dct _), some (.dlk kvs) => some (.dct kvs)
  | _, o => o
theorem unlM_get : ∀ (M M' : Store) (n : Nat), (unlM M M')[n]? = unlO M[n]? M'[n]?
  | [], M', n => by cases M' <;> simp [unlM, unlO]
  | o :: M, [], n => by
    have : unlM (o :: M) [] = [] := by cases o <;> rfl
    rw [this]
    simp only [List.getElem?_nil]
    cases (o :: M)[n]? with
    | none => rfl
    | some x => cases x <;> rfl
  | o :: M, o' :: M', n => by
    have ih := unlM_get M M'
    by_cases h : ∃ k k', o = .dct k ∧ o' = .dlk k'
    · obtain ⟨k, k', rfl, rfl⟩ := h
      cases n with
      | zero => rfl
      | succ n => simp only [unlM, List.getElem?_cons_succ]; exact ih n
    · have e : unlM (o :: M) (o' :: M') = o' :: unlM M M' := by
        cases o <;> cases o' <;> first | rfl | exact absurd ⟨_, _, rfl, rfl⟩ h
      rw [e]
      cases n with
      | zero =>
        simp only [List.getElem?_cons_zero]
        cases o <;> cases o' <;> first | rfl | exact absurd ⟨_, _, rfl, rfl⟩ h
      | succ n => simp only [List.getElem?_cons_succ]; exact ih n
theorem unlM_len : ∀ (M M' : Store), (unlM M M').length = M'.length
  | [], M' => by cases M' <;> simp [unlM]
  | o :: M, [] => by cases o <;> rfl
  | o :: M, o' :: M' => by
    have ih := unlM_len M M'
    cases o <;> cases o' <;> simp [unlM, ih]
def flU (M : Store) (r : Res Fl) : Res Fl := match r with
  | .ok (.xc c fs env) M' => .ok (.xc c fs env) M'
  | .ok fl M' => .ok fl (unlM M M')
  | r => r
def sFree (f : SF) : SF := fun env M => flU M (f env M)
def eFree (f : EF) : EF := fun env M => match f env M with
  | .ok d M' => .ok d (unlM M M')
  | r => r
/-- the heap with what stands in S unlocked -/
noncomputable def unl (S : Addr → Prop) (H : Hp) : Hp := fun b => open Classical in if S b then (match H b with
  | some (.frz _ u) => some u
  | x => x) else H b
theorem unl_out {S : Addr → Prop} {H : Hp} {b : Addr} (h : ¬ S b) : unl S H b = H b := by unfold unl; rw [if_neg h]
theorem unl_nf {S : Addr → Prop} {H : Hp} {b : Addr} (h : ∀ o u, H b ≠ some (.frz o u)) : unl S H b = H b := by
  unfold unl
  split
  · cases e : H b with
    | none => rfl
    | some x => cases x <;> first | rfl | exact absurd e (h _ _)
  · rfl
theorem unl_frz {S : Addr → Prop} {H : Hp} {b : Addr} {o : Obj} {u : HO} (h : S b) (e : H b = some (.frz o u)) : unl S H b = some u := by unfold unl; rw [if_pos h, e]
theorem unl_none {S : Addr → Prop} {H : Hp} {b : Addr} : unl S H b = none ↔ H b = none := by
  unfold unl
  split
  · cases e : H b with
    | none => simp
    | some x => cases x <;> simp
  · exact Iff.rfl
theorem unl_tup {S : Addr → Prop} {H : Hp} {b : Addr} {xs : List V} (h : H b = some (.tup xs)) : unl S H b = some (.tup xs) := by rw [unl_nf (by intro o u e; rw [h] at e; cases e), h]
theorem objOk_unl {P : Program} {w : World} {S : Addr → Prop} {H : Hp} {h : Heap} {a : Addr} : ∀ {o : HO}, ObjOk P w H h a o → ObjOk P w (unl S H) h a o
  | .lst _, x => x
  | .tup _, x => x
  | .dK _, x => x
  | .dT _, x => by
    obtain ⟨h1, h2, xs, h3, h4⟩ := x
    exact ⟨h1, h2, xs, Paired.mapP h3 fun _ _ z => ⟨z.1, unl_tup z.2.1, z.2.2⟩, h4⟩
  | .set _ _, x => x
  | .ins _ _ _, x => by
    obtain ⟨h1, h2⟩ := x
    exact ⟨by rw [unl_nf (by intro o u e; rw [h1] at e; cases e), h1], h2⟩
  | .own _, x => x
  | .xd _, x => x
  | .rng _ _, x => x
  | .frz _ u, x => ⟨x.1, objOk_unl x.2⟩
  | .tbl _, x => x
  | .met _ _, x => x
  | .ext _, x => x
theorem HOk.unl {P : Program} {w : World} {S : Addr → Prop} {H : Hp} {h : Heap} (x : HOk P w H h) : HOk P w (Sh.unl S H) h := fun a o e => by
  by_cases hs : S a
  · cases q : H a with
    | none => rw [unl_none.mpr q] at e; cases e
    | some v =>
      by_cases hf : ∃ o' u, v = .frz o' u
      · obtain ⟨o', u, rfl⟩ := hf
        rw [unl_frz hs q] at e
        cases e
        exact objOk_unl (x a _ q).2
      · rw [unl_nf (by intro o' u z; rw [q] at z; cases z; exact hf ⟨_, _, rfl⟩), q] at e
        cases e
        exact objOk_unl (x a _ q)
  · rw [unl_out hs] at e
    exact objOk_unl (x a o e)
section
variable {X : Cx} {W : WX} {pins : List (Addr × Obj)} {σ : St} {H : Hp} {s : Shared} {S : Addr → Prop}
theorem Inv.unl (I : Inv X pins σ H s) (hS : ∀ b, S b → ∀ o u, X.H_0 b ≠ some (.frz o u)) : Inv X pins σ (Sh.unl S H) s where
  ok := I.ok
  os := I.os
  bare := I.bare
  base := {
    keep := I.base.keep
    slot := I.base.slot
    free := fun b o e n hx => unl_none.mpr (I.base.free b o e n hx)
    there := I.base.there
    tups := fun b xs e => unl_tup (I.base.tups b xs e)
    frzs := fun b o u e => by
      have : ¬ S b := fun z => hS b z o u e
      rw [unl_out this]
      exact I.base.frzs b o u e
    tbls := fun b ps e => by
      obtain ⟨m, q⟩ := I.base.tbls b ps e
      exact ⟨m, by rw [unl_nf (by intro o u z; rw [q] at z; cases z), q]⟩ }
  loc := I.loc
  cell := I.cell
  free := unl_none.mpr I.free
  freeC := fun x c e => unl_none.mpr (I.freeC x c e)
  pin := fun p m => ⟨(I.pin p m).1, unl_none.mpr (I.pin p m).2.1, (I.pin p m).2.2⟩
  hok := Sh.HOk.unl I.hok
  len := I.len
end
section
variable {K : PySem.W.Frag} {P : Program} {w : World} {ι ι' : List Addr} {H H' : Hp} {M M' : Store} {S : Addr → Prop}
mutual
theorem Rep.tr (hx : ∀ (n : Nat) (a : Addr), ι[n]? = some a → ι'[n]? = some a) (ht : ∀ a vs, SqT K H a vs → SqT K H' a vs) : ∀ {d : D} {v : V}, Rep K ι H d v → Rep K ι' H' d v
  | .non, _, h => by simpa only [Rep] using h
  | .bl _, _, h => by simpa only [Rep] using h
  | .int _, _, h => by simpa only [Rep] using h
  | .str _, _, h => by simpa only [Rep] using h
  | .ty _, _, h => by simpa only [Rep] using h
  | .ref n, _, h => by
    simp only [Rep] at h ⊢
    obtain ⟨a, e, rfl⟩ := h
    exact ⟨a, hx n a e, rfl⟩
  | .tup l, _, h => by
    simp only [Rep] at h ⊢
    obtain ⟨a, vs, rfl, h1, h2⟩ := h
    exact ⟨a, vs, rfl, ht a vs h1, Reps.tr hx ht h2⟩
theorem Reps.tr (hx : ∀ (n : Nat) (a : Addr), ι[n]? = some a → ι'[n]? = some a) (ht : ∀ a vs, SqT K H a vs → SqT K H' a vs) : ∀ {l : List D} {vs : List V}, Reps K ι H l vs → Reps K ι' H' l vs
  | [], _, h => by simpa only [Reps] using h
  | d :: l, _, h => by
    simp only [Reps] at h ⊢
    obtain ⟨v, r, rfl, h1, h2⟩ := h
    exact ⟨v, r, rfl, Rep.tr hx ht h1, Reps.tr hx ht h2⟩
end
/-- what is to be unlocked: dicts that were free in M -/
def Free (ι : List Addr) (M M' : Store) (a : Addr) : Prop := ∃ (n : Nat) (k kvs : List (D × D)), ι[n]? = some a ∧ M[n]? = some (DO.dct k) ∧ M'[n]? = some (DO.dlk kvs)
theorem sqT_unl (nt : NT ι' H') (hS : ∀ a, S a → a ∈ ι') (a : Addr) (vs : List V) (h : SqT K H' a vs) : SqT K (unl S H') a vs := by
  rcases h with h | h
  · have na : ¬ S a := fun z => nt a (hS a z) vs h
    refine .inl ?_
    rcases h with h | ⟨o, h⟩
    · exact .inl (by rw [unl_out na]; exact h)
    · exact .inr ⟨o, by rw [unl_out na]; exact h⟩
  · exact .inr h
theorem Step.free (A : Abs K ι H P w M) (s : Step ι H ι' H') : Step ι H ι' (unl (Free ι M M') H') where
  pre := s.pre
  frame := fun a o h n => by
    rw [unl_out (fun ⟨k, _, _, e, _⟩ => n (List.mem_of_getElem? e))]
    exact s.frame a o h n
  fresh := s.fresh
  frz := fun a o u h => by
    have : ¬ Free ι M M' a := fun ⟨k, _, _, e, e2, _⟩ => by
      obtain ⟨o', q, _⟩ := A.obj k a _ e e2
      rw [h] at q
      cases q
    rw [unl_out this]
    exact s.frz a o u h
theorem Abs.free (A : Abs K ι H P w M) (s : Step ι H ι' H') (A' : Abs K ι' H' P w M') : Abs K ι' (unl (Free ι M M') H') P w (unlM M M') := by
  have mem : ∀ a, Free ι M M' a → a ∈ ι' := fun a ⟨_, _, _, e, _⟩ => List.mem_of_getElem? (s.ix e)
  have tr : ∀ {d v}, Rep K ι' H' d v → Rep K ι' (unl (Free ι M M') H') d v := fun h => Rep.tr (fun _ _ e => e) (sqT_unl A'.nt mem) h
  have trs : ∀ {d v}, Reps K ι' H' d v → Reps K ι' (unl (Free ι M M') H') d v := fun h => Reps.tr (fun _ _ e => e) (sqT_unl A'.nt mem) h
  have trd : ∀ {a kvs o}, DctAt K ι' H' P w a kvs o → DctAt K ι' (unl (Free ι M M') H') P w a kvs o := fun h =>
    let ⟨h1, h2, h3, es, ep, xs, h4, h5, h6, h7⟩ := h
    ⟨h1, h2, h3, es, ep, xs, h4, h5, h6, Paired.mapP h7 fun _ _ z => ⟨z.1, tr z.2.1, let ⟨v, r, z⟩ := z.2.2; ⟨v, r, tr z⟩⟩⟩
  refine ⟨by rw [unlM_len]; exact A'.len, A'.nd, fun n a o h1 h2 => ?_⟩
  rw [unlM_get] at h2
  have key : (∃ k kvs, M[n]? = some (.dct k) ∧ M'[n]? = some (.dlk kvs) ∧ o = .dct kvs) ∨ (M'[n]? = some o ∧ ¬ (∃ k kvs, M[n]? = some (.dct k) ∧ o = .dlk kvs)) := by
    cases e1 : M[n]? with
    | none => rw [e1] at h2; exact .inr ⟨h2, fun ⟨_, _, z, _⟩ => by cases z⟩
    | some x =>
      rw [e1] at h2
      cases x with
      | dct k =>
        cases e2 : M'[n]? with
        | none => rw [e2] at h2; cases h2
        | some y =>
          rw [e2] at h2
          cases y with
          | dlk kvs => cases h2; exact .inl ⟨k, kvs, rfl, rfl, rfl⟩
          | _ => cases h2; exact .inr ⟨rfl, fun ⟨_, _, _, z⟩ => by cases z⟩
      | _ => exact .inr ⟨h2, fun ⟨_, _, z, _⟩ => by cases z⟩
  rcases key with ⟨k, kvs, e1, e2, rfl⟩ | ⟨e2, hn⟩
  · obtain ⟨ob, q1, q2⟩ := A'.obj n a _ h1 e2
    obtain ⟨b, eb, _⟩ := A.have e1
    have := s.ix eb
    rw [h1] at this
    cases this
    exact ⟨ob, unl_frz ⟨n, k, kvs, eb, e1, e2⟩ q1, trd q2⟩
  · have na : ¬ Free ι M M' a := by
      rintro ⟨m, k, kvs, em, e3, e4⟩
      have hm := ix_inj A'.nd (s.ix em) h1
      subst hm
      rw [e2] at e4
      cases e4
      exact hn ⟨k, kvs, e3, rfl⟩
    have ea : unl (Free ι M M') H' a = H' a := unl_out na
    have R := A'.obj n a o h1 e2
    cases o with
    | lst l => obtain ⟨vs, g1, g2⟩ := R; exact ⟨vs, by rw [ea]; exact g1, trs g2⟩
    | fz l => obtain ⟨vs, ob, g1, g2⟩ := R; exact ⟨vs, ob, by rw [ea]; exact g1, trs g2⟩
    | dct kvs => obtain ⟨ob, g1, g2⟩ := R; exact ⟨ob, by rw [ea]; exact g1, trd g2⟩
    | dlk kvs => obtain ⟨ob, g1, g2⟩ := R; exact ⟨ob, by rw [ea]; exact g1, trd g2⟩
    | ins c fs => obtain ⟨dx, vs, g1, g2⟩ := R; exact ⟨dx, vs, by rw [ea]; exact g1, Paired.mapP g2 fun _ _ z => ⟨z.1, tr z.2⟩⟩
    | set l => obtain ⟨SS, g1, g2⟩ := R; exact ⟨SS, by rw [ea]; exact g1, g2⟩
    | dead =>
      obtain ⟨g1, g2⟩ := R
      refine ⟨by rw [ea]; exact g1, fun xs r => g2 xs ?_⟩
      rcases r with r | ⟨o, r⟩
      · exact .inl (by rw [ea] at r; exact r)
      · exact .inr ⟨o, by rw [ea] at r; exact r⟩
theorem EnvR.free {env : Env} {σ : St} (s : Step ι H ι' H') (A' : Abs K ι' H' P w M') (h : EnvR K ι' H' env σ) : EnvR K ι' (unl (Free ι M M') H') env σ :=
  ⟨h.1, fun i d e => let ⟨v, e2, r⟩ := h.2 i d e; ⟨v, e2, Rep.tr (fun _ _ e => e) (sqT_unl A'.nt fun a ⟨_, _, _, e, _⟩ => List.mem_of_getElem? (s.ix e)) r⟩⟩
theorem Rep.free {d : D} {v : V} (s : Step ι H ι' H') (A' : Abs K ι' H' P w M') (h : Rep K ι' H' d v) : Rep K ι' (unl (Free ι M M') H') d v :=
  Rep.tr (fun _ _ e => e) (sqT_unl A'.nt fun a ⟨_, _, _, e, _⟩ => List.mem_of_getElem? (s.ix e)) h
end
section
variable {X : Cx} {W : WX}
theorem free_h0 {pins : List (Addr × Obj)} {σ : St} {H : Hp} {s : Shared} {ι : List Addr} {M M' : Store} (I : Inv X pins σ H s) (A : Abs X.K ι H X.prog X.w M) : ∀ b, Free ι M M' b → ∀ o u, X.H_0 b ≠ some (.frz o u) := fun b ⟨n, k, kvs, e, e2, _⟩ o u z => by
  obtain ⟨o', q, _⟩ := A.obj n b _ e e2
  rw [I.base.frzs b o u z] at q
  cases q
theorem ss_free {st : Stmt} {f : SF} (h : SS X W st f) : SS X W st (sFree f) := ⟨fun pins s σ H C I q => by
  obtain ⟨ι, M, env, A, E, q⟩ := q
  unfold sFree at q
  cases ef : f env M with
  | ok fl M' =>
    rw [ef] at q
    have h0 := free_h0 (M' := M') I A
    refine wpAny_mono (h.run pins s σ H ⟨fun σ' H' => C.nx σ' (unl (Free ι M M') H'), fun v H' => C.rt v (unl (Free ι M M') H'), fun σ' H' => C.bk σ' (unl (Free ι M M') H'), fun σ' H' => C.ct σ' (unl (Free ι M M') H')⟩ I ⟨ι, M, env, A, E, ?_⟩) (fun fl' s' z => ?_) fun _ _ x => x
    · rw [ef]
      cases fl with
      | nx env' => exact fun ι' H' σ' st a r => q ι' _ σ' (st.free A) (A.free st a) (r.free st a)
      | rt d => exact fun ι' H' v st a r => q ι' _ v (st.free A) (A.free st a) (Rep.free st a r)
      | bk env' => exact fun ι' H' σ' st a r => q ι' _ σ' (st.free A) (A.free st a) (r.free st a)
      | ct env' => exact fun ι' H' σ' st a r => q ι' _ σ' (st.free A) (A.free st a) (r.free st a)
      | xc c fs env' => exact q
    · cases fl' with
      | next => obtain ⟨σ', H', I', z⟩ := z; exact ⟨σ', _, Inv.unl I' h0, z⟩
      | brk => obtain ⟨σ', H', I', z⟩ := z; exact ⟨σ', _, Inv.unl I' h0, z⟩
      | cont => obtain ⟨σ', H', I', z⟩ := z; exact ⟨σ', _, Inv.unl I' h0, z⟩
      | ret u => obtain ⟨v, σ', H', I', rv, z⟩ := z; exact ⟨v, σ', _, Inv.unl I' h0, rv, z⟩
  | exc c fs M' => rw [ef] at q; exact q.elim
  | bad => rw [ef] at q; exact q.elim⟩
theorem se_free {e : Expr} {f : EF} (h : SE X W e f) : SE X W e (eFree f) := ⟨fun pins s σ H Q I q => by
  obtain ⟨ι, M, env, A, E, q⟩ := q
  unfold eFree at q
  cases ef : f env M with
  | ok d M' =>
    rw [ef] at q
    have h0 := free_h0 (M' := M') I A
    refine wpAny_mono (h.run pins s σ H (fun v H' => Q v (unl (Free ι M M') H')) I ⟨ι, M, env, A, E, ?_⟩) (fun u s' z => ?_) fun _ _ x => x
    · rw [ef]
      exact fun ι' H' v st a r => q ι' _ v (st.free A) (A.free st a) (Rep.free st a r)
    · obtain ⟨v, H', I', rv, z⟩ := z
      exact ⟨v, _, Inv.unl I' h0, rv, z⟩
  | exc c fs M' => exact h.run pins s σ H Q I ⟨ι, M, env, A, E, by rw [ef] at q ⊢; exact q⟩
  | bad => rw [ef] at q; exact q.elim⟩
end
end Sh

namespace Sh
open PySem L2
/-! ### behind a statement, new objects are forgotten, and all names but the first k -/
def blwE (n : Nat) : List (Option D) → Bool
  | [] => true
  | some d :: l => D.blw n d && blwE n l
  | none :: l => blwE n l
def sGc (k : Nat) (f : SF) : SF := fun env M => match f env M with
  | .ok (.nx env') M' => if M.isPrefixOf M' = true ∧ blwE M.length (env'.take k) = true then .ok (.nx (env'.take k ++ List.replicate (env'.length - k) none)) M else .bad
  | r => r
section
variable {K : PySem.W.Frag} {P : Program} {w : World} {ι ι' : List Addr} {H H' : Hp} {M M' : Store}
theorem blwE_get {n : Nat} : ∀ {l : List (Option D)} {i : Nat} {d : D}, blwE n l = true → l[i]? = some (some d) → D.blw n d = true
  | [], i, d, _, e => by simp at e
  | o :: l, 0, d, h, e => by
    simp at e
    subst e
    simp only [blwE, Bool.and_eq_true] at h
    exact h.1
  | o :: l, i + 1, d, h, e => by
    have h' : blwE n l = true := by
      cases o with
      | none => exact h
      | some x => simp only [blwE, Bool.and_eq_true] at h; exact h.2
    exact blwE_get (i := i) h' (by simpa using e)
theorem EnvR.gc {env : Env} {σ : St} {n k : Nat} (E : EnvR K ι H env σ) (b : blwE n (env.take k) = true) : EnvR K (ι.take n) H (env.take k ++ List.replicate (env.length - k) none) σ := by
  refine ⟨?_, fun i d e => ?_⟩
  · rw [← E.1]; simp; omega
  · by_cases hi : i < (env.take k).length
    · rw [List.getElem?_append_left hi] at e
      have hb := blwE_get b e
      rw [List.getElem?_take] at e
      split at e
      · obtain ⟨v, e2, r⟩ := E.2 i d e
        exact ⟨v, e2, Rep.take hb r⟩
      · cases e
    · rw [List.getElem?_append_right (by omega)] at e
      have := List.mem_of_getElem? e
      rw [List.mem_replicate] at this
      exact absurd this.2 (by simp)
theorem step_take {n : Nat} (hn : ι.length ≤ n) (s : Step ι H ι' H') : Step ι H (ι'.take n) H' where
  pre := by
    obtain ⟨m, rfl⟩ := s.pre
    exact ⟨m.take (n - ι.length), by rw [List.take_append, List.take_of_length_le hn]⟩
  frame := s.frame
  fresh := fun a h n' => s.fresh a (List.mem_of_mem_take h) n'
  frz := s.frz
end
theorem prefix_take {M M' : Store} (h : M.isPrefixOf M' = true) : M'.take M.length = M := by
  rw [List.isPrefixOf_iff_prefix] at h
  obtain ⟨t, rfl⟩ := h
  simp
section
variable {X : Cx} {W : WX}
theorem gc_imp {G : Gd} {f : SF} {k : Nat} {C : Ends} {σ : St} {H : Hp} (h : tS G W (sGc k f) C σ H) : tS G W f C σ H := by
  obtain ⟨ι, M, env, A, E, h⟩ := h
  refine ⟨ι, M, env, A, E, ?_⟩
  unfold sGc at h
  cases ef : f env M with
  | ok fl M' =>
    rw [ef] at h
    cases fl with
    | nx env' =>
      simp only at h
      split at h
      · rename_i hc
        intro ι' H' σ' s a r
        have e := prefix_take hc.1
        have hl : M.length = ι.length := A.len.symm
        have ab : Abs G.K (ι'.take M.length) H' G.P G.w M := by
          have := a.take (n := M.length) (by rw [e]; exact fun o m => A.allBelow o m)
          rwa [e] at this
        exact h _ H' σ' (step_take (by omega) s) ab (r.gc hc.2)
      · exact h.elim
    | _ => exact h
  | exc c fs M' => rw [ef] at h; exact h
  | bad => rw [ef] at h; exact h
theorem ss_gc {st : Stmt} {f : SF} (k : Nat) (h : SS X W st f) : SS X W st (sGc k f) := h.imp fun C σ H q => gc_imp q
theorem sss_gc {st : List Stmt} {f : SF} (k : Nat) (h : SSs X W st f) : SSs X W st (sGc k f) := h.imp fun C σ H q => gc_imp q
end
end Sh

namespace K41
open PySem L2 Sh
def tp (i : Nat) : Stmt := PySem.Challenge.pw_roundshares_k41_known_equal.main.body.getD i (.Pass ⟨0, 0, 0, 0⟩)
def tc (i j : Nat) : Stmt := (clsBody (tp i)).getD j (.Pass ⟨0, 0, 0, 0⟩)
abbrev CS : List Nat := [1, 2, 3, 4, 5, 6, 7, 10, 11, 12, 13]
def dd_Bounded_three : He.DefD := ⟨("Bounded", some "three"), "three", "Bounded.three", defArgs (tc 2 1), defBody (tc 2 1), defScope (tc 2 1), [], []⟩
def dd_Cheapest_three : He.DefD := ⟨("Cheapest", some "three"), "three", "Cheapest.three", defArgs (tc 10 1), defBody (tc 10 1), defScope (tc 10 1), [], []⟩
def dd_Ordered_three : He.DefD := ⟨("Ordered", some "three"), "three", "Ordered.three", defArgs (tc 14 1), defBody (tc 14 1), defScope (tc 14 1), [], []⟩
def dd_Boundeddd_eqdd : He.DefD := ⟨("Bounded", some "__eq__"), "__eq__", "Bounded.__eq__", defArgs (tc 2 2), defBody (tc 2 2), defScope (tc 2 2), [], []⟩
def dd_Endlessdd_eqdd : He.DefD := ⟨("Endless", some "__eq__"), "__eq__", "Endless.__eq__", defArgs (tc 3 1), defBody (tc 3 1), defScope (tc 3 1), [], []⟩
def dd_Drift_four : He.DefD := ⟨("Drift", some "four"), "four", "Drift.four", defArgs (tc 5 1), defBody (tc 5 1), defScope (tc 5 1), [], []⟩
def dd_Driftdd_eqdd : He.DefD := ⟨("Drift", some "__eq__"), "__eq__", "Drift.__eq__", defArgs (tc 5 2), defBody (tc 5 2), defScope (tc 5 2), [], []⟩
def dd_Alikedd_eqdd : He.DefD := ⟨("Alike", some "__eq__"), "__eq__", "Alike.__eq__", defArgs (tc 7 1), defBody (tc 7 1), defScope (tc 7 1), [], []⟩
def dd_Parteddd_eqdd : He.DefD := ⟨("Parted", some "__eq__"), "__eq__", "Parted.__eq__", defArgs (tc 8 1), defBody (tc 8 1), defScope (tc 8 1), [], []⟩
def dd_Cheapestdd_eqdd : He.DefD := ⟨("Cheapest", some "__eq__"), "__eq__", "Cheapest.__eq__", defArgs (tc 10 2), defBody (tc 10 2), defScope (tc 10 2), [], []⟩
def dd_NoChoicedd_eqdd : He.DefD := ⟨("NoChoice", some "__eq__"), "__eq__", "NoChoice.__eq__", defArgs (tc 11 1), defBody (tc 11 1), defScope (tc 11 1), [], []⟩
def dd_Orderlessdd_eqdd : He.DefD := ⟨("Orderless", some "__eq__"), "__eq__", "Orderless.__eq__", defArgs (tc 13 1), defBody (tc 13 1), defScope (tc 13 1), [], []⟩
def dd_Ordereddd_eqdd : He.DefD := ⟨("Ordered", some "__eq__"), "__eq__", "Ordered.__eq__", defArgs (tc 14 2), defBody (tc 14 2), defScope (tc 14 2), [], []⟩
def dd_Settleddd_eqdd : He.DefD := ⟨("Settled", some "__eq__"), "__eq__", "Settled.__eq__", defArgs (tc 16 1), defBody (tc 16 1), defScope (tc 16 1), [], []⟩
def dd_Unsettleddd_eqdd : He.DefD := ⟨("Unsettled", some "__eq__"), "__eq__", "Unsettled.__eq__", defArgs (tc 17 1), defBody (tc 17 1), defScope (tc 17 1), [], []⟩
def dd__law_parts_two : He.DefD := ⟨("_law_parts_two", none), "_law_parts_two", "_law_parts_two", defArgs (tp 22), defBody (tp 22), defScope (tp 22), [], []⟩
def dd__law_parts : He.DefD := ⟨("_law_parts", none), "_law_parts", "_law_parts", defArgs (tp 21), defBody (tp 21), defScope (tp 21), [], []⟩
def dd__law_fresh : He.DefD := ⟨("_law_fresh", none), "_law_fresh", "_law_fresh", defArgs (tp 23), defBody (tp 23), defScope (tp 23), [], []⟩
def dd_Alikedd_initdd : He.DefD := ⟨("Alike", some "__init__"), "__init__", "Alike.__init__", defArgs (tc 7 0), defBody (tc 7 0), defScope (tc 7 0), [], []⟩
def dd_Parteddd_initdd : He.DefD := ⟨("Parted", some "__init__"), "__init__", "Parted.__init__", defArgs (tc 8 0), defBody (tc 8 0), defScope (tc 8 0), [], []⟩
def dd_Cheapestdd_initdd : He.DefD := ⟨("Cheapest", some "__init__"), "__init__", "Cheapest.__init__", defArgs (tc 10 0), defBody (tc 10 0), defScope (tc 10 0), [], []⟩
def dd_NoChoicedd_initdd : He.DefD := ⟨("NoChoice", some "__init__"), "__init__", "NoChoice.__init__", defArgs (tc 11 0), defBody (tc 11 0), defScope (tc 11 0), [], []⟩
def dd_Driftdd_initdd : He.DefD := ⟨("Drift", some "__init__"), "__init__", "Drift.__init__", defArgs (tc 5 0), defBody (tc 5 0), defScope (tc 5 0), [], []⟩
def dd_Orderlessdd_initdd : He.DefD := ⟨("Orderless", some "__init__"), "__init__", "Orderless.__init__", defArgs (tc 13 0), defBody (tc 13 0), defScope (tc 13 0), [], []⟩
def dd_Ordereddd_initdd : He.DefD := ⟨("Ordered", some "__init__"), "__init__", "Ordered.__init__", defArgs (tc 14 0), defBody (tc 14 0), defScope (tc 14 0), [], []⟩
def dd_Settleddd_initdd : He.DefD := ⟨("Settled", some "__init__"), "__init__", "Settled.__init__", defArgs (tc 16 0), defBody (tc 16 0), defScope (tc 16 0), [], []⟩
def dd_Unsettleddd_initdd : He.DefD := ⟨("Unsettled", some "__init__"), "__init__", "Unsettled.__init__", defArgs (tc 17 0), defBody (tc 17 0), defScope (tc 17 0), [], []⟩
def dd_Boundeddd_initdd : He.DefD := ⟨("Bounded", some "__init__"), "__init__", "Bounded.__init__", defArgs (tc 2 0), defBody (tc 2 0), defScope (tc 2 0), [], []⟩
def dd_Endlessdd_initdd : He.DefD := ⟨("Endless", some "__init__"), "__init__", "Endless.__init__", defArgs (tc 3 0), defBody (tc 3 0), defScope (tc 3 0), [], []⟩
def dd__law_make_two : He.DefD := ⟨("_law_make_two", none), "_law_make_two", "_law_make_two", defArgs (tp 20), defBody (tp 20), defScope (tp 20), [], []⟩
def dd__law_make : He.DefD := ⟨("_law_make", none), "_law_make", "_law_make", defArgs (tp 19), defBody (tp 19), defScope (tp 19), [], []⟩
def dd_law : He.DefD := ⟨("law", none), "law", "law", defArgs (tp 24), defBody (tp 24), defScope (tp 24), [], []⟩
def wx : Wx := { fa := [.glo "law", .free "range", .free "isinstance", .glo "Bounded", .cls "Bounded", .meth "Bounded" "three", .cls "Cheapest", .meth "Cheapest" "three", .cls "Ordered", .meth "Ordered" "three", .glo "Endless", .glo "Drift", .cls "Drift", .meth "Drift" "four", .glo "Alike", .glo "Parted", .glo "Cheapest", .glo "NoChoice", .glo "Orderless", .glo "Ordered", .glo "Settled", .glo "Unsettled", .meth "Bounded" "__eq__", .meth "Endless" "__eq__", .meth "Drift" "__eq__", .meth "Alike" "__eq__", .meth "Parted" "__eq__", .meth "Cheapest" "__eq__", .meth "NoChoice" "__eq__", .meth "Orderless" "__eq__", .meth "Ordered" "__eq__", .meth "Settled" "__eq__", .meth "Unsettled" "__eq__", .free "dict", .glo "_law_parts_two", .glo "_law_parts", .glo "_law_fresh", .mkr "Alike", .free "list", .mkr "Parted", .free "tuple", .mkr "Cheapest", .mkr "NoChoice", .mkr "Drift", .mkr "Orderless", .mkr "Ordered", .mkr "Settled", .mkr "Unsettled", .mkr "Bounded", .mkr "Endless", .glo "_law_make_two", .glo "_law_make", .free "len"], fn := [dd_Bounded_three, dd_Cheapest_three, dd_Ordered_three, dd_Boundeddd_eqdd, dd_Endlessdd_eqdd, dd_Drift_four, dd_Driftdd_eqdd, dd_Alikedd_eqdd, dd_Parteddd_eqdd, dd_Cheapestdd_eqdd, dd_NoChoicedd_eqdd, dd_Orderlessdd_eqdd, dd_Ordereddd_eqdd, dd_Settleddd_eqdd, dd_Unsettleddd_eqdd, dd__law_parts_two, dd__law_parts, dd__law_fresh, dd_Alikedd_initdd, dd_Parteddd_initdd, dd_Cheapestdd_initdd, dd_NoChoicedd_initdd, dd_Driftdd_initdd, dd_Orderlessdd_initdd, dd_Ordereddd_initdd, dd_Settleddd_initdd, dd_Unsettleddd_initdd, dd_Boundeddd_initdd, dd_Endlessdd_initdd, dd__law_make_two, dd__law_make, dd_law], cs := CS, tups := [], flds := [("heights", [1, 3, 4]), ("row", [1, 7, 11, 12]), ("number", [1]), ("against", [4, 5]), ("choice", [4]), ("other", [11]), ("one", [11]), ("ring", [2, 3]), ("ahead", [2, 3]), ("mean", [3]), ("pairs", [6, 13]), ("states", [10])], ext := fun K => notfB K CS && neB K CS }
def dp_len : Nat → Option FF := fun _ => none
theorem hd_len {P : Program} {w : World} {K : PySem.W.Frag} {mg : Str → Option Value} {base : Heap} (F : FX wx K mg) : ∀ c ff, dp_len c = some ff → ∃ f, Meth K (ca K c) "__len__" f ∧ ∃ fd ps, FnOk P w K mg base (L2.CX P w) 0 f fd ps (spF ⟨K, P, w⟩ 1 ff) ∧ Binds K fd ps [] := fun c ff h => nomatch h
abbrev N_Bounded_three : List Str := ["self"]
def b_Bounded_three : SF := (sRet (eTup (aCons (eFld "number" (fun c => List.contains [1] c) (eVar 0)) (aCons (eFld "row" (fun c => List.contains [1, 7, 11, 12] c) (eVar 0)) (aCons (eFld "heights" (fun c => List.contains [1, 3, 4] c) (eVar 0)) aNil)))))
def m_Bounded_three : FF := fnT 0 (fnS 1 1 b_Bounded_three)
theorem sc_Bounded_three : FnScope N_Bounded_three ["self"] (defScope (tc 2 1)) := ⟨by rfl, by rfl, by rfl, by decide +kernel, by rfl, by decide +kernel, by decide +kernel⟩
set_option maxHeartbeats 4000000 in
theorem bo_Bounded_three {P : Program} {w : World} {K : PySem.W.Frag} {mg : Str → Option Value} {base : Heap} (F : FX wx K mg) {f : Addr} {fd : FuncData} (D : FunD K dd_Bounded_three.name dd_Bounded_three.qual dd_Bounded_three.params dd_Bounded_three.body dd_Bounded_three.scope (dd_Bounded_three.dvs K) (dd_Bounded_three.kws K) f fd) : FnOk P w K mg base (L2.CX P w) 1 f fd ["self"] (spF ⟨K, P, w⟩ 1 m_Bounded_three) :=
  fn_trim (fn_sh (np := 1) (ns := 1) (k := 0) (body := b_Bounded_three) D sc_Bounded_three rfl rfl fun cdv A outer s H E hr =>
    (sss_one (ss_ret (se_tup (sa_cons (se_fld (ok := (fun c => List.contains [1] c)) (F.fld 2) (sv 0) rfl) (sa_cons (se_fld (ok := (fun c => List.contains [1, 7, 11, 12] c)) (F.fld 1) (sv 0) rfl) (sa_cons (se_fld (ok := (fun c => List.contains [1, 3, 4] c)) (F.fld 0) (sv 0) rfl) sa_nil)))))))
theorem ok_Bounded_three {P : Program} {w : World} {K : PySem.W.Frag} {mg : Str → Option Value} {base : Heap} (F : FX wx K mg) : FnC P w K mg base 1 (He.fAd K ("Bounded", some "three")) 1 m_Bounded_three := by
  obtain ⟨fd, D⟩ := F.says.def_ 0 (d := dd_Bounded_three) rfl
  exact ⟨⟨fd, _, bo_Bounded_three F D, D.bindsN fun _ _ _ _ _ _ us hl => match us, hl with | [_], _ => rfl⟩, D.kp⟩
abbrev N_Cheapest_three : List Str := ["self"]
def b_Cheapest_three : SF := (sRet (eTup (aCons (eFld "choice" (fun c => List.contains [4] c) (eVar 0)) (aCons (eFld "heights" (fun c => List.contains [1, 3, 4] c) (eVar 0)) (aCons (eFld "against" (fun c => List.contains [4, 5] c) (eVar 0)) aNil)))))
def m_Cheapest_three : FF := fnT 0 (fnS 1 1 b_Cheapest_three)
theorem sc_Cheapest_three : FnScope N_Cheapest_three ["self"] (defScope (tc 10 1)) := ⟨by rfl, by rfl, by rfl, by decide +kernel, by rfl, by decide +kernel, by decide +kernel⟩
set_option maxHeartbeats 4000000 in
theorem bo_Cheapest_three {P : Program} {w : World} {K : PySem.W.Frag} {mg : Str → Option Value} {base : Heap} (F : FX wx K mg) {f : Addr} {fd : FuncData} (D : FunD K dd_Cheapest_three.name dd_Cheapest_three.qual dd_Cheapest_three.params dd_Cheapest_three.body dd_Cheapest_three.scope (dd_Cheapest_three.dvs K) (dd_Cheapest_three.kws K) f fd) : FnOk P w K mg base (L2.CX P w) 1 f fd ["self"] (spF ⟨K, P, w⟩ 1 m_Cheapest_three) :=
  fn_trim (fn_sh (np := 1) (ns := 1) (k := 0) (body := b_Cheapest_three) D sc_Cheapest_three rfl rfl fun cdv A outer s H E hr =>
    (sss_one (ss_ret (se_tup (sa_cons (se_fld (ok := (fun c => List.contains [4] c)) (F.fld 4) (sv 0) rfl) (sa_cons (se_fld (ok := (fun c => List.contains [1, 3, 4] c)) (F.fld 0) (sv 0) rfl) (sa_cons (se_fld (ok := (fun c => List.contains [4, 5] c)) (F.fld 3) (sv 0) rfl) sa_nil)))))))
theorem ok_Cheapest_three {P : Program} {w : World} {K : PySem.W.Frag} {mg : Str → Option Value} {base : Heap} (F : FX wx K mg) : FnC P w K mg base 1 (He.fAd K ("Cheapest", some "three")) 1 m_Cheapest_three := by
  obtain ⟨fd, D⟩ := F.says.def_ 1 (d := dd_Cheapest_three) rfl
  exact ⟨⟨fd, _, bo_Cheapest_three F D, D.bindsN fun _ _ _ _ _ _ us hl => match us, hl with | [_], _ => rfl⟩, D.kp⟩
abbrev N_Ordered_three : List Str := ["self"]
def b_Ordered_three : SF := (sRet (eTup (aCons (eFld "row" (fun c => List.contains [1, 7, 11, 12] c) (eVar 0)) (aCons (eFld "one" (fun c => List.contains [11] c) (eVar 0)) (aCons (eFld "other" (fun c => List.contains [11] c) (eVar 0)) aNil)))))
def m_Ordered_three : FF := fnT 0 (fnS 1 1 b_Ordered_three)
theorem sc_Ordered_three : FnScope N_Ordered_three ["self"] (defScope (tc 14 1)) := ⟨by rfl, by rfl, by rfl, by decide +kernel, by rfl, by decide +kernel, by decide +kernel⟩
set_option maxHeartbeats 4000000 in
theorem bo_Ordered_three {P : Program} {w : World} {K : PySem.W.Frag} {mg : Str → Option Value} {base : Heap} (F : FX wx K mg) {f : Addr} {fd : FuncData} (D : FunD K dd_Ordered_three.name dd_Ordered_three.qual dd_Ordered_three.params dd_Ordered_three.body dd_Ordered_three.scope (dd_Ordered_three.dvs K) (dd_Ordered_three.kws K) f fd) : FnOk P w K mg base (L2.CX P w) 1 f fd ["self"] (spF ⟨K, P, w⟩ 1 m_Ordered_three) :=
  fn_trim (fn_sh (np := 1) (ns := 1) (k := 0) (body := b_Ordered_three) D sc_Ordered_three rfl rfl fun cdv A outer s H E hr =>
    (sss_one (ss_ret (se_tup (sa_cons (se_fld (ok := (fun c => List.contains [1, 7, 11, 12] c)) (F.fld 1) (sv 0) rfl) (sa_cons (se_fld (ok := (fun c => List.contains [11] c)) (F.fld 6) (sv 0) rfl) (sa_cons (se_fld (ok := (fun c => List.contains [11] c)) (F.fld 5) (sv 0) rfl) sa_nil)))))))
theorem ok_Ordered_three {P : Program} {w : World} {K : PySem.W.Frag} {mg : Str → Option Value} {base : Heap} (F : FX wx K mg) : FnC P w K mg base 1 (He.fAd K ("Ordered", some "three")) 1 m_Ordered_three := by
  obtain ⟨fd, D⟩ := F.says.def_ 2 (d := dd_Ordered_three) rfl
  exact ⟨⟨fd, _, bo_Ordered_three F D, D.bindsN fun _ _ _ _ _ _ us hl => match us, hl with | [_], _ => rfl⟩, D.kp⟩
def dp_three : Nat → Option (Nat × FF) := fun c => if c = 1 then some (1, m_Bounded_three) else if c = 4 then some (1, m_Cheapest_three) else if c = 11 then some (1, m_Ordered_three) else none
theorem hd_three {P : Program} {w : World} {K : PySem.W.Frag} {mg : Str → Option Value} {base : Heap} (F : FX wx K mg) : ∀ c n ff, dp_three c = some (n, ff) → Cls K (ca K c) ∧ ∃ f, Meth K (ca K c) "three" f ∧ ∃ fd ps, FnOk P w K mg base (L2.CX P w) 1 f fd ps (spF ⟨K, P, w⟩ n ff) ∧ Binds K fd ps [] := by
  intro c n ff h
  unfold dp_three at h
  by_cases hBounded : c = 1
  · rw [if_pos hBounded] at h; subst hBounded; cases h; exact ⟨F.cls 4, _, F.meth 5, ((ok_Bounded_three F).mono (by decide)).1⟩
  rw [if_neg hBounded] at h
  by_cases hCheapest : c = 4
  · rw [if_pos hCheapest] at h; subst hCheapest; cases h; exact ⟨F.cls 6, _, F.meth 7, ((ok_Cheapest_three F).mono (by decide)).1⟩
  rw [if_neg hCheapest] at h
  by_cases hOrdered : c = 11
  · rw [if_pos hOrdered] at h; subst hOrdered; cases h; exact ⟨F.cls 8, _, F.meth 9, ((ok_Ordered_three F).mono (by decide)).1⟩
  rw [if_neg hOrdered] at h
  cases h
abbrev N_Boundeddd_eqdd : List Str := ["self", "other"]
def b_Boundeddd_eqdd : SF := (sRet (eAnd (eIsi CS [.cls 1] (eVar 1)) (eBin oEqG (eMeth "three" dp_three (eVar 0) aNil) (eMeth "three" dp_three (eVar 1) aNil))))
def m_Boundeddd_eqdd : FF := fnT 0 (fnS 2 2 b_Boundeddd_eqdd)
theorem sc_Boundeddd_eqdd : FnScope N_Boundeddd_eqdd ["self", "other"] (defScope (tc 2 2)) := ⟨by rfl, by rfl, by rfl, by decide +kernel, by rfl, by decide +kernel, by decide +kernel⟩
set_option maxHeartbeats 4000000 in
theorem bo_Boundeddd_eqdd {P : Program} {w : World} {K : PySem.W.Frag} {mg : Str → Option Value} {base : Heap} (F : FX wx K mg) {f : Addr} {fd : FuncData} (D : FunD K dd_Boundeddd_eqdd.name dd_Boundeddd_eqdd.qual dd_Boundeddd_eqdd.params dd_Boundeddd_eqdd.body dd_Boundeddd_eqdd.scope (dd_Boundeddd_eqdd.dvs K) (dd_Boundeddd_eqdd.kws K) f fd) : FnOk P w K mg base (L2.CX P w) 2 f fd ["self", "other"] (spF ⟨K, P, w⟩ 2 m_Boundeddd_eqdd) :=
  fn_trim (fn_sh (np := 2) (ns := 2) (k := 1) (body := b_Boundeddd_eqdd) D sc_Boundeddd_eqdd rfl rfl fun cdv A outer s H E hr =>
    (sss_one (ss_ret (se_and (isC (cs := CS) 1 F.isi (F.free 2) (F.glo 3) (sv 1)) (se_one (se_cmp (so_eqG (room_w hr)) (se_meth0 (sv 0) (hd_three F) (hr.mono (by decide)) tkF) (se_meth0 (sv 1) (hd_three F) (hr.mono (by decide)) tkF) rfl))))))
theorem ok_Boundeddd_eqdd {P : Program} {w : World} {K : PySem.W.Frag} {mg : Str → Option Value} {base : Heap} (F : FX wx K mg) : FnC P w K mg base 2 (He.fAd K ("Bounded", some "__eq__")) 2 m_Boundeddd_eqdd := by
  obtain ⟨fd, D⟩ := F.says.def_ 3 (d := dd_Boundeddd_eqdd) rfl
  exact ⟨⟨fd, _, bo_Boundeddd_eqdd F D, D.bindsN fun _ _ _ _ _ _ us hl => match us, hl with | [_, _], _ => rfl⟩, D.kp⟩
abbrev N_Endlessdd_eqdd : List Str := ["self", "other"]
def b_Endlessdd_eqdd : SF := (sRet (eAnd (eIsi CS [.cls 2] (eVar 1)) (eBin oEqG (eTup (aCons (eFld "ahead" (fun c => List.contains [2, 3] c) (eVar 0)) (aCons (eFld "ring" (fun c => List.contains [2, 3] c) (eVar 0)) aNil))) (eTup (aCons (eFld "ahead" (fun c => List.contains [2, 3] c) (eVar 1)) (aCons (eFld "ring" (fun c => List.contains [2, 3] c) (eVar 1)) aNil))))))
def m_Endlessdd_eqdd : FF := fnT 0 (fnS 2 2 b_Endlessdd_eqdd)
theorem sc_Endlessdd_eqdd : FnScope N_Endlessdd_eqdd ["self", "other"] (defScope (tc 3 1)) := ⟨by rfl, by rfl, by rfl, by decide +kernel, by rfl, by decide +kernel, by decide +kernel⟩
set_option maxHeartbeats 4000000 in
theorem bo_Endlessdd_eqdd {P : Program} {w : World} {K : PySem.W.Frag} {mg : Str → Option Value} {base : Heap} (F : FX wx K mg) {f : Addr} {fd : FuncData} (D : FunD K dd_Endlessdd_eqdd.name dd_Endlessdd_eqdd.qual dd_Endlessdd_eqdd.params dd_Endlessdd_eqdd.body dd_Endlessdd_eqdd.scope (dd_Endlessdd_eqdd.dvs K) (dd_Endlessdd_eqdd.kws K) f fd) : FnOk P w K mg base (L2.CX P w) 1 f fd ["self", "other"] (spF ⟨K, P, w⟩ 2 m_Endlessdd_eqdd) :=
  fn_trim (fn_sh (np := 2) (ns := 2) (k := 0) (body := b_Endlessdd_eqdd) D sc_Endlessdd_eqdd rfl rfl fun cdv A outer s H E hr =>
    (sss_one (ss_ret (se_and (isC (cs := CS) 2 F.isi (F.free 2) (F.glo 10) (sv 1)) (se_one (se_cmp (so_eqG (room_w hr)) (se_tup (sa_cons (se_fld (ok := (fun c => List.contains [2, 3] c)) (F.fld 8) (sv 0) rfl) (sa_cons (se_fld (ok := (fun c => List.contains [2, 3] c)) (F.fld 7) (sv 0) rfl) sa_nil))) (se_tup (sa_cons (se_fld (ok := (fun c => List.contains [2, 3] c)) (F.fld 8) (sv 1) rfl) (sa_cons (se_fld (ok := (fun c => List.contains [2, 3] c)) (F.fld 7) (sv 1) rfl) sa_nil))) rfl))))))
theorem ok_Endlessdd_eqdd {P : Program} {w : World} {K : PySem.W.Frag} {mg : Str → Option Value} {base : Heap} (F : FX wx K mg) : FnC P w K mg base 1 (He.fAd K ("Endless", some "__eq__")) 2 m_Endlessdd_eqdd := by
  obtain ⟨fd, D⟩ := F.says.def_ 4 (d := dd_Endlessdd_eqdd) rfl
  exact ⟨⟨fd, _, bo_Endlessdd_eqdd F D, D.bindsN fun _ _ _ _ _ _ us hl => match us, hl with | [_, _], _ => rfl⟩, D.kp⟩
abbrev N_Drift_four : List Str := ["self"]
def b_Drift_four : SF := (sRet (eTup (aCons (eFld "mean" (fun c => List.contains [3] c) (eVar 0)) (aCons (eFld "ahead" (fun c => List.contains [2, 3] c) (eVar 0)) (aCons (eFld "ring" (fun c => List.contains [2, 3] c) (eVar 0)) (aCons (eFld "heights" (fun c => List.contains [1, 3, 4] c) (eVar 0)) aNil))))))
def m_Drift_four : FF := fnT 0 (fnS 1 1 b_Drift_four)
theorem sc_Drift_four : FnScope N_Drift_four ["self"] (defScope (tc 5 1)) := ⟨by rfl, by rfl, by rfl, by decide +kernel, by rfl, by decide +kernel, by decide +kernel⟩
set_option maxHeartbeats 4000000 in
theorem bo_Drift_four {P : Program} {w : World} {K : PySem.W.Frag} {mg : Str → Option Value} {base : Heap} (F : FX wx K mg) {f : Addr} {fd : FuncData} (D : FunD K dd_Drift_four.name dd_Drift_four.qual dd_Drift_four.params dd_Drift_four.body dd_Drift_four.scope (dd_Drift_four.dvs K) (dd_Drift_four.kws K) f fd) : FnOk P w K mg base (L2.CX P w) 1 f fd ["self"] (spF ⟨K, P, w⟩ 1 m_Drift_four) :=
  fn_trim (fn_sh (np := 1) (ns := 1) (k := 0) (body := b_Drift_four) D sc_Drift_four rfl rfl fun cdv A outer s H E hr =>
    (sss_one (ss_ret (se_tup (sa_cons (se_fld (ok := (fun c => List.contains [3] c)) (F.fld 9) (sv 0) rfl) (sa_cons (se_fld (ok := (fun c => List.contains [2, 3] c)) (F.fld 8) (sv 0) rfl) (sa_cons (se_fld (ok := (fun c => List.contains [2, 3] c)) (F.fld 7) (sv 0) rfl) (sa_cons (se_fld (ok := (fun c => List.contains [1, 3, 4] c)) (F.fld 0) (sv 0) rfl) sa_nil))))))))
theorem ok_Drift_four {P : Program} {w : World} {K : PySem.W.Frag} {mg : Str → Option Value} {base : Heap} (F : FX wx K mg) : FnC P w K mg base 1 (He.fAd K ("Drift", some "four")) 1 m_Drift_four := by
  obtain ⟨fd, D⟩ := F.says.def_ 5 (d := dd_Drift_four) rfl
  exact ⟨⟨fd, _, bo_Drift_four F D, D.bindsN fun _ _ _ _ _ _ us hl => match us, hl with | [_], _ => rfl⟩, D.kp⟩
def dp_four : Nat → Option (Nat × FF) := fun c => if c = 3 then some (1, m_Drift_four) else none
theorem hd_four {P : Program} {w : World} {K : PySem.W.Frag} {mg : Str → Option Value} {base : Heap} (F : FX wx K mg) : ∀ c n ff, dp_four c = some (n, ff) → Cls K (ca K c) ∧ ∃ f, Meth K (ca K c) "four" f ∧ ∃ fd ps, FnOk P w K mg base (L2.CX P w) 1 f fd ps (spF ⟨K, P, w⟩ n ff) ∧ Binds K fd ps [] := by
  intro c n ff h
  unfold dp_four at h
  by_cases hDrift : c = 3
  · rw [if_pos hDrift] at h; subst hDrift; cases h; exact ⟨F.cls 12, _, F.meth 13, ((ok_Drift_four F).mono (by decide)).1⟩
  rw [if_neg hDrift] at h
  cases h
abbrev N_Driftdd_eqdd : List Str := ["self", "other"]
def b_Driftdd_eqdd : SF := (sRet (eAnd (eIsi CS [.cls 3] (eVar 1)) (eBin oEqG (eMeth "four" dp_four (eVar 0) aNil) (eMeth "four" dp_four (eVar 1) aNil))))
def m_Driftdd_eqdd : FF := fnT 0 (fnS 2 2 b_Driftdd_eqdd)
theorem sc_Driftdd_eqdd : FnScope N_Driftdd_eqdd ["self", "other"] (defScope (tc 5 2)) := ⟨by rfl, by rfl, by rfl, by decide +kernel, by rfl, by decide +kernel, by decide +kernel⟩
set_option maxHeartbeats 4000000 in
theorem bo_Driftdd_eqdd {P : Program} {w : World} {K : PySem.W.Frag} {mg : Str → Option Value} {base : Heap} (F : FX wx K mg) {f : Addr} {fd : FuncData} (D : FunD K dd_Driftdd_eqdd.name dd_Driftdd_eqdd.qual dd_Driftdd_eqdd.params dd_Driftdd_eqdd.body dd_Driftdd_eqdd.scope (dd_Driftdd_eqdd.dvs K) (dd_Driftdd_eqdd.kws K) f fd) : FnOk P w K mg base (L2.CX P w) 2 f fd ["self", "other"] (spF ⟨K, P, w⟩ 2 m_Driftdd_eqdd) :=
  fn_trim (fn_sh (np := 2) (ns := 2) (k := 1) (body := b_Driftdd_eqdd) D sc_Driftdd_eqdd rfl rfl fun cdv A outer s H E hr =>
    (sss_one (ss_ret (se_and (isC (cs := CS) 3 F.isi (F.free 2) (F.glo 11) (sv 1)) (se_one (se_cmp (so_eqG (room_w hr)) (se_meth0 (sv 0) (hd_four F) (hr.mono (by decide)) tkF) (se_meth0 (sv 1) (hd_four F) (hr.mono (by decide)) tkF) rfl))))))
theorem ok_Driftdd_eqdd {P : Program} {w : World} {K : PySem.W.Frag} {mg : Str → Option Value} {base : Heap} (F : FX wx K mg) : FnC P w K mg base 2 (He.fAd K ("Drift", some "__eq__")) 2 m_Driftdd_eqdd := by
  obtain ⟨fd, D⟩ := F.says.def_ 6 (d := dd_Driftdd_eqdd) rfl
  exact ⟨⟨fd, _, bo_Driftdd_eqdd F D, D.bindsN fun _ _ _ _ _ _ us hl => match us, hl with | [_, _], _ => rfl⟩, D.kp⟩
abbrev N_Alikedd_eqdd : List Str := ["self", "other"]
def b_Alikedd_eqdd : SF := (sRet (eAnd (eIsi CS [.cls 6] (eVar 1)) (eBin oEqG (eFld "pairs" (fun c => List.contains [6, 13] c) (eVar 0)) (eFld "pairs" (fun c => List.contains [6, 13] c) (eVar 1)))))
def m_Alikedd_eqdd : FF := fnT 0 (fnS 2 2 b_Alikedd_eqdd)
theorem sc_Alikedd_eqdd : FnScope N_Alikedd_eqdd ["self", "other"] (defScope (tc 7 1)) := ⟨by rfl, by rfl, by rfl, by decide +kernel, by rfl, by decide +kernel, by decide +kernel⟩
set_option maxHeartbeats 4000000 in
theorem bo_Alikedd_eqdd {P : Program} {w : World} {K : PySem.W.Frag} {mg : Str → Option Value} {base : Heap} (F : FX wx K mg) {f : Addr} {fd : FuncData} (D : FunD K dd_Alikedd_eqdd.name dd_Alikedd_eqdd.qual dd_Alikedd_eqdd.params dd_Alikedd_eqdd.body dd_Alikedd_eqdd.scope (dd_Alikedd_eqdd.dvs K) (dd_Alikedd_eqdd.kws K) f fd) : FnOk P w K mg base (L2.CX P w) 1 f fd ["self", "other"] (spF ⟨K, P, w⟩ 2 m_Alikedd_eqdd) :=
  fn_trim (fn_sh (np := 2) (ns := 2) (k := 0) (body := b_Alikedd_eqdd) D sc_Alikedd_eqdd rfl rfl fun cdv A outer s H E hr =>
    (sss_one (ss_ret (se_and (isC (cs := CS) 6 F.isi (F.free 2) (F.glo 14) (sv 1)) (se_one (se_cmp (so_eqG (room_w hr)) (se_fld (ok := (fun c => List.contains [6, 13] c)) (F.fld 10) (sv 0) rfl) (se_fld (ok := (fun c => List.contains [6, 13] c)) (F.fld 10) (sv 1) rfl) rfl))))))
theorem ok_Alikedd_eqdd {P : Program} {w : World} {K : PySem.W.Frag} {mg : Str → Option Value} {base : Heap} (F : FX wx K mg) : FnC P w K mg base 1 (He.fAd K ("Alike", some "__eq__")) 2 m_Alikedd_eqdd := by
  obtain ⟨fd, D⟩ := F.says.def_ 7 (d := dd_Alikedd_eqdd) rfl
  exact ⟨⟨fd, _, bo_Alikedd_eqdd F D, D.bindsN fun _ _ _ _ _ _ us hl => match us, hl with | [_, _], _ => rfl⟩, D.kp⟩
abbrev N_Parteddd_eqdd : List Str := ["self", "other"]
def b_Parteddd_eqdd : SF := (sRet (eAnd (eIsi CS [.cls 7] (eVar 1)) (eBin oEqG (eFld "row" (fun c => List.contains [1, 7, 11, 12] c) (eVar 0)) (eFld "row" (fun c => List.contains [1, 7, 11, 12] c) (eVar 1)))))
def m_Parteddd_eqdd : FF := fnT 0 (fnS 2 2 b_Parteddd_eqdd)
theorem sc_Parteddd_eqdd : FnScope N_Parteddd_eqdd ["self", "other"] (defScope (tc 8 1)) := ⟨by rfl, by rfl, by rfl, by decide +kernel, by rfl, by decide +kernel, by decide +kernel⟩
set_option maxHeartbeats 4000000 in
theorem bo_Parteddd_eqdd {P : Program} {w : World} {K : PySem.W.Frag} {mg : Str → Option Value} {base : Heap} (F : FX wx K mg) {f : Addr} {fd : FuncData} (D : FunD K dd_Parteddd_eqdd.name dd_Parteddd_eqdd.qual dd_Parteddd_eqdd.params dd_Parteddd_eqdd.body dd_Parteddd_eqdd.scope (dd_Parteddd_eqdd.dvs K) (dd_Parteddd_eqdd.kws K) f fd) : FnOk P w K mg base (L2.CX P w) 1 f fd ["self", "other"] (spF ⟨K, P, w⟩ 2 m_Parteddd_eqdd) :=
  fn_trim (fn_sh (np := 2) (ns := 2) (k := 0) (body := b_Parteddd_eqdd) D sc_Parteddd_eqdd rfl rfl fun cdv A outer s H E hr =>
    (sss_one (ss_ret (se_and (isC (cs := CS) 7 F.isi (F.free 2) (F.glo 15) (sv 1)) (se_one (se_cmp (so_eqG (room_w hr)) (se_fld (ok := (fun c => List.contains [1, 7, 11, 12] c)) (F.fld 1) (sv 0) rfl) (se_fld (ok := (fun c => List.contains [1, 7, 11, 12] c)) (F.fld 1) (sv 1) rfl) rfl))))))
theorem ok_Parteddd_eqdd {P : Program} {w : World} {K : PySem.W.Frag} {mg : Str → Option Value} {base : Heap} (F : FX wx K mg) : FnC P w K mg base 1 (He.fAd K ("Parted", some "__eq__")) 2 m_Parteddd_eqdd := by
  obtain ⟨fd, D⟩ := F.says.def_ 8 (d := dd_Parteddd_eqdd) rfl
  exact ⟨⟨fd, _, bo_Parteddd_eqdd F D, D.bindsN fun _ _ _ _ _ _ us hl => match us, hl with | [_, _], _ => rfl⟩, D.kp⟩
abbrev N_Cheapestdd_eqdd : List Str := ["self", "other"]
def b_Cheapestdd_eqdd : SF := (sRet (eAnd (eIsi CS [.cls 4] (eVar 1)) (eBin oEqG (eMeth "three" dp_three (eVar 0) aNil) (eMeth "three" dp_three (eVar 1) aNil))))
def m_Cheapestdd_eqdd : FF := fnT 0 (fnS 2 2 b_Cheapestdd_eqdd)
theorem sc_Cheapestdd_eqdd : FnScope N_Cheapestdd_eqdd ["self", "other"] (defScope (tc 10 2)) := ⟨by rfl, by rfl, by rfl, by decide +kernel, by rfl, by decide +kernel, by decide +kernel⟩
set_option maxHeartbeats 4000000 in
theorem bo_Cheapestdd_eqdd {P : Program} {w : World} {K : PySem.W.Frag} {mg : Str → Option Value} {base : Heap} (F : FX wx K mg) {f : Addr} {fd : FuncData} (D : FunD K dd_Cheapestdd_eqdd.name dd_Cheapestdd_eqdd.qual dd_Cheapestdd_eqdd.params dd_Cheapestdd_eqdd.body dd_Cheapestdd_eqdd.scope (dd_Cheapestdd_eqdd.dvs K) (dd_Cheapestdd_eqdd.kws K) f fd) : FnOk P w K mg base (L2.CX P w) 2 f fd ["self", "other"] (spF ⟨K, P, w⟩ 2 m_Cheapestdd_eqdd) :=
  fn_trim (fn_sh (np := 2) (ns := 2) (k := 1) (body := b_Cheapestdd_eqdd) D sc_Cheapestdd_eqdd rfl rfl fun cdv A outer s H E hr =>
    (sss_one (ss_ret (se_and (isC (cs := CS) 4 F.isi (F.free 2) (F.glo 16) (sv 1)) (se_one (se_cmp (so_eqG (room_w hr)) (se_meth0 (sv 0) (hd_three F) (hr.mono (by decide)) tkF) (se_meth0 (sv 1) (hd_three F) (hr.mono (by decide)) tkF) rfl))))))
theorem ok_Cheapestdd_eqdd {P : Program} {w : World} {K : PySem.W.Frag} {mg : Str → Option Value} {base : Heap} (F : FX wx K mg) : FnC P w K mg base 2 (He.fAd K ("Cheapest", some "__eq__")) 2 m_Cheapestdd_eqdd := by
  obtain ⟨fd, D⟩ := F.says.def_ 9 (d := dd_Cheapestdd_eqdd) rfl
  exact ⟨⟨fd, _, bo_Cheapestdd_eqdd F D, D.bindsN fun _ _ _ _ _ _ us hl => match us, hl with | [_, _], _ => rfl⟩, D.kp⟩
abbrev N_NoChoicedd_eqdd : List Str := ["self", "other"]
def b_NoChoicedd_eqdd : SF := (sRet (eAnd (eIsi CS [.cls 5] (eVar 1)) (eBin oEqG (eFld "against" (fun c => List.contains [4, 5] c) (eVar 0)) (eFld "against" (fun c => List.contains [4, 5] c) (eVar 1)))))
def m_NoChoicedd_eqdd : FF := fnT 0 (fnS 2 2 b_NoChoicedd_eqdd)
theorem sc_NoChoicedd_eqdd : FnScope N_NoChoicedd_eqdd ["self", "other"] (defScope (tc 11 1)) := ⟨by rfl, by rfl, by rfl, by decide +kernel, by rfl, by decide +kernel, by decide +kernel⟩
set_option maxHeartbeats 4000000 in
theorem bo_NoChoicedd_eqdd {P : Program} {w : World} {K : PySem.W.Frag} {mg : Str → Option Value} {base : Heap} (F : FX wx K mg) {f : Addr} {fd : FuncData} (D : FunD K dd_NoChoicedd_eqdd.name dd_NoChoicedd_eqdd.qual dd_NoChoicedd_eqdd.params dd_NoChoicedd_eqdd.body dd_NoChoicedd_eqdd.scope (dd_NoChoicedd_eqdd.dvs K) (dd_NoChoicedd_eqdd.kws K) f fd) : FnOk P w K mg base (L2.CX P w) 1 f fd ["self", "other"] (spF ⟨K, P, w⟩ 2 m_NoChoicedd_eqdd) :=
  fn_trim (fn_sh (np := 2) (ns := 2) (k := 0) (body := b_NoChoicedd_eqdd) D sc_NoChoicedd_eqdd rfl rfl fun cdv A outer s H E hr =>
    (sss_one (ss_ret (se_and (isC (cs := CS) 5 F.isi (F.free 2) (F.glo 17) (sv 1)) (se_one (se_cmp (so_eqG (room_w hr)) (se_fld (ok := (fun c => List.contains [4, 5] c)) (F.fld 3) (sv 0) rfl) (se_fld (ok := (fun c => List.contains [4, 5] c)) (F.fld 3) (sv 1) rfl) rfl))))))
theorem ok_NoChoicedd_eqdd {P : Program} {w : World} {K : PySem.W.Frag} {mg : Str → Option Value} {base : Heap} (F : FX wx K mg) : FnC P w K mg base 1 (He.fAd K ("NoChoice", some "__eq__")) 2 m_NoChoicedd_eqdd := by
  obtain ⟨fd, D⟩ := F.says.def_ 10 (d := dd_NoChoicedd_eqdd) rfl
  exact ⟨⟨fd, _, bo_NoChoicedd_eqdd F D, D.bindsN fun _ _ _ _ _ _ us hl => match us, hl with | [_, _], _ => rfl⟩, D.kp⟩
abbrev N_Orderlessdd_eqdd : List Str := ["self", "other"]
def b_Orderlessdd_eqdd : SF := (sRet (eAnd (eIsi CS [.cls 10] (eVar 1)) (eBin oEqG (eFld "states" (fun c => List.contains [10] c) (eVar 0)) (eFld "states" (fun c => List.contains [10] c) (eVar 1)))))
def m_Orderlessdd_eqdd : FF := fnT 0 (fnS 2 2 b_Orderlessdd_eqdd)
theorem sc_Orderlessdd_eqdd : FnScope N_Orderlessdd_eqdd ["self", "other"] (defScope (tc 13 1)) := ⟨by rfl, by rfl, by rfl, by decide +kernel, by rfl, by decide +kernel, by decide +kernel⟩
set_option maxHeartbeats 4000000 in
theorem bo_Orderlessdd_eqdd {P : Program} {w : World} {K : PySem.W.Frag} {mg : Str → Option Value} {base : Heap} (F : FX wx K mg) {f : Addr} {fd : FuncData} (D : FunD K dd_Orderlessdd_eqdd.name dd_Orderlessdd_eqdd.qual dd_Orderlessdd_eqdd.params dd_Orderlessdd_eqdd.body dd_Orderlessdd_eqdd.scope (dd_Orderlessdd_eqdd.dvs K) (dd_Orderlessdd_eqdd.kws K) f fd) : FnOk P w K mg base (L2.CX P w) 1 f fd ["self", "other"] (spF ⟨K, P, w⟩ 2 m_Orderlessdd_eqdd) :=
  fn_trim (fn_sh (np := 2) (ns := 2) (k := 0) (body := b_Orderlessdd_eqdd) D sc_Orderlessdd_eqdd rfl rfl fun cdv A outer s H E hr =>
    (sss_one (ss_ret (se_and (isC (cs := CS) 10 F.isi (F.free 2) (F.glo 18) (sv 1)) (se_one (se_cmp (so_eqG (room_w hr)) (se_fld (ok := (fun c => List.contains [10] c)) (F.fld 11) (sv 0) rfl) (se_fld (ok := (fun c => List.contains [10] c)) (F.fld 11) (sv 1) rfl) rfl))))))
theorem ok_Orderlessdd_eqdd {P : Program} {w : World} {K : PySem.W.Frag} {mg : Str → Option Value} {base : Heap} (F : FX wx K mg) : FnC P w K mg base 1 (He.fAd K ("Orderless", some "__eq__")) 2 m_Orderlessdd_eqdd := by
  obtain ⟨fd, D⟩ := F.says.def_ 11 (d := dd_Orderlessdd_eqdd) rfl
  exact ⟨⟨fd, _, bo_Orderlessdd_eqdd F D, D.bindsN fun _ _ _ _ _ _ us hl => match us, hl with | [_, _], _ => rfl⟩, D.kp⟩
abbrev N_Ordereddd_eqdd : List Str := ["self", "other"]
def b_Ordereddd_eqdd : SF := (sRet (eAnd (eIsi CS [.cls 11] (eVar 1)) (eBin oEqG (eMeth "three" dp_three (eVar 0) aNil) (eMeth "three" dp_three (eVar 1) aNil))))
def m_Ordereddd_eqdd : FF := fnT 0 (fnS 2 2 b_Ordereddd_eqdd)
theorem sc_Ordereddd_eqdd : FnScope N_Ordereddd_eqdd ["self", "other"] (defScope (tc 14 2)) := ⟨by rfl, by rfl, by rfl, by decide +kernel, by rfl, by decide +kernel, by decide +kernel⟩
set_option maxHeartbeats 4000000 in
theorem bo_Ordereddd_eqdd {P : Program} {w : World} {K : PySem.W.Frag} {mg : Str → Option Value} {base : Heap} (F : FX wx K mg) {f : Addr} {fd : FuncData} (D : FunD K dd_Ordereddd_eqdd.name dd_Ordereddd_eqdd.qual dd_Ordereddd_eqdd.params dd_Ordereddd_eqdd.body dd_Ordereddd_eqdd.scope (dd_Ordereddd_eqdd.dvs K) (dd_Ordereddd_eqdd.kws K) f fd) : FnOk P w K mg base (L2.CX P w) 2 f fd ["self", "other"] (spF ⟨K, P, w⟩ 2 m_Ordereddd_eqdd) :=
  fn_trim (fn_sh (np := 2) (ns := 2) (k := 1) (body := b_Ordereddd_eqdd) D sc_Ordereddd_eqdd rfl rfl fun cdv A outer s H E hr =>
    (sss_one (ss_ret (se_and (isC (cs := CS) 11 F.isi (F.free 2) (F.glo 19) (sv 1)) (se_one (se_cmp (so_eqG (room_w hr)) (se_meth0 (sv 0) (hd_three F) (hr.mono (by decide)) tkF) (se_meth0 (sv 1) (hd_three F) (hr.mono (by decide)) tkF) rfl))))))
theorem ok_Ordereddd_eqdd {P : Program} {w : World} {K : PySem.W.Frag} {mg : Str → Option Value} {base : Heap} (F : FX wx K mg) : FnC P w K mg base 2 (He.fAd K ("Ordered", some "__eq__")) 2 m_Ordereddd_eqdd := by
  obtain ⟨fd, D⟩ := F.says.def_ 12 (d := dd_Ordereddd_eqdd) rfl
  exact ⟨⟨fd, _, bo_Ordereddd_eqdd F D, D.bindsN fun _ _ _ _ _ _ us hl => match us, hl with | [_, _], _ => rfl⟩, D.kp⟩
abbrev N_Settleddd_eqdd : List Str := ["self", "other"]
def b_Settleddd_eqdd : SF := (sRet (eAnd (eIsi CS [.cls 12] (eVar 1)) (eBin oEqG (eFld "row" (fun c => List.contains [1, 7, 11, 12] c) (eVar 0)) (eFld "row" (fun c => List.contains [1, 7, 11, 12] c) (eVar 1)))))
def m_Settleddd_eqdd : FF := fnT 0 (fnS 2 2 b_Settleddd_eqdd)
theorem sc_Settleddd_eqdd : FnScope N_Settleddd_eqdd ["self", "other"] (defScope (tc 16 1)) := ⟨by rfl, by rfl, by rfl, by decide +kernel, by rfl, by decide +kernel, by decide +kernel⟩
set_option maxHeartbeats 4000000 in
theorem bo_Settleddd_eqdd {P : Program} {w : World} {K : PySem.W.Frag} {mg : Str → Option Value} {base : Heap} (F : FX wx K mg) {f : Addr} {fd : FuncData} (D : FunD K dd_Settleddd_eqdd.name dd_Settleddd_eqdd.qual dd_Settleddd_eqdd.params dd_Settleddd_eqdd.body dd_Settleddd_eqdd.scope (dd_Settleddd_eqdd.dvs K) (dd_Settleddd_eqdd.kws K) f fd) : FnOk P w K mg base (L2.CX P w) 1 f fd ["self", "other"] (spF ⟨K, P, w⟩ 2 m_Settleddd_eqdd) :=
  fn_trim (fn_sh (np := 2) (ns := 2) (k := 0) (body := b_Settleddd_eqdd) D sc_Settleddd_eqdd rfl rfl fun cdv A outer s H E hr =>
    (sss_one (ss_ret (se_and (isC (cs := CS) 12 F.isi (F.free 2) (F.glo 20) (sv 1)) (se_one (se_cmp (so_eqG (room_w hr)) (se_fld (ok := (fun c => List.contains [1, 7, 11, 12] c)) (F.fld 1) (sv 0) rfl) (se_fld (ok := (fun c => List.contains [1, 7, 11, 12] c)) (F.fld 1) (sv 1) rfl) rfl))))))
theorem ok_Settleddd_eqdd {P : Program} {w : World} {K : PySem.W.Frag} {mg : Str → Option Value} {base : Heap} (F : FX wx K mg) : FnC P w K mg base 1 (He.fAd K ("Settled", some "__eq__")) 2 m_Settleddd_eqdd := by
  obtain ⟨fd, D⟩ := F.says.def_ 13 (d := dd_Settleddd_eqdd) rfl
  exact ⟨⟨fd, _, bo_Settleddd_eqdd F D, D.bindsN fun _ _ _ _ _ _ us hl => match us, hl with | [_, _], _ => rfl⟩, D.kp⟩
abbrev N_Unsettleddd_eqdd : List Str := ["self", "other"]
def b_Unsettleddd_eqdd : SF := (sRet (eAnd (eIsi CS [.cls 13] (eVar 1)) (eBin oEqG (eFld "pairs" (fun c => List.contains [6, 13] c) (eVar 0)) (eFld "pairs" (fun c => List.contains [6, 13] c) (eVar 1)))))
def m_Unsettleddd_eqdd : FF := fnT 0 (fnS 2 2 b_Unsettleddd_eqdd)
theorem sc_Unsettleddd_eqdd : FnScope N_Unsettleddd_eqdd ["self", "other"] (defScope (tc 17 1)) := ⟨by rfl, by rfl, by rfl, by decide +kernel, by rfl, by decide +kernel, by decide +kernel⟩
set_option maxHeartbeats 4000000 in
theorem bo_Unsettleddd_eqdd {P : Program} {w : World} {K : PySem.W.Frag} {mg : Str → Option Value} {base : Heap} (F : FX wx K mg) {f : Addr} {fd : FuncData} (D : FunD K dd_Unsettleddd_eqdd.name dd_Unsettleddd_eqdd.qual dd_Unsettleddd_eqdd.params dd_Unsettleddd_eqdd.body dd_Unsettleddd_eqdd.scope (dd_Unsettleddd_eqdd.dvs K) (dd_Unsettleddd_eqdd.kws K) f fd) : FnOk P w K mg base (L2.CX P w) 1 f fd ["self", "other"] (spF ⟨K, P, w⟩ 2 m_Unsettleddd_eqdd) :=
  fn_trim (fn_sh (np := 2) (ns := 2) (k := 0) (body := b_Unsettleddd_eqdd) D sc_Unsettleddd_eqdd rfl rfl fun cdv A outer s H E hr =>
    (sss_one (ss_ret (se_and (isC (cs := CS) 13 F.isi (F.free 2) (F.glo 21) (sv 1)) (se_one (se_cmp (so_eqG (room_w hr)) (se_fld (ok := (fun c => List.contains [6, 13] c)) (F.fld 10) (sv 0) rfl) (se_fld (ok := (fun c => List.contains [6, 13] c)) (F.fld 10) (sv 1) rfl) rfl))))))
theorem ok_Unsettleddd_eqdd {P : Program} {w : World} {K : PySem.W.Frag} {mg : Str → Option Value} {base : Heap} (F : FX wx K mg) : FnC P w K mg base 1 (He.fAd K ("Unsettled", some "__eq__")) 2 m_Unsettleddd_eqdd := by
  obtain ⟨fd, D⟩ := F.says.def_ 14 (d := dd_Unsettleddd_eqdd) rfl
  exact ⟨⟨fd, _, bo_Unsettleddd_eqdd F D, D.bindsN fun _ _ _ _ _ _ us hl => match us, hl with | [_, _], _ => rfl⟩, D.kp⟩
def dp_eq : Nat → Option FF := fun c => if c = 1 then some m_Boundeddd_eqdd else if c = 2 then some m_Endlessdd_eqdd else if c = 3 then some m_Driftdd_eqdd else if c = 6 then some m_Alikedd_eqdd else if c = 7 then some m_Parteddd_eqdd else if c = 4 then some m_Cheapestdd_eqdd else if c = 5 then some m_NoChoicedd_eqdd else if c = 10 then some m_Orderlessdd_eqdd else if c = 11 then some m_Ordereddd_eqdd else if c = 12 then some m_Settleddd_eqdd else if c = 13 then some m_Unsettleddd_eqdd else none
theorem hd_eq {P : Program} {w : World} {K : PySem.W.Frag} {mg : Str → Option Value} {base : Heap} (F : FX wx K mg) : ∀ c ff, dp_eq c = some ff → ∃ f, Meth K (ca K c) "__eq__" f ∧ ∃ fd ps, FnOk P w K mg base (L2.CX P w) 2 f fd ps (spF ⟨K, P, w⟩ 2 ff) ∧ Binds K fd ps [] := by
  intro c ff h
  unfold dp_eq at h
  by_cases hBounded : c = 1
  · rw [if_pos hBounded] at h; subst hBounded; cases h; exact ⟨_, F.meth 22, ((ok_Boundeddd_eqdd F).mono (by decide)).1⟩
  rw [if_neg hBounded] at h
  by_cases hEndless : c = 2
  · rw [if_pos hEndless] at h; subst hEndless; cases h; exact ⟨_, F.meth 23, ((ok_Endlessdd_eqdd F).mono (by decide)).1⟩
  rw [if_neg hEndless] at h
  by_cases hDrift : c = 3
  · rw [if_pos hDrift] at h; subst hDrift; cases h; exact ⟨_, F.meth 24, ((ok_Driftdd_eqdd F).mono (by decide)).1⟩
  rw [if_neg hDrift] at h
  by_cases hAlike : c = 6
  · rw [if_pos hAlike] at h; subst hAlike; cases h; exact ⟨_, F.meth 25, ((ok_Alikedd_eqdd F).mono (by decide)).1⟩
  rw [if_neg hAlike] at h
  by_cases hParted : c = 7
  · rw [if_pos hParted] at h; subst hParted; cases h; exact ⟨_, F.meth 26, ((ok_Parteddd_eqdd F).mono (by decide)).1⟩
  rw [if_neg hParted] at h
  by_cases hCheapest : c = 4
  · rw [if_pos hCheapest] at h; subst hCheapest; cases h; exact ⟨_, F.meth 27, ((ok_Cheapestdd_eqdd F).mono (by decide)).1⟩
  rw [if_neg hCheapest] at h
  by_cases hNoChoice : c = 5
  · rw [if_pos hNoChoice] at h; subst hNoChoice; cases h; exact ⟨_, F.meth 28, ((ok_NoChoicedd_eqdd F).mono (by decide)).1⟩
  rw [if_neg hNoChoice] at h
  by_cases hOrderless : c = 10
  · rw [if_pos hOrderless] at h; subst hOrderless; cases h; exact ⟨_, F.meth 29, ((ok_Orderlessdd_eqdd F).mono (by decide)).1⟩
  rw [if_neg hOrderless] at h
  by_cases hOrdered : c = 11
  · rw [if_pos hOrdered] at h; subst hOrdered; cases h; exact ⟨_, F.meth 30, ((ok_Ordereddd_eqdd F).mono (by decide)).1⟩
  rw [if_neg hOrdered] at h
  by_cases hSettled : c = 12
  · rw [if_pos hSettled] at h; subst hSettled; cases h; exact ⟨_, F.meth 31, ((ok_Settleddd_eqdd F).mono (by decide)).1⟩
  rw [if_neg hSettled] at h
  by_cases hUnsettled : c = 13
  · rw [if_pos hUnsettled] at h; subst hUnsettled; cases h; exact ⟨_, F.meth 32, ((ok_Unsettleddd_eqdd F).mono (by decide)).1⟩
  rw [if_neg hUnsettled] at h
  cases h
theorem notf {K : PySem.W.Frag} {mg : Str → Option Value} (F : FX wx K mg) : NotF K CS := notfB_ok (He.ba (show (notfB K CS && neB K CS) = true from F.more)).1
theorem neal {K : PySem.W.Frag} {mg : Str → Option Value} (F : FX wx K mg) : NeAll K CS := neB_ok (He.ba (show (notfB K CS && neB K CS) = true from F.more)).2
abbrev N__law_parts_two : List Str := ["_law_at"]
def b__law_parts_two : SF := (sSeq (sIf (tVal (eBin (oEqO CS dp_eq) (eVar 0) (eC (.int 6)))) (sRet (eLst (aCons (eTup (aCons (eTup (aCons (eC (.int 1)) aNil)) (aCons (eTup (aCons (eC (.int 2)) aNil)) aNil))) (aCons (eTup (aCons (eC (.int 1)) (aCons (eC (.int 2)) aNil))) (aCons (eTup (aCons (eC (.int 2)) (aCons (eC (.int 1)) aNil))) aNil))))) sSkip) (sSeq (sIf (tVal (eBin (oEqO CS dp_eq) (eVar 0) (eC (.int 7)))) (sRet (eLst (aCons (eTup (aCons (eTup (aCons (eC (.int 1)) aNil)) (aCons (eTup (aCons (eC (.int 2)) aNil)) aNil))) aNil))) sSkip) (sSeq (sIf (tVal (eBin (oEqO CS dp_eq) (eVar 0) (eC (.int 8)))) (sRet (eLst (aCons (eTup (aCons (eLst (aCons (eTup (aCons (eTup (aCons (eC (.int 0)) (aCons (eC (.int 0)) aNil))) (aCons (eTup (aCons (eC (.int 0)) (aCons (eC (.int 1)) aNil))) aNil))) aNil)) (aCons (eLst (aCons (eTup (aCons (eTup (aCons (eC (.int 0)) (aCons (eC (.int 0)) aNil))) (aCons (eTup (aCons (eC (.int 0)) (aCons (eC (.int 2)) aNil))) aNil))) aNil)) aNil))) aNil))) sSkip) (sSeq (sIf (tVal (eBin (oEqO CS dp_eq) (eVar 0) (eC (.int 9)))) (sRet (eLst (aCons (eTup (aCons (eC (.int 1)) (aCons (eC (.int 2)) aNil))) (aCons (eTup (aCons (eTup (aCons (eC (.int 1)) aNil)) (aCons (eTup (aCons (eC (.int 2)) aNil)) aNil))) (aCons (eTup (aCons (eB (op1 gDictA) (aCons (eLst (aCons (eTup (aCons (eTup (aCons (eC (.int 0)) (aCons (eC (.int 0)) aNil))) (aCons (eC (.int 1)) aNil))) aNil)) aNil)) (aCons (eB (op1 gDictA) (aCons (eLst (aCons (eTup (aCons (eTup (aCons (eC (.int 0)) (aCons (eC (.int 1)) aNil))) (aCons (eC (.int 1)) aNil))) aNil)) aNil)) aNil))) aNil))))) sSkip) (sRet (eLst (aCons (eTup (aCons (eTup (aCons (eC (.int 1)) aNil)) (aCons (eTup (aCons (eC (.int 2)) aNil)) aNil))) (aCons (eTup (aCons (eTup (aCons (eC (.int 2)) aNil)) (aCons (eTup (aCons (eC (.int 1)) aNil)) aNil))) aNil))))))))
def m__law_parts_two : FF := fnT 0 (fnS 1 1 b__law_parts_two)
theorem sc__law_parts_two : FnScope N__law_parts_two ["_law_at"] (defScope (tp 22)) := ⟨by rfl, by rfl, by rfl, by decide +kernel, by rfl, by decide +kernel, by decide +kernel⟩
set_option maxHeartbeats 4000000 in
theorem bo__law_parts_two {P : Program} {w : World} {K : PySem.W.Frag} {mg : Str → Option Value} {base : Heap} (F : FX wx K mg) {f : Addr} {fd : FuncData} (D : FunD K dd__law_parts_two.name dd__law_parts_two.qual dd__law_parts_two.params dd__law_parts_two.body dd__law_parts_two.scope (dd__law_parts_two.dvs K) (dd__law_parts_two.kws K) f fd) : FnOk P w K mg base (L2.CX P w) 3 f fd ["_law_at"] (spF ⟨K, P, w⟩ 1 m__law_parts_two) :=
  fn_trim (fn_sh (np := 1) (ns := 1) (k := 2) (body := b__law_parts_two) D sc__law_parts_two rfl rfl fun cdv A outer s H E hr =>
    (sss_cons (ss_if (st_cmp (so_eqO (notf F) (hd_eq F) (hr.mono (by decide))) (sv 0) se_int rfl) (sss_one (ss_ret (se_lst (sa_cons (se_tup (sa_cons (se_tup (sa_cons se_int sa_nil)) (sa_cons (se_tup (sa_cons se_int sa_nil)) sa_nil))) (sa_cons (se_tup (sa_cons se_int (sa_cons se_int sa_nil))) (sa_cons (se_tup (sa_cons se_int (sa_cons se_int sa_nil))) sa_nil)))))) sss_nil) (sss_cons (ss_if (st_cmp (so_eqO (notf F) (hd_eq F) (hr.mono (by decide))) (sv 0) se_int rfl) (sss_one (ss_ret (se_lst (sa_cons (se_tup (sa_cons (se_tup (sa_cons se_int sa_nil)) (sa_cons (se_tup (sa_cons se_int sa_nil)) sa_nil))) sa_nil)))) sss_nil) (sss_cons (ss_if (st_cmp (so_eqO (notf F) (hd_eq F) (hr.mono (by decide))) (sv 0) se_int rfl) (sss_one (ss_ret (se_lst (sa_cons (se_tup (sa_cons (se_lst (sa_cons (se_tup (sa_cons (se_tup (sa_cons se_int (sa_cons se_int sa_nil))) (sa_cons (se_tup (sa_cons se_int (sa_cons se_int sa_nil))) sa_nil))) sa_nil)) (sa_cons (se_lst (sa_cons (se_tup (sa_cons (se_tup (sa_cons se_int (sa_cons se_int sa_nil))) (sa_cons (se_tup (sa_cons se_int (sa_cons se_int sa_nil))) sa_nil))) sa_nil)) sa_nil))) sa_nil)))) sss_nil) (sss_cons (ss_if (st_cmp (so_eqO (notf F) (hd_eq F) (hr.mono (by decide))) (sv 0) se_int rfl) (sss_one (ss_ret (se_lst (sa_cons (se_tup (sa_cons se_int (sa_cons se_int sa_nil))) (sa_cons (se_tup (sa_cons (se_tup (sa_cons se_int sa_nil)) (sa_cons (se_tup (sa_cons se_int sa_nil)) sa_nil))) (sa_cons (se_tup (sa_cons (se_callTy (cl_dictA rfl (room_v hr)) rfl (F.free 33) (by decide +kernel) (sa_cons (se_lst (sa_cons (se_tup (sa_cons (se_tup (sa_cons se_int (sa_cons se_int sa_nil))) (sa_cons se_int sa_nil))) sa_nil)) sa_nil)) (sa_cons (se_callTy (cl_dictA rfl (room_v hr)) rfl (F.free 33) (by decide +kernel) (sa_cons (se_lst (sa_cons (se_tup (sa_cons (se_tup (sa_cons se_int (sa_cons se_int sa_nil))) (sa_cons se_int sa_nil))) sa_nil)) sa_nil)) sa_nil))) sa_nil)))))) sss_nil) (sss_one (ss_ret (se_lst (sa_cons (se_tup (sa_cons (se_tup (sa_cons se_int sa_nil)) (sa_cons (se_tup (sa_cons se_int sa_nil)) sa_nil))) (sa_cons (se_tup (sa_cons (se_tup (sa_cons se_int sa_nil)) (sa_cons (se_tup (sa_cons se_int sa_nil)) sa_nil))) sa_nil))))))))))
theorem ok__law_parts_two {P : Program} {w : World} {K : PySem.W.Frag} {mg : Str → Option Value} {base : Heap} (F : FX wx K mg) : FnC P w K mg base 3 (He.fAd K ("_law_parts_two", none)) 1 m__law_parts_two := by
  obtain ⟨fd, D⟩ := F.says.def_ 15 (d := dd__law_parts_two) rfl
  exact ⟨⟨fd, _, bo__law_parts_two F D, D.bindsN fun _ _ _ _ _ _ us hl => match us, hl with | [_], _ => rfl⟩, D.kp⟩
abbrev N__law_parts : List Str := ["_law_at"]
def b__law_parts : SF := (sSeq (sIf (tVal (eBin (oEqO CS dp_eq) (eVar 0) (eC (.int 0)))) (sRet (eLst (aCons (eTup (aCons (eLst (aCons (eTup (aCons (eC (.int 0)) (aCons (eC (.int 0)) aNil))) aNil)) (aCons (eLst (aCons (eTup (aCons (eC (.int 0)) (aCons (eC (.int 1)) aNil))) aNil)) aNil))) aNil))) sSkip) (sSeq (sIf (tVal (eBin (oEqO CS dp_eq) (eVar 0) (eC (.int 1)))) (sRet (eLst (aCons (eTup (aCons (eTup (aCons (eC (.int 1)) aNil)) (aCons (eTup (aCons (eC (.int 2)) aNil)) aNil))) aNil))) sSkip) (sSeq (sIf (tVal (eBin (oEqO CS dp_eq) (eVar 0) (eC (.int 2)))) (sRet (eLst (aCons (eTup (aCons (eTup (aCons (eC (.int 1)) (aCons (eC (.str "a")) (aCons (eC (.str "b")) aNil)))) (aCons (eTup (aCons (eC (.int 1)) (aCons (eC (.str "b")) (aCons (eC (.str "b")) aNil)))) aNil))) (aCons (eTup (aCons (eLst (aCons (eB (op1 gDictA) (aCons (eLst (aCons (eTup (aCons (eTup (aCons (eC (.int 0)) (aCons (eC (.int 0)) aNil))) (aCons (eC (.int 1)) aNil))) aNil)) aNil)) aNil)) (aCons (eLst (aCons (eB (op1 gDictA) (aCons (eLst (aCons (eTup (aCons (eTup (aCons (eC (.int 0)) (aCons (eC (.int 1)) aNil))) (aCons (eC (.int 1)) aNil))) aNil)) aNil)) aNil)) aNil))) (aCons (eTup (aCons (eB (op1 gDictA) (aCons (eLst (aCons (eTup (aCons (eTup (aCons (eC (.int 2)) (aCons (eC (.str "a")) (aCons (eC (.str "b")) aNil)))) (aCons (eTup (aCons (eC (.int 0)) (aCons (eTup (aCons (eC (.int 1)) aNil)) aNil))) aNil))) aNil)) aNil)) (aCons (eB (op1 gDictA) (aCons (eLst (aCons (eTup (aCons (eTup (aCons (eC (.int 2)) (aCons (eC (.str "a")) (aCons (eC (.str "b")) aNil)))) (aCons (eTup (aCons (eC (.int 1)) (aCons (eTup (aCons (eC (.int 1)) aNil)) aNil))) aNil))) aNil)) aNil)) aNil))) aNil))))) sSkip) (sSeq (sIf (tVal (eBin (oEqO CS dp_eq) (eVar 0) (eC (.int 3)))) (sRet (eLst (aCons (eTup (aCons (eB (op1 gDictA) (aCons (eLst (aCons (eTup (aCons (eTup (aCons (eC (.int 2)) (aCons (eC (.str "a")) (aCons (eC (.str "b")) aNil)))) (aCons (eTup (aCons (eC (.int 0)) (aCons (eTup (aCons (eC (.int 1)) aNil)) aNil))) aNil))) aNil)) aNil)) (aCons (eB (op1 gDictA) (aCons (eLst (aCons (eTup (aCons (eTup (aCons (eC (.int 2)) (aCons (eC (.str "a")) (aCons (eC (.str "b")) aNil)))) (aCons (eTup (aCons (eC (.int 1)) (aCons (eTup (aCons (eC (.int 1)) aNil)) aNil))) aNil))) aNil)) aNil)) aNil))) aNil))) sSkip) (sSeq (sIf (tVal (eBin (oEqO CS dp_eq) (eVar 0) (eC (.int 4)))) (sRet (eLst (aCons (eTup (aCons (eTup (aCons (eC (.int 1)) (aCons (eC (.int 2)) aNil))) (aCons (eTup (aCons (eC (.int 1)) (aCons (eC (.int 3)) aNil))) aNil))) (aCons (eTup (aCons (eTup (aCons (eC (.int 1)) aNil)) (aCons (eTup (aCons (eC (.int 2)) aNil)) aNil))) (aCons (eTup (aCons (eTup (aCons (eC (.int 2)) aNil)) (aCons (eTup (aCons (eC (.int 1)) aNil)) aNil))) (aCons (eTup (aCons (eB (op1 gDictA) (aCons (eLst (aCons (eTup (aCons (eTup (aCons (eC (.int 0)) (aCons (eC (.int 0)) aNil))) (aCons (eC (.int 1)) aNil))) aNil)) aNil)) (aCons (eB (op1 gDictA) (aCons (eLst (aCons (eTup (aCons (eTup (aCons (eC (.int 0)) (aCons (eC (.int 1)) aNil))) (aCons (eC (.int 1)) aNil))) aNil)) aNil)) aNil))) aNil)))))) sSkip) (sSeq (sIf (tVal (eBin (oEqO CS dp_eq) (eVar 0) (eC (.int 5)))) (sRet (eLst (aCons (eTup (aCons (eLst (aCons (eTup (aCons (eC (.int 0)) (aCons (eC (.int 0)) aNil))) aNil)) (aCons (eLst (aCons (eTup (aCons (eC (.int 0)) (aCons (eC (.int 1)) aNil))) aNil)) aNil))) aNil))) sSkip) (sRet (eCall 1 m__law_parts_two (aCons (eVar 0) aNil)))))))))
def m__law_parts : FF := fnT 0 (fnS 1 1 b__law_parts)
theorem sc__law_parts : FnScope N__law_parts ["_law_at"] (defScope (tp 21)) := ⟨by rfl, by rfl, by rfl, by decide +kernel, by rfl, by decide +kernel, by decide +kernel⟩
set_option maxHeartbeats 4000000 in
theorem bo__law_parts {P : Program} {w : World} {K : PySem.W.Frag} {mg : Str → Option Value} {base : Heap} (F : FX wx K mg) {f : Addr} {fd : FuncData} (D : FunD K dd__law_parts.name dd__law_parts.qual dd__law_parts.params dd__law_parts.body dd__law_parts.scope (dd__law_parts.dvs K) (dd__law_parts.kws K) f fd) : FnOk P w K mg base (L2.CX P w) 4 f fd ["_law_at"] (spF ⟨K, P, w⟩ 1 m__law_parts) :=
  fn_trim (fn_sh (np := 1) (ns := 1) (k := 3) (body := b__law_parts) D sc__law_parts rfl rfl fun cdv A outer s H E hr =>
    (sss_cons (ss_if (st_cmp (so_eqO (notf F) (hd_eq F) (hr.mono (by decide))) (sv 0) se_int rfl) (sss_one (ss_ret (se_lst (sa_cons (se_tup (sa_cons (se_lst (sa_cons (se_tup (sa_cons se_int (sa_cons se_int sa_nil))) sa_nil)) (sa_cons (se_lst (sa_cons (se_tup (sa_cons se_int (sa_cons se_int sa_nil))) sa_nil)) sa_nil))) sa_nil)))) sss_nil) (sss_cons (ss_if (st_cmp (so_eqO (notf F) (hd_eq F) (hr.mono (by decide))) (sv 0) se_int rfl) (sss_one (ss_ret (se_lst (sa_cons (se_tup (sa_cons (se_tup (sa_cons se_int sa_nil)) (sa_cons (se_tup (sa_cons se_int sa_nil)) sa_nil))) sa_nil)))) sss_nil) (sss_cons (ss_if (st_cmp (so_eqO (notf F) (hd_eq F) (hr.mono (by decide))) (sv 0) se_int rfl) (sss_one (ss_ret (se_lst (sa_cons (se_tup (sa_cons (se_tup (sa_cons se_int (sa_cons se_str (sa_cons se_str sa_nil)))) (sa_cons (se_tup (sa_cons se_int (sa_cons se_str (sa_cons se_str sa_nil)))) sa_nil))) (sa_cons (se_tup (sa_cons (se_lst (sa_cons (se_callTy (cl_dictA rfl (room_v hr)) rfl (F.free 33) (by decide +kernel) (sa_cons (se_lst (sa_cons (se_tup (sa_cons (se_tup (sa_cons se_int (sa_cons se_int sa_nil))) (sa_cons se_int sa_nil))) sa_nil)) sa_nil)) sa_nil)) (sa_cons (se_lst (sa_cons (se_callTy (cl_dictA rfl (room_v hr)) rfl (F.free 33) (by decide +kernel) (sa_cons (se_lst (sa_cons (se_tup (sa_cons (se_tup (sa_cons se_int (sa_cons se_int sa_nil))) (sa_cons se_int sa_nil))) sa_nil)) sa_nil)) sa_nil)) sa_nil))) (sa_cons (se_tup (sa_cons (se_callTy (cl_dictA rfl (room_v hr)) rfl (F.free 33) (by decide +kernel) (sa_cons (se_lst (sa_cons (se_tup (sa_cons (se_tup (sa_cons se_int (sa_cons se_str (sa_cons se_str sa_nil)))) (sa_cons (se_tup (sa_cons se_int (sa_cons (se_tup (sa_cons se_int sa_nil)) sa_nil))) sa_nil))) sa_nil)) sa_nil)) (sa_cons (se_callTy (cl_dictA rfl (room_v hr)) rfl (F.free 33) (by decide +kernel) (sa_cons (se_lst (sa_cons (se_tup (sa_cons (se_tup (sa_cons se_int (sa_cons se_str (sa_cons se_str sa_nil)))) (sa_cons (se_tup (sa_cons se_int (sa_cons (se_tup (sa_cons se_int sa_nil)) sa_nil))) sa_nil))) sa_nil)) sa_nil)) sa_nil))) sa_nil)))))) sss_nil) (sss_cons (ss_if (st_cmp (so_eqO (notf F) (hd_eq F) (hr.mono (by decide))) (sv 0) se_int rfl) (sss_one (ss_ret (se_lst (sa_cons (se_tup (sa_cons (se_callTy (cl_dictA rfl (room_v hr)) rfl (F.free 33) (by decide +kernel) (sa_cons (se_lst (sa_cons (se_tup (sa_cons (se_tup (sa_cons se_int (sa_cons se_str (sa_cons se_str sa_nil)))) (sa_cons (se_tup (sa_cons se_int (sa_cons (se_tup (sa_cons se_int sa_nil)) sa_nil))) sa_nil))) sa_nil)) sa_nil)) (sa_cons (se_callTy (cl_dictA rfl (room_v hr)) rfl (F.free 33) (by decide +kernel) (sa_cons (se_lst (sa_cons (se_tup (sa_cons (se_tup (sa_cons se_int (sa_cons se_str (sa_cons se_str sa_nil)))) (sa_cons (se_tup (sa_cons se_int (sa_cons (se_tup (sa_cons se_int sa_nil)) sa_nil))) sa_nil))) sa_nil)) sa_nil)) sa_nil))) sa_nil)))) sss_nil) (sss_cons (ss_if (st_cmp (so_eqO (notf F) (hd_eq F) (hr.mono (by decide))) (sv 0) se_int rfl) (sss_one (ss_ret (se_lst (sa_cons (se_tup (sa_cons (se_tup (sa_cons se_int (sa_cons se_int sa_nil))) (sa_cons (se_tup (sa_cons se_int (sa_cons se_int sa_nil))) sa_nil))) (sa_cons (se_tup (sa_cons (se_tup (sa_cons se_int sa_nil)) (sa_cons (se_tup (sa_cons se_int sa_nil)) sa_nil))) (sa_cons (se_tup (sa_cons (se_tup (sa_cons se_int sa_nil)) (sa_cons (se_tup (sa_cons se_int sa_nil)) sa_nil))) (sa_cons (se_tup (sa_cons (se_callTy (cl_dictA rfl (room_v hr)) rfl (F.free 33) (by decide +kernel) (sa_cons (se_lst (sa_cons (se_tup (sa_cons (se_tup (sa_cons se_int (sa_cons se_int sa_nil))) (sa_cons se_int sa_nil))) sa_nil)) sa_nil)) (sa_cons (se_callTy (cl_dictA rfl (room_v hr)) rfl (F.free 33) (by decide +kernel) (sa_cons (se_lst (sa_cons (se_tup (sa_cons (se_tup (sa_cons se_int (sa_cons se_int sa_nil))) (sa_cons se_int sa_nil))) sa_nil)) sa_nil)) sa_nil))) sa_nil))))))) sss_nil) (sss_cons (ss_if (st_cmp (so_eqO (notf F) (hd_eq F) (hr.mono (by decide))) (sv 0) se_int rfl) (sss_one (ss_ret (se_lst (sa_cons (se_tup (sa_cons (se_lst (sa_cons (se_tup (sa_cons se_int (sa_cons se_int sa_nil))) sa_nil)) (sa_cons (se_lst (sa_cons (se_tup (sa_cons se_int (sa_cons se_int sa_nil))) sa_nil)) sa_nil))) sa_nil)))) sss_nil) (sss_one (ss_ret (sC (ok__law_parts_two F) hr (F.glo 34) tkF (sa_cons (sv 0) sa_nil)))))))))))
theorem ok__law_parts {P : Program} {w : World} {K : PySem.W.Frag} {mg : Str → Option Value} {base : Heap} (F : FX wx K mg) : FnC P w K mg base 4 (He.fAd K ("_law_parts", none)) 1 m__law_parts := by
  obtain ⟨fd, D⟩ := F.says.def_ 16 (d := dd__law_parts) rfl
  exact ⟨⟨fd, _, bo__law_parts F D, D.bindsN fun _ _ _ _ _ _ us hl => match us, hl with | [_], _ => rfl⟩, D.kp⟩
abbrev N__law_fresh : List Str := ["_law_at", "_law_pair"]
def b__law_fresh : SF := (sRet (eLc (iAny (eCall 1 m__law_parts (aCons (eVar 0) aNil))) true [1] [1] tYesD (eBin oIx (eVar 1) (eC (.int 0)))))
def m__law_fresh : FF := fnT 0 (fnS 1 2 b__law_fresh)
theorem sc__law_fresh : FnScope N__law_fresh ["_law_at"] (defScope (tp 23)) := ⟨by rfl, by rfl, by rfl, by decide +kernel, by rfl, by decide +kernel, by decide +kernel⟩
set_option maxHeartbeats 4000000 in
theorem bo__law_fresh {P : Program} {w : World} {K : PySem.W.Frag} {mg : Str → Option Value} {base : Heap} (F : FX wx K mg) {f : Addr} {fd : FuncData} (D : FunD K dd__law_fresh.name dd__law_fresh.qual dd__law_fresh.params dd__law_fresh.body dd__law_fresh.scope (dd__law_fresh.dvs K) (dd__law_fresh.kws K) f fd) : FnOk P w K mg base (L2.CX P w) 5 f fd ["_law_at"] (spF ⟨K, P, w⟩ 1 m__law_fresh) :=
  fn_trim (fn_sh (np := 1) (ns := 2) (k := 4) (body := b__law_fresh) D sc__law_fresh rfl rfl fun cdv A outer s H E hr =>
    (sss_one (ss_ret (se_lcP (own := [("_law_pair", 1)]) (one := true) (is := [1]) (t := (gName 1)) rfl sc__law_fresh.nd (si_any (sC (ok__law_parts F) hr (F.glo 35) tkF (sa_cons (sv 0) sa_nil))) (blkOk_by (own := [("_law_pair", 1)]) (by rfl)) (by decide) (fun _ _ _ _ _ => ⟨(pg_name (i := 1) sc__law_fresh.nd rfl (Or.inl rfl)), sts_nil, (se_ix (ix_all (room_v hr)) (sv 1) se_int (fun _ _ => rfl))⟩) (fun e r h => rd_one (i := 1) e r h)))))
theorem ok__law_fresh {P : Program} {w : World} {K : PySem.W.Frag} {mg : Str → Option Value} {base : Heap} (F : FX wx K mg) : FnC P w K mg base 5 (He.fAd K ("_law_fresh", none)) 1 m__law_fresh := by
  obtain ⟨fd, D⟩ := F.says.def_ 17 (d := dd__law_fresh) rfl
  exact ⟨⟨fd, _, bo__law_fresh F D, D.bindsN fun _ _ _ _ _ _ us hl => match us, hl with | [_], _ => rfl⟩, D.kp⟩
abbrev N_Alikedd_initdd : List Str := ["self", "pairs"]
def b_Alikedd_initdd : SF := (sFld "pairs" (fun c => List.contains [6, 13] c) (eVar 0) (eB (op1 gListA) (aCons (eVar 1) aNil)))
def m_Alikedd_initdd : FF := fnT 0 (fnS 2 2 b_Alikedd_initdd)
theorem sc_Alikedd_initdd : FnScope N_Alikedd_initdd ["self", "pairs"] (defScope (tc 7 0)) := ⟨by rfl, by rfl, by rfl, by decide +kernel, by rfl, by decide +kernel, by decide +kernel⟩
set_option maxHeartbeats 4000000 in
theorem bo_Alikedd_initdd {P : Program} {w : World} {K : PySem.W.Frag} {mg : Str → Option Value} {base : Heap} (F : FX wx K mg) {f : Addr} {fd : FuncData} (D : FunD K dd_Alikedd_initdd.name dd_Alikedd_initdd.qual dd_Alikedd_initdd.params dd_Alikedd_initdd.body dd_Alikedd_initdd.scope (dd_Alikedd_initdd.dvs K) (dd_Alikedd_initdd.kws K) f fd) : FnOk P w K mg base (L2.CX P w) 1 f fd ["self", "pairs"] (spF ⟨K, P, w⟩ 2 m_Alikedd_initdd) :=
  fn_trim (fn_sh (np := 2) (ns := 2) (k := 0) (body := b_Alikedd_initdd) D sc_Alikedd_initdd rfl rfl fun cdv A outer s H E hr =>
    (sss_one (ss_fld (ok := (fun c => List.contains [6, 13] c)) (F.fld 10) (sv 0) (se_callTy (cl_listA rfl) rfl (F.free 38) (by decide +kernel) (sa_cons (sv 1) sa_nil)) rfl)))
theorem ok_Alikedd_initdd {P : Program} {w : World} {K : PySem.W.Frag} {mg : Str → Option Value} {base : Heap} (F : FX wx K mg) : FnC P w K mg base 1 (He.fAd K ("Alike", some "__init__")) 2 m_Alikedd_initdd := by
  obtain ⟨fd, D⟩ := F.says.def_ 18 (d := dd_Alikedd_initdd) rfl
  exact ⟨⟨fd, _, bo_Alikedd_initdd F D, D.bindsN fun _ _ _ _ _ _ us hl => match us, hl with | [_, _], _ => rfl⟩, D.kp⟩
theorem okK_Alikedd_initdd {P : Program} {w : World} {K : PySem.W.Frag} {mg : Str → Option Value} {base : Heap} (F : FX wx K mg) : FnKC P w K mg base 1 (He.fAd K ("Alike", some "__init__")) 2 [] 2 gId m_Alikedd_initdd := by
  obtain ⟨fd, D⟩ := F.says.def_ 18 (d := dd_Alikedd_initdd) rfl
  exact ⟨fd, _, bo_Alikedd_initdd F D, bd_of (D.bindsN fun _ _ _ _ _ _ us hl => match us, hl with | [_, _], _ => rfl) rfl⟩
abbrev N_Parteddd_initdd : List Str := ["self", "row"]
def b_Parteddd_initdd : SF := (sFld "row" (fun c => List.contains [1, 7, 11, 12] c) (eVar 0) (eB (op1 gTuple) (aCons (eVar 1) aNil)))
def m_Parteddd_initdd : FF := fnT 0 (fnS 2 2 b_Parteddd_initdd)
theorem sc_Parteddd_initdd : FnScope N_Parteddd_initdd ["self", "row"] (defScope (tc 8 0)) := ⟨by rfl, by rfl, by rfl, by decide +kernel, by rfl, by decide +kernel, by decide +kernel⟩
set_option maxHeartbeats 4000000 in
theorem bo_Parteddd_initdd {P : Program} {w : World} {K : PySem.W.Frag} {mg : Str → Option Value} {base : Heap} (F : FX wx K mg) {f : Addr} {fd : FuncData} (D : FunD K dd_Parteddd_initdd.name dd_Parteddd_initdd.qual dd_Parteddd_initdd.params dd_Parteddd_initdd.body dd_Parteddd_initdd.scope (dd_Parteddd_initdd.dvs K) (dd_Parteddd_initdd.kws K) f fd) : FnOk P w K mg base (L2.CX P w) 1 f fd ["self", "row"] (spF ⟨K, P, w⟩ 2 m_Parteddd_initdd) :=
  fn_trim (fn_sh (np := 2) (ns := 2) (k := 0) (body := b_Parteddd_initdd) D sc_Parteddd_initdd rfl rfl fun cdv A outer s H E hr =>
    (sss_one (ss_fld (ok := (fun c => List.contains [1, 7, 11, 12] c)) (F.fld 1) (sv 0) (se_callTy cl_tuple rfl (F.free 40) (by decide +kernel) (sa_cons (sv 1) sa_nil)) rfl)))
theorem ok_Parteddd_initdd {P : Program} {w : World} {K : PySem.W.Frag} {mg : Str → Option Value} {base : Heap} (F : FX wx K mg) : FnC P w K mg base 1 (He.fAd K ("Parted", some "__init__")) 2 m_Parteddd_initdd := by
  obtain ⟨fd, D⟩ := F.says.def_ 19 (d := dd_Parteddd_initdd) rfl
  exact ⟨⟨fd, _, bo_Parteddd_initdd F D, D.bindsN fun _ _ _ _ _ _ us hl => match us, hl with | [_, _], _ => rfl⟩, D.kp⟩
theorem okK_Parteddd_initdd {P : Program} {w : World} {K : PySem.W.Frag} {mg : Str → Option Value} {base : Heap} (F : FX wx K mg) : FnKC P w K mg base 1 (He.fAd K ("Parted", some "__init__")) 2 [] 2 gId m_Parteddd_initdd := by
  obtain ⟨fd, D⟩ := F.says.def_ 19 (d := dd_Parteddd_initdd) rfl
  exact ⟨fd, _, bo_Parteddd_initdd F D, bd_of (D.bindsN fun _ _ _ _ _ _ us hl => match us, hl with | [_, _], _ => rfl) rfl⟩
abbrev N_Cheapestdd_initdd : List Str := ["self", "choice", "heights", "against", "some", "one", "pair"]
def b_Cheapestdd_initdd : SF := (sSeq (sFld "choice" (fun c => List.contains [4] c) (eVar 0) (eVar 1)) (sSeq (sFld "heights" (fun c => List.contains [1, 3, 4] c) (eVar 0) (eLc (iAny (eVar 2)) true [4] [4] tYesD (eB (op1 gDictA) (aCons (eVar 4) aNil)))) (sFld "against" (fun c => List.contains [4, 5] c) (eVar 0) (eFree (eDc (iItm (eVar 3)) false [5, 6] [5, 6] tYesD (eVar 5) (eTup (aCons (eBin oIx (eVar 6) (eC (.int 0))) (aCons (eB (op1 gTuple) (aCons (eBin oIx (eVar 6) (eC (.int 1))) aNil)) aNil))))))))
def m_Cheapestdd_initdd : FF := fnT 0 (fnS 4 7 b_Cheapestdd_initdd)
theorem sc_Cheapestdd_initdd : FnScope N_Cheapestdd_initdd ["self", "choice", "heights", "against"] (defScope (tc 10 0)) := ⟨by rfl, by rfl, by rfl, by decide +kernel, by rfl, by decide +kernel, by decide +kernel⟩
set_option maxHeartbeats 4000000 in
theorem bo_Cheapestdd_initdd {P : Program} {w : World} {K : PySem.W.Frag} {mg : Str → Option Value} {base : Heap} (F : FX wx K mg) {f : Addr} {fd : FuncData} (D : FunD K dd_Cheapestdd_initdd.name dd_Cheapestdd_initdd.qual dd_Cheapestdd_initdd.params dd_Cheapestdd_initdd.body dd_Cheapestdd_initdd.scope (dd_Cheapestdd_initdd.dvs K) (dd_Cheapestdd_initdd.kws K) f fd) : FnOk P w K mg base (L2.CX P w) 1 f fd ["self", "choice", "heights", "against"] (spF ⟨K, P, w⟩ 4 m_Cheapestdd_initdd) :=
  fn_trim (fn_sh (np := 4) (ns := 7) (k := 0) (body := b_Cheapestdd_initdd) D sc_Cheapestdd_initdd rfl rfl fun cdv A outer s H E hr =>
    (sss_cons (ss_fld (ok := (fun c => List.contains [4] c)) (F.fld 4) (sv 0) (sv 1) rfl) (sss_cons (ss_fld (ok := (fun c => List.contains [1, 3, 4] c)) (F.fld 0) (sv 0) (se_lcP (own := [("some", 4)]) (one := true) (is := [4]) (t := (gName 4)) rfl sc_Cheapestdd_initdd.nd (si_any (sv 2)) (blkOk_by (own := [("some", 4)]) (by rfl)) (by decide) (fun _ _ _ _ _ => ⟨(pg_name (i := 4) sc_Cheapestdd_initdd.nd rfl (Or.inl rfl)), sts_nil, (se_callTy (cl_dictA rfl (room_v hr)) rfl (F.free 33) (by decide +kernel) (sa_cons (sv 4) sa_nil))⟩) (fun e r h => rd_one (i := 4) e r h)) rfl) (sss_one (ss_fld (ok := (fun c => List.contains [4, 5] c)) (F.fld 3) (sv 0) (se_free (se_dc (own := [("one", 5), ("pair", 6)]) (one := false) (is := [5, 6]) (t := (gTup K 2 (gNs [5, 6]))) rfl sc_Cheapestdd_initdd.nd (room_v hr) (si_items (sv 3)) (blkOk_by (own := [("one", 5), ("pair", 6)]) (by rfl)) (by decide) (fun _ _ _ _ _ => ⟨(pg_tup rfl (gns_cons (i := 5) sc_Cheapestdd_initdd.nd rfl (Or.inl rfl) (gns_cons (i := 6) sc_Cheapestdd_initdd.nd rfl (Or.inl rfl) gns_nil))), sts_nil, (sv 5), (se_tup (sa_cons (se_ix (ix_all (room_v hr)) (sv 6) se_int (fun _ _ => rfl)) (sa_cons (se_callTy cl_tuple rfl (F.free 40) (by decide +kernel) (sa_cons (se_ix (ix_all (room_v hr)) (sv 6) se_int (fun _ _ => rfl)) sa_nil)) sa_nil)))⟩) (fun e r h => rd_tup (is := [5, 6]) e r h))) rfl)))))
theorem ok_Cheapestdd_initdd {P : Program} {w : World} {K : PySem.W.Frag} {mg : Str → Option Value} {base : Heap} (F : FX wx K mg) : FnC P w K mg base 1 (He.fAd K ("Cheapest", some "__init__")) 4 m_Cheapestdd_initdd := by
  obtain ⟨fd, D⟩ := F.says.def_ 20 (d := dd_Cheapestdd_initdd) rfl
  exact ⟨⟨fd, _, bo_Cheapestdd_initdd F D, D.bindsN fun _ _ _ _ _ _ us hl => match us, hl with | [_, _, _, _], _ => rfl⟩, D.kp⟩
theorem okK_Cheapestdd_initdd {P : Program} {w : World} {K : PySem.W.Frag} {mg : Str → Option Value} {base : Heap} (F : FX wx K mg) : FnKC P w K mg base 1 (He.fAd K ("Cheapest", some "__init__")) 4 [] 4 gId m_Cheapestdd_initdd := by
  obtain ⟨fd, D⟩ := F.says.def_ 20 (d := dd_Cheapestdd_initdd) rfl
  exact ⟨fd, _, bo_Cheapestdd_initdd F D, bd_of (D.bindsN fun _ _ _ _ _ _ us hl => match us, hl with | [_, _, _, _], _ => rfl) rfl⟩
abbrev N_NoChoicedd_initdd : List Str := ["self", "against", "one", "pair"]
def b_NoChoicedd_initdd : SF := (sFld "against" (fun c => List.contains [4, 5] c) (eVar 0) (eFree (eDc (iItm (eVar 1)) false [2, 3] [2, 3] tYesD (eVar 2) (eTup (aCons (eBin oIx (eVar 3) (eC (.int 0))) (aCons (eB (op1 gTuple) (aCons (eBin oIx (eVar 3) (eC (.int 1))) aNil)) aNil))))))
def m_NoChoicedd_initdd : FF := fnT 0 (fnS 2 4 b_NoChoicedd_initdd)
theorem sc_NoChoicedd_initdd : FnScope N_NoChoicedd_initdd ["self", "against"] (defScope (tc 11 0)) := ⟨by rfl, by rfl, by rfl, by decide +kernel, by rfl, by decide +kernel, by decide +kernel⟩
set_option maxHeartbeats 4000000 in
theorem bo_NoChoicedd_initdd {P : Program} {w : World} {K : PySem.W.Frag} {mg : Str → Option Value} {base : Heap} (F : FX wx K mg) {f : Addr} {fd : FuncData} (D : FunD K dd_NoChoicedd_initdd.name dd_NoChoicedd_initdd.qual dd_NoChoicedd_initdd.params dd_NoChoicedd_initdd.body dd_NoChoicedd_initdd.scope (dd_NoChoicedd_initdd.dvs K) (dd_NoChoicedd_initdd.kws K) f fd) : FnOk P w K mg base (L2.CX P w) 1 f fd ["self", "against"] (spF ⟨K, P, w⟩ 2 m_NoChoicedd_initdd) :=
  fn_trim (fn_sh (np := 2) (ns := 4) (k := 0) (body := b_NoChoicedd_initdd) D sc_NoChoicedd_initdd rfl rfl fun cdv A outer s H E hr =>
    (sss_one (ss_fld (ok := (fun c => List.contains [4, 5] c)) (F.fld 3) (sv 0) (se_free (se_dc (own := [("one", 2), ("pair", 3)]) (one := false) (is := [2, 3]) (t := (gTup K 2 (gNs [2, 3]))) rfl sc_NoChoicedd_initdd.nd (room_v hr) (si_items (sv 1)) (blkOk_by (own := [("one", 2), ("pair", 3)]) (by rfl)) (by decide) (fun _ _ _ _ _ => ⟨(pg_tup rfl (gns_cons (i := 2) sc_NoChoicedd_initdd.nd rfl (Or.inl rfl) (gns_cons (i := 3) sc_NoChoicedd_initdd.nd rfl (Or.inl rfl) gns_nil))), sts_nil, (sv 2), (se_tup (sa_cons (se_ix (ix_all (room_v hr)) (sv 3) se_int (fun _ _ => rfl)) (sa_cons (se_callTy cl_tuple rfl (F.free 40) (by decide +kernel) (sa_cons (se_ix (ix_all (room_v hr)) (sv 3) se_int (fun _ _ => rfl)) sa_nil)) sa_nil)))⟩) (fun e r h => rd_tup (is := [2, 3]) e r h))) rfl)))
theorem ok_NoChoicedd_initdd {P : Program} {w : World} {K : PySem.W.Frag} {mg : Str → Option Value} {base : Heap} (F : FX wx K mg) : FnC P w K mg base 1 (He.fAd K ("NoChoice", some "__init__")) 2 m_NoChoicedd_initdd := by
  obtain ⟨fd, D⟩ := F.says.def_ 21 (d := dd_NoChoicedd_initdd) rfl
  exact ⟨⟨fd, _, bo_NoChoicedd_initdd F D, D.bindsN fun _ _ _ _ _ _ us hl => match us, hl with | [_, _], _ => rfl⟩, D.kp⟩
theorem okK_NoChoicedd_initdd {P : Program} {w : World} {K : PySem.W.Frag} {mg : Str → Option Value} {base : Heap} (F : FX wx K mg) : FnKC P w K mg base 1 (He.fAd K ("NoChoice", some "__init__")) 2 [] 2 gId m_NoChoicedd_initdd := by
  obtain ⟨fd, D⟩ := F.says.def_ 21 (d := dd_NoChoicedd_initdd) rfl
  exact ⟨fd, _, bo_NoChoicedd_initdd F D, bd_of (D.bindsN fun _ _ _ _ _ _ us hl => match us, hl with | [_, _], _ => rfl) rfl⟩
abbrev N_Driftdd_initdd : List Str := ["self", "mean", "ahead", "ring", "heights"]
def b_Driftdd_initdd : SF := (sSeq (sFld "mean" (fun c => List.contains [3] c) (eVar 0) (eVar 1)) (sSeq (sFld "ahead" (fun c => List.contains [2, 3] c) (eVar 0) (eB (op1 gTuple) (aCons (eVar 2) aNil))) (sSeq (sFld "ring" (fun c => List.contains [2, 3] c) (eVar 0) (eB (op1 gTuple) (aCons (eVar 3) aNil))) (sFld "heights" (fun c => List.contains [1, 3, 4] c) (eVar 0) (eB (op1 gDictA) (aCons (eVar 4) aNil))))))
def m_Driftdd_initdd : FF := fnT 0 (fnS 5 5 b_Driftdd_initdd)
theorem sc_Driftdd_initdd : FnScope N_Driftdd_initdd ["self", "mean", "ahead", "ring", "heights"] (defScope (tc 5 0)) := ⟨by rfl, by rfl, by rfl, by decide +kernel, by rfl, by decide +kernel, by decide +kernel⟩
set_option maxHeartbeats 4000000 in
theorem bo_Driftdd_initdd {P : Program} {w : World} {K : PySem.W.Frag} {mg : Str → Option Value} {base : Heap} (F : FX wx K mg) {f : Addr} {fd : FuncData} (D : FunD K dd_Driftdd_initdd.name dd_Driftdd_initdd.qual dd_Driftdd_initdd.params dd_Driftdd_initdd.body dd_Driftdd_initdd.scope (dd_Driftdd_initdd.dvs K) (dd_Driftdd_initdd.kws K) f fd) : FnOk P w K mg base (L2.CX P w) 1 f fd ["self", "mean", "ahead", "ring", "heights"] (spF ⟨K, P, w⟩ 5 m_Driftdd_initdd) :=
  fn_trim (fn_sh (np := 5) (ns := 5) (k := 0) (body := b_Driftdd_initdd) D sc_Driftdd_initdd rfl rfl fun cdv A outer s H E hr =>
    (sss_cons (ss_fld (ok := (fun c => List.contains [3] c)) (F.fld 9) (sv 0) (sv 1) rfl) (sss_cons (ss_fld (ok := (fun c => List.contains [2, 3] c)) (F.fld 8) (sv 0) (se_callTy cl_tuple rfl (F.free 40) (by decide +kernel) (sa_cons (sv 2) sa_nil)) rfl) (sss_cons (ss_fld (ok := (fun c => List.contains [2, 3] c)) (F.fld 7) (sv 0) (se_callTy cl_tuple rfl (F.free 40) (by decide +kernel) (sa_cons (sv 3) sa_nil)) rfl) (sss_one (ss_fld (ok := (fun c => List.contains [1, 3, 4] c)) (F.fld 0) (sv 0) (se_callTy (cl_dictA rfl (room_v hr)) rfl (F.free 33) (by decide +kernel) (sa_cons (sv 4) sa_nil)) rfl))))))
theorem ok_Driftdd_initdd {P : Program} {w : World} {K : PySem.W.Frag} {mg : Str → Option Value} {base : Heap} (F : FX wx K mg) : FnC P w K mg base 1 (He.fAd K ("Drift", some "__init__")) 5 m_Driftdd_initdd := by
  obtain ⟨fd, D⟩ := F.says.def_ 22 (d := dd_Driftdd_initdd) rfl
  exact ⟨⟨fd, _, bo_Driftdd_initdd F D, D.bindsN fun _ _ _ _ _ _ us hl => match us, hl with | [_, _, _, _, _], _ => rfl⟩, D.kp⟩
theorem okK_Driftdd_initdd {P : Program} {w : World} {K : PySem.W.Frag} {mg : Str → Option Value} {base : Heap} (F : FX wx K mg) : FnKC P w K mg base 1 (He.fAd K ("Drift", some "__init__")) 5 [] 5 gId m_Driftdd_initdd := by
  obtain ⟨fd, D⟩ := F.says.def_ 22 (d := dd_Driftdd_initdd) rfl
  exact ⟨fd, _, bo_Driftdd_initdd F D, bd_of (D.bindsN fun _ _ _ _ _ _ us hl => match us, hl with | [_, _, _, _, _], _ => rfl) rfl⟩
abbrev N_Orderlessdd_initdd : List Str := ["self", "states"]
def b_Orderlessdd_initdd : SF := (sFld "states" (fun c => List.contains [10] c) (eVar 0) (eB (op1 gListA) (aCons (eVar 1) aNil)))
def m_Orderlessdd_initdd : FF := fnT 0 (fnS 2 2 b_Orderlessdd_initdd)
theorem sc_Orderlessdd_initdd : FnScope N_Orderlessdd_initdd ["self", "states"] (defScope (tc 13 0)) := ⟨by rfl, by rfl, by rfl, by decide +kernel, by rfl, by decide +kernel, by decide +kernel⟩
set_option maxHeartbeats 4000000 in
theorem bo_Orderlessdd_initdd {P : Program} {w : World} {K : PySem.W.Frag} {mg : Str → Option Value} {base : Heap} (F : FX wx K mg) {f : Addr} {fd : FuncData} (D : FunD K dd_Orderlessdd_initdd.name dd_Orderlessdd_initdd.qual dd_Orderlessdd_initdd.params dd_Orderlessdd_initdd.body dd_Orderlessdd_initdd.scope (dd_Orderlessdd_initdd.dvs K) (dd_Orderlessdd_initdd.kws K) f fd) : FnOk P w K mg base (L2.CX P w) 1 f fd ["self", "states"] (spF ⟨K, P, w⟩ 2 m_Orderlessdd_initdd) :=
  fn_trim (fn_sh (np := 2) (ns := 2) (k := 0) (body := b_Orderlessdd_initdd) D sc_Orderlessdd_initdd rfl rfl fun cdv A outer s H E hr =>
    (sss_one (ss_fld (ok := (fun c => List.contains [10] c)) (F.fld 11) (sv 0) (se_callTy (cl_listA rfl) rfl (F.free 38) (by decide +kernel) (sa_cons (sv 1) sa_nil)) rfl)))
theorem ok_Orderlessdd_initdd {P : Program} {w : World} {K : PySem.W.Frag} {mg : Str → Option Value} {base : Heap} (F : FX wx K mg) : FnC P w K mg base 1 (He.fAd K ("Orderless", some "__init__")) 2 m_Orderlessdd_initdd := by
  obtain ⟨fd, D⟩ := F.says.def_ 23 (d := dd_Orderlessdd_initdd) rfl
  exact ⟨⟨fd, _, bo_Orderlessdd_initdd F D, D.bindsN fun _ _ _ _ _ _ us hl => match us, hl with | [_, _], _ => rfl⟩, D.kp⟩
theorem okK_Orderlessdd_initdd {P : Program} {w : World} {K : PySem.W.Frag} {mg : Str → Option Value} {base : Heap} (F : FX wx K mg) : FnKC P w K mg base 1 (He.fAd K ("Orderless", some "__init__")) 2 [] 2 gId m_Orderlessdd_initdd := by
  obtain ⟨fd, D⟩ := F.says.def_ 23 (d := dd_Orderlessdd_initdd) rfl
  exact ⟨fd, _, bo_Orderlessdd_initdd F D, bd_of (D.bindsN fun _ _ _ _ _ _ us hl => match us, hl with | [_, _], _ => rfl) rfl⟩
abbrev N_Ordereddd_initdd : List Str := ["self", "row", "one", "other"]
def b_Ordereddd_initdd : SF := (sSeq (sFld "row" (fun c => List.contains [1, 7, 11, 12] c) (eVar 0) (eB (op1 gTuple) (aCons (eVar 1) aNil))) (sSeq (sFld "one" (fun c => List.contains [11] c) (eVar 0) (eVar 2)) (sFld "other" (fun c => List.contains [11] c) (eVar 0) (eVar 3))))
def m_Ordereddd_initdd : FF := fnT 0 (fnS 4 4 b_Ordereddd_initdd)
theorem sc_Ordereddd_initdd : FnScope N_Ordereddd_initdd ["self", "row", "one", "other"] (defScope (tc 14 0)) := ⟨by rfl, by rfl, by rfl, by decide +kernel, by rfl, by decide +kernel, by decide +kernel⟩
set_option maxHeartbeats 4000000 in
theorem bo_Ordereddd_initdd {P : Program} {w : World} {K : PySem.W.Frag} {mg : Str → Option Value} {base : Heap} (F : FX wx K mg) {f : Addr} {fd : FuncData} (D : FunD K dd_Ordereddd_initdd.name dd_Ordereddd_initdd.qual dd_Ordereddd_initdd.params dd_Ordereddd_initdd.body dd_Ordereddd_initdd.scope (dd_Ordereddd_initdd.dvs K) (dd_Ordereddd_initdd.kws K) f fd) : FnOk P w K mg base (L2.CX P w) 1 f fd ["self", "row", "one", "other"] (spF ⟨K, P, w⟩ 4 m_Ordereddd_initdd) :=
  fn_trim (fn_sh (np := 4) (ns := 4) (k := 0) (body := b_Ordereddd_initdd) D sc_Ordereddd_initdd rfl rfl fun cdv A outer s H E hr =>
    (sss_cons (ss_fld (ok := (fun c => List.contains [1, 7, 11, 12] c)) (F.fld 1) (sv 0) (se_callTy cl_tuple rfl (F.free 40) (by decide +kernel) (sa_cons (sv 1) sa_nil)) rfl) (sss_cons (ss_fld (ok := (fun c => List.contains [11] c)) (F.fld 6) (sv 0) (sv 2) rfl) (sss_one (ss_fld (ok := (fun c => List.contains [11] c)) (F.fld 5) (sv 0) (sv 3) rfl)))))
theorem ok_Ordereddd_initdd {P : Program} {w : World} {K : PySem.W.Frag} {mg : Str → Option Value} {base : Heap} (F : FX wx K mg) : FnC P w K mg base 1 (He.fAd K ("Ordered", some "__init__")) 4 m_Ordereddd_initdd := by
  obtain ⟨fd, D⟩ := F.says.def_ 24 (d := dd_Ordereddd_initdd) rfl
  exact ⟨⟨fd, _, bo_Ordereddd_initdd F D, D.bindsN fun _ _ _ _ _ _ us hl => match us, hl with | [_, _, _, _], _ => rfl⟩, D.kp⟩
theorem okK_Ordereddd_initdd {P : Program} {w : World} {K : PySem.W.Frag} {mg : Str → Option Value} {base : Heap} (F : FX wx K mg) : FnKC P w K mg base 1 (He.fAd K ("Ordered", some "__init__")) 4 [] 4 gId m_Ordereddd_initdd := by
  obtain ⟨fd, D⟩ := F.says.def_ 24 (d := dd_Ordereddd_initdd) rfl
  exact ⟨fd, _, bo_Ordereddd_initdd F D, bd_of (D.bindsN fun _ _ _ _ _ _ us hl => match us, hl with | [_, _, _, _], _ => rfl) rfl⟩
abbrev N_Settleddd_initdd : List Str := ["self", "row"]
def b_Settleddd_initdd : SF := (sFld "row" (fun c => List.contains [1, 7, 11, 12] c) (eVar 0) (eB (op1 gTuple) (aCons (eVar 1) aNil)))
def m_Settleddd_initdd : FF := fnT 0 (fnS 2 2 b_Settleddd_initdd)
theorem sc_Settleddd_initdd : FnScope N_Settleddd_initdd ["self", "row"] (defScope (tc 16 0)) := ⟨by rfl, by rfl, by rfl, by decide +kernel, by rfl, by decide +kernel, by decide +kernel⟩
set_option maxHeartbeats 4000000 in
theorem bo_Settleddd_initdd {P : Program} {w : World} {K : PySem.W.Frag} {mg : Str → Option Value} {base : Heap} (F : FX wx K mg) {f : Addr} {fd : FuncData} (D : FunD K dd_Settleddd_initdd.name dd_Settleddd_initdd.qual dd_Settleddd_initdd.params dd_Settleddd_initdd.body dd_Settleddd_initdd.scope (dd_Settleddd_initdd.dvs K) (dd_Settleddd_initdd.kws K) f fd) : FnOk P w K mg base (L2.CX P w) 1 f fd ["self", "row"] (spF ⟨K, P, w⟩ 2 m_Settleddd_initdd) :=
  fn_trim (fn_sh (np := 2) (ns := 2) (k := 0) (body := b_Settleddd_initdd) D sc_Settleddd_initdd rfl rfl fun cdv A outer s H E hr =>
    (sss_one (ss_fld (ok := (fun c => List.contains [1, 7, 11, 12] c)) (F.fld 1) (sv 0) (se_callTy cl_tuple rfl (F.free 40) (by decide +kernel) (sa_cons (sv 1) sa_nil)) rfl)))
theorem ok_Settleddd_initdd {P : Program} {w : World} {K : PySem.W.Frag} {mg : Str → Option Value} {base : Heap} (F : FX wx K mg) : FnC P w K mg base 1 (He.fAd K ("Settled", some "__init__")) 2 m_Settleddd_initdd := by
  obtain ⟨fd, D⟩ := F.says.def_ 25 (d := dd_Settleddd_initdd) rfl
  exact ⟨⟨fd, _, bo_Settleddd_initdd F D, D.bindsN fun _ _ _ _ _ _ us hl => match us, hl with | [_, _], _ => rfl⟩, D.kp⟩
theorem okK_Settleddd_initdd {P : Program} {w : World} {K : PySem.W.Frag} {mg : Str → Option Value} {base : Heap} (F : FX wx K mg) : FnKC P w K mg base 1 (He.fAd K ("Settled", some "__init__")) 2 [] 2 gId m_Settleddd_initdd := by
  obtain ⟨fd, D⟩ := F.says.def_ 25 (d := dd_Settleddd_initdd) rfl
  exact ⟨fd, _, bo_Settleddd_initdd F D, bd_of (D.bindsN fun _ _ _ _ _ _ us hl => match us, hl with | [_, _], _ => rfl) rfl⟩
abbrev N_Unsettleddd_initdd : List Str := ["self", "pairs"]
def b_Unsettleddd_initdd : SF := (sFld "pairs" (fun c => List.contains [6, 13] c) (eVar 0) (eB (op1 gListA) (aCons (eVar 1) aNil)))
def m_Unsettleddd_initdd : FF := fnT 0 (fnS 2 2 b_Unsettleddd_initdd)
theorem sc_Unsettleddd_initdd : FnScope N_Unsettleddd_initdd ["self", "pairs"] (defScope (tc 17 0)) := ⟨by rfl, by rfl, by rfl, by decide +kernel, by rfl, by decide +kernel, by decide +kernel⟩
set_option maxHeartbeats 4000000 in
theorem bo_Unsettleddd_initdd {P : Program} {w : World} {K : PySem.W.Frag} {mg : Str → Option Value} {base : Heap} (F : FX wx K mg) {f : Addr} {fd : FuncData} (D : FunD K dd_Unsettleddd_initdd.name dd_Unsettleddd_initdd.qual dd_Unsettleddd_initdd.params dd_Unsettleddd_initdd.body dd_Unsettleddd_initdd.scope (dd_Unsettleddd_initdd.dvs K) (dd_Unsettleddd_initdd.kws K) f fd) : FnOk P w K mg base (L2.CX P w) 1 f fd ["self", "pairs"] (spF ⟨K, P, w⟩ 2 m_Unsettleddd_initdd) :=
  fn_trim (fn_sh (np := 2) (ns := 2) (k := 0) (body := b_Unsettleddd_initdd) D sc_Unsettleddd_initdd rfl rfl fun cdv A outer s H E hr =>
    (sss_one (ss_fld (ok := (fun c => List.contains [6, 13] c)) (F.fld 10) (sv 0) (se_callTy (cl_listA rfl) rfl (F.free 38) (by decide +kernel) (sa_cons (sv 1) sa_nil)) rfl)))
theorem ok_Unsettleddd_initdd {P : Program} {w : World} {K : PySem.W.Frag} {mg : Str → Option Value} {base : Heap} (F : FX wx K mg) : FnC P w K mg base 1 (He.fAd K ("Unsettled", some "__init__")) 2 m_Unsettleddd_initdd := by
  obtain ⟨fd, D⟩ := F.says.def_ 26 (d := dd_Unsettleddd_initdd) rfl
  exact ⟨⟨fd, _, bo_Unsettleddd_initdd F D, D.bindsN fun _ _ _ _ _ _ us hl => match us, hl with | [_, _], _ => rfl⟩, D.kp⟩
theorem okK_Unsettleddd_initdd {P : Program} {w : World} {K : PySem.W.Frag} {mg : Str → Option Value} {base : Heap} (F : FX wx K mg) : FnKC P w K mg base 1 (He.fAd K ("Unsettled", some "__init__")) 2 [] 2 gId m_Unsettleddd_initdd := by
  obtain ⟨fd, D⟩ := F.says.def_ 26 (d := dd_Unsettleddd_initdd) rfl
  exact ⟨fd, _, bo_Unsettleddd_initdd F D, bd_of (D.bindsN fun _ _ _ _ _ _ us hl => match us, hl with | [_, _], _ => rfl) rfl⟩
abbrev N_Boundeddd_initdd : List Str := ["self", "number", "row", "heights"]
def b_Boundeddd_initdd : SF := (sSeq (sFld "number" (fun c => List.contains [1] c) (eVar 0) (eVar 1)) (sSeq (sFld "row" (fun c => List.contains [1, 7, 11, 12] c) (eVar 0) (eB (op1 gTuple) (aCons (eVar 2) aNil))) (sFld "heights" (fun c => List.contains [1, 3, 4] c) (eVar 0) (eB (op1 gDictA) (aCons (eVar 3) aNil)))))
def m_Boundeddd_initdd : FF := fnT 0 (fnS 4 4 b_Boundeddd_initdd)
theorem sc_Boundeddd_initdd : FnScope N_Boundeddd_initdd ["self", "number", "row", "heights"] (defScope (tc 2 0)) := ⟨by rfl, by rfl, by rfl, by decide +kernel, by rfl, by decide +kernel, by decide +kernel⟩
set_option maxHeartbeats 4000000 in
theorem bo_Boundeddd_initdd {P : Program} {w : World} {K : PySem.W.Frag} {mg : Str → Option Value} {base : Heap} (F : FX wx K mg) {f : Addr} {fd : FuncData} (D : FunD K dd_Boundeddd_initdd.name dd_Boundeddd_initdd.qual dd_Boundeddd_initdd.params dd_Boundeddd_initdd.body dd_Boundeddd_initdd.scope (dd_Boundeddd_initdd.dvs K) (dd_Boundeddd_initdd.kws K) f fd) : FnOk P w K mg base (L2.CX P w) 1 f fd ["self", "number", "row", "heights"] (spF ⟨K, P, w⟩ 4 m_Boundeddd_initdd) :=
  fn_trim (fn_sh (np := 4) (ns := 4) (k := 0) (body := b_Boundeddd_initdd) D sc_Boundeddd_initdd rfl rfl fun cdv A outer s H E hr =>
    (sss_cons (ss_fld (ok := (fun c => List.contains [1] c)) (F.fld 2) (sv 0) (sv 1) rfl) (sss_cons (ss_fld (ok := (fun c => List.contains [1, 7, 11, 12] c)) (F.fld 1) (sv 0) (se_callTy cl_tuple rfl (F.free 40) (by decide +kernel) (sa_cons (sv 2) sa_nil)) rfl) (sss_one (ss_fld (ok := (fun c => List.contains [1, 3, 4] c)) (F.fld 0) (sv 0) (se_callTy (cl_dictA rfl (room_v hr)) rfl (F.free 33) (by decide +kernel) (sa_cons (sv 3) sa_nil)) rfl)))))
theorem ok_Boundeddd_initdd {P : Program} {w : World} {K : PySem.W.Frag} {mg : Str → Option Value} {base : Heap} (F : FX wx K mg) : FnC P w K mg base 1 (He.fAd K ("Bounded", some "__init__")) 4 m_Boundeddd_initdd := by
  obtain ⟨fd, D⟩ := F.says.def_ 27 (d := dd_Boundeddd_initdd) rfl
  exact ⟨⟨fd, _, bo_Boundeddd_initdd F D, D.bindsN fun _ _ _ _ _ _ us hl => match us, hl with | [_, _, _, _], _ => rfl⟩, D.kp⟩
theorem okK_Boundeddd_initdd {P : Program} {w : World} {K : PySem.W.Frag} {mg : Str → Option Value} {base : Heap} (F : FX wx K mg) : FnKC P w K mg base 1 (He.fAd K ("Bounded", some "__init__")) 4 [] 4 gId m_Boundeddd_initdd := by
  obtain ⟨fd, D⟩ := F.says.def_ 27 (d := dd_Boundeddd_initdd) rfl
  exact ⟨fd, _, bo_Boundeddd_initdd F D, bd_of (D.bindsN fun _ _ _ _ _ _ us hl => match us, hl with | [_, _, _, _], _ => rfl) rfl⟩
abbrev N_Endlessdd_initdd : List Str := ["self", "ahead", "ring"]
def b_Endlessdd_initdd : SF := (sSeq (sFld "ahead" (fun c => List.contains [2, 3] c) (eVar 0) (eB (op1 gTuple) (aCons (eVar 1) aNil))) (sFld "ring" (fun c => List.contains [2, 3] c) (eVar 0) (eB (op1 gTuple) (aCons (eVar 2) aNil))))
def m_Endlessdd_initdd : FF := fnT 0 (fnS 3 3 b_Endlessdd_initdd)
theorem sc_Endlessdd_initdd : FnScope N_Endlessdd_initdd ["self", "ahead", "ring"] (defScope (tc 3 0)) := ⟨by rfl, by rfl, by rfl, by decide +kernel, by rfl, by decide +kernel, by decide +kernel⟩
set_option maxHeartbeats 4000000 in
theorem bo_Endlessdd_initdd {P : Program} {w : World} {K : PySem.W.Frag} {mg : Str → Option Value} {base : Heap} (F : FX wx K mg) {f : Addr} {fd : FuncData} (D : FunD K dd_Endlessdd_initdd.name dd_Endlessdd_initdd.qual dd_Endlessdd_initdd.params dd_Endlessdd_initdd.body dd_Endlessdd_initdd.scope (dd_Endlessdd_initdd.dvs K) (dd_Endlessdd_initdd.kws K) f fd) : FnOk P w K mg base (L2.CX P w) 1 f fd ["self", "ahead", "ring"] (spF ⟨K, P, w⟩ 3 m_Endlessdd_initdd) :=
  fn_trim (fn_sh (np := 3) (ns := 3) (k := 0) (body := b_Endlessdd_initdd) D sc_Endlessdd_initdd rfl rfl fun cdv A outer s H E hr =>
    (sss_cons (ss_fld (ok := (fun c => List.contains [2, 3] c)) (F.fld 8) (sv 0) (se_callTy cl_tuple rfl (F.free 40) (by decide +kernel) (sa_cons (sv 1) sa_nil)) rfl) (sss_one (ss_fld (ok := (fun c => List.contains [2, 3] c)) (F.fld 7) (sv 0) (se_callTy cl_tuple rfl (F.free 40) (by decide +kernel) (sa_cons (sv 2) sa_nil)) rfl))))
theorem ok_Endlessdd_initdd {P : Program} {w : World} {K : PySem.W.Frag} {mg : Str → Option Value} {base : Heap} (F : FX wx K mg) : FnC P w K mg base 1 (He.fAd K ("Endless", some "__init__")) 3 m_Endlessdd_initdd := by
  obtain ⟨fd, D⟩ := F.says.def_ 28 (d := dd_Endlessdd_initdd) rfl
  exact ⟨⟨fd, _, bo_Endlessdd_initdd F D, D.bindsN fun _ _ _ _ _ _ us hl => match us, hl with | [_, _, _], _ => rfl⟩, D.kp⟩
theorem okK_Endlessdd_initdd {P : Program} {w : World} {K : PySem.W.Frag} {mg : Str → Option Value} {base : Heap} (F : FX wx K mg) : FnKC P w K mg base 1 (He.fAd K ("Endless", some "__init__")) 3 [] 3 gId m_Endlessdd_initdd := by
  obtain ⟨fd, D⟩ := F.says.def_ 28 (d := dd_Endlessdd_initdd) rfl
  exact ⟨fd, _, bo_Endlessdd_initdd F D, bd_of (D.bindsN fun _ _ _ _ _ _ us hl => match us, hl with | [_, _, _], _ => rfl) rfl⟩
abbrev N__law_make_two : List Str := ["_law_at", "_law_parts_here"]
def b__law_make_two : SF := (sSeq (sIf (tVal (eBin (oEqO CS dp_eq) (eVar 0) (eC (.int 6)))) (sRet (eMake 11 3 0 4 gId m_Ordereddd_initdd (aCons (eBin oIx (eVar 1) (eC (.int 0))) (aCons (eBin oIx (eVar 1) (eC (.int 1))) (aCons (eBin oIx (eVar 1) (eC (.int 2))) aNil))) aNil)) sSkip) (sSeq (sIf (tVal (eBin (oEqO CS dp_eq) (eVar 0) (eC (.int 7)))) (sRet (eMake 12 1 0 2 gId m_Settleddd_initdd (aCons (eBin oIx (eVar 1) (eC (.int 0))) aNil) aNil)) sSkip) (sSeq (sIf (tVal (eBin (oEqO CS dp_eq) (eVar 0) (eC (.int 8)))) (sRet (eMake 13 1 0 2 gId m_Unsettleddd_initdd (aCons (eBin oIx (eVar 1) (eC (.int 0))) aNil) aNil)) sSkip) (sSeq (sIf (tVal (eBin (oEqO CS dp_eq) (eVar 0) (eC (.int 9)))) (sRet (eMake 1 3 0 4 gId m_Boundeddd_initdd (aCons (eBin oIx (eVar 1) (eC (.int 0))) (aCons (eBin oIx (eVar 1) (eC (.int 1))) (aCons (eBin oIx (eVar 1) (eC (.int 2))) aNil))) aNil)) sSkip) (sRet (eMake 2 2 0 3 gId m_Endlessdd_initdd (aCons (eBin oIx (eVar 1) (eC (.int 0))) (aCons (eBin oIx (eVar 1) (eC (.int 1))) aNil)) aNil))))))
def m__law_make_two : FF := fnT 0 (fnS 2 2 b__law_make_two)
theorem sc__law_make_two : FnScope N__law_make_two ["_law_at", "_law_parts_here"] (defScope (tp 20)) := ⟨by rfl, by rfl, by rfl, by decide +kernel, by rfl, by decide +kernel, by decide +kernel⟩
set_option maxHeartbeats 4000000 in
theorem bo__law_make_two {P : Program} {w : World} {K : PySem.W.Frag} {mg : Str → Option Value} {base : Heap} (F : FX wx K mg) {f : Addr} {fd : FuncData} (D : FunD K dd__law_make_two.name dd__law_make_two.qual dd__law_make_two.params dd__law_make_two.body dd__law_make_two.scope (dd__law_make_two.dvs K) (dd__law_make_two.kws K) f fd) : FnOk P w K mg base (L2.CX P w) 3 f fd ["_law_at", "_law_parts_here"] (spF ⟨K, P, w⟩ 2 m__law_make_two) :=
  fn_trim (fn_sh (np := 2) (ns := 2) (k := 2) (body := b__law_make_two) D sc__law_make_two rfl rfl fun cdv A outer s H E hr =>
    (sss_cons (ss_if (st_cmp (so_eqO (notf F) (hd_eq F) (hr.mono (by decide))) (sv 0) se_int rfl) (sss_one (ss_ret (se_make (n := 3) (c := 11) (F.mkr 45) (okK_Ordereddd_initdd F) (hr.mono (by decide)) rfl (F.glo 19) tkF (sa_cons (se_ix (ix_all (room_v hr)) (sv 1) se_int (fun _ _ => rfl)) (sa_cons (se_ix (ix_all (room_v hr)) (sv 1) se_int (fun _ _ => rfl)) (sa_cons (se_ix (ix_all (room_v hr)) (sv 1) se_int (fun _ _ => rfl)) sa_nil)))))) sss_nil) (sss_cons (ss_if (st_cmp (so_eqO (notf F) (hd_eq F) (hr.mono (by decide))) (sv 0) se_int rfl) (sss_one (ss_ret (se_make (n := 1) (c := 12) (F.mkr 46) (okK_Settleddd_initdd F) (hr.mono (by decide)) rfl (F.glo 20) tkF (sa_cons (se_ix (ix_all (room_v hr)) (sv 1) se_int (fun _ _ => rfl)) sa_nil)))) sss_nil) (sss_cons (ss_if (st_cmp (so_eqO (notf F) (hd_eq F) (hr.mono (by decide))) (sv 0) se_int rfl) (sss_one (ss_ret (se_make (n := 1) (c := 13) (F.mkr 47) (okK_Unsettleddd_initdd F) (hr.mono (by decide)) rfl (F.glo 21) tkF (sa_cons (se_ix (ix_all (room_v hr)) (sv 1) se_int (fun _ _ => rfl)) sa_nil)))) sss_nil) (sss_cons (ss_if (st_cmp (so_eqO (notf F) (hd_eq F) (hr.mono (by decide))) (sv 0) se_int rfl) (sss_one (ss_ret (se_make (n := 3) (c := 1) (F.mkr 48) (okK_Boundeddd_initdd F) (hr.mono (by decide)) rfl (F.glo 3) tkF (sa_cons (se_ix (ix_all (room_v hr)) (sv 1) se_int (fun _ _ => rfl)) (sa_cons (se_ix (ix_all (room_v hr)) (sv 1) se_int (fun _ _ => rfl)) (sa_cons (se_ix (ix_all (room_v hr)) (sv 1) se_int (fun _ _ => rfl)) sa_nil)))))) sss_nil) (sss_one (ss_ret (se_make (n := 2) (c := 2) (F.mkr 49) (okK_Endlessdd_initdd F) (hr.mono (by decide)) rfl (F.glo 10) tkF (sa_cons (se_ix (ix_all (room_v hr)) (sv 1) se_int (fun _ _ => rfl)) (sa_cons (se_ix (ix_all (room_v hr)) (sv 1) se_int (fun _ _ => rfl)) sa_nil))))))))))
theorem ok__law_make_two {P : Program} {w : World} {K : PySem.W.Frag} {mg : Str → Option Value} {base : Heap} (F : FX wx K mg) : FnC P w K mg base 3 (He.fAd K ("_law_make_two", none)) 2 m__law_make_two := by
  obtain ⟨fd, D⟩ := F.says.def_ 29 (d := dd__law_make_two) rfl
  exact ⟨⟨fd, _, bo__law_make_two F D, D.bindsN fun _ _ _ _ _ _ us hl => match us, hl with | [_, _], _ => rfl⟩, D.kp⟩
abbrev N__law_make : List Str := ["_law_at", "_law_parts_here"]
def b__law_make : SF := (sSeq (sIf (tVal (eBin (oEqO CS dp_eq) (eVar 0) (eC (.int 0)))) (sRet (eMake 6 1 0 2 gId m_Alikedd_initdd (aCons (eBin oIx (eVar 1) (eC (.int 0))) aNil) aNil)) sSkip) (sSeq (sIf (tVal (eBin (oEqO CS dp_eq) (eVar 0) (eC (.int 1)))) (sRet (eMake 7 1 0 2 gId m_Parteddd_initdd (aCons (eBin oIx (eVar 1) (eC (.int 0))) aNil) aNil)) sSkip) (sSeq (sIf (tVal (eBin (oEqO CS dp_eq) (eVar 0) (eC (.int 2)))) (sRet (eMake 4 3 0 4 gId m_Cheapestdd_initdd (aCons (eBin oIx (eVar 1) (eC (.int 0))) (aCons (eBin oIx (eVar 1) (eC (.int 1))) (aCons (eBin oIx (eVar 1) (eC (.int 2))) aNil))) aNil)) sSkip) (sSeq (sIf (tVal (eBin (oEqO CS dp_eq) (eVar 0) (eC (.int 3)))) (sRet (eMake 5 1 0 2 gId m_NoChoicedd_initdd (aCons (eBin oIx (eVar 1) (eC (.int 0))) aNil) aNil)) sSkip) (sSeq (sIf (tVal (eBin (oEqO CS dp_eq) (eVar 0) (eC (.int 4)))) (sRet (eMake 3 4 0 5 gId m_Driftdd_initdd (aCons (eBin oIx (eVar 1) (eC (.int 0))) (aCons (eBin oIx (eVar 1) (eC (.int 1))) (aCons (eBin oIx (eVar 1) (eC (.int 2))) (aCons (eBin oIx (eVar 1) (eC (.int 3))) aNil)))) aNil)) sSkip) (sSeq (sIf (tVal (eBin (oEqO CS dp_eq) (eVar 0) (eC (.int 5)))) (sRet (eMake 10 1 0 2 gId m_Orderlessdd_initdd (aCons (eBin oIx (eVar 1) (eC (.int 0))) aNil) aNil)) sSkip) (sRet (eCall 2 m__law_make_two (aCons (eVar 0) (aCons (eVar 1) aNil))))))))))
def m__law_make : FF := fnT 0 (fnS 2 2 b__law_make)
theorem sc__law_make : FnScope N__law_make ["_law_at", "_law_parts_here"] (defScope (tp 19)) := ⟨by rfl, by rfl, by rfl, by decide +kernel, by rfl, by decide +kernel, by decide +kernel⟩
set_option maxHeartbeats 4000000 in
theorem bo__law_make {P : Program} {w : World} {K : PySem.W.Frag} {mg : Str → Option Value} {base : Heap} (F : FX wx K mg) {f : Addr} {fd : FuncData} (D : FunD K dd__law_make.name dd__law_make.qual dd__law_make.params dd__law_make.body dd__law_make.scope (dd__law_make.dvs K) (dd__law_make.kws K) f fd) : FnOk P w K mg base (L2.CX P w) 4 f fd ["_law_at", "_law_parts_here"] (spF ⟨K, P, w⟩ 2 m__law_make) :=
  fn_trim (fn_sh (np := 2) (ns := 2) (k := 3) (body := b__law_make) D sc__law_make rfl rfl fun cdv A outer s H E hr =>
    (sss_cons (ss_if (st_cmp (so_eqO (notf F) (hd_eq F) (hr.mono (by decide))) (sv 0) se_int rfl) (sss_one (ss_ret (se_make (n := 1) (c := 6) (F.mkr 37) (okK_Alikedd_initdd F) (hr.mono (by decide)) rfl (F.glo 14) tkF (sa_cons (se_ix (ix_all (room_v hr)) (sv 1) se_int (fun _ _ => rfl)) sa_nil)))) sss_nil) (sss_cons (ss_if (st_cmp (so_eqO (notf F) (hd_eq F) (hr.mono (by decide))) (sv 0) se_int rfl) (sss_one (ss_ret (se_make (n := 1) (c := 7) (F.mkr 39) (okK_Parteddd_initdd F) (hr.mono (by decide)) rfl (F.glo 15) tkF (sa_cons (se_ix (ix_all (room_v hr)) (sv 1) se_int (fun _ _ => rfl)) sa_nil)))) sss_nil) (sss_cons (ss_if (st_cmp (so_eqO (notf F) (hd_eq F) (hr.mono (by decide))) (sv 0) se_int rfl) (sss_one (ss_ret (se_make (n := 3) (c := 4) (F.mkr 41) (okK_Cheapestdd_initdd F) (hr.mono (by decide)) rfl (F.glo 16) tkF (sa_cons (se_ix (ix_all (room_v hr)) (sv 1) se_int (fun _ _ => rfl)) (sa_cons (se_ix (ix_all (room_v hr)) (sv 1) se_int (fun _ _ => rfl)) (sa_cons (se_ix (ix_all (room_v hr)) (sv 1) se_int (fun _ _ => rfl)) sa_nil)))))) sss_nil) (sss_cons (ss_if (st_cmp (so_eqO (notf F) (hd_eq F) (hr.mono (by decide))) (sv 0) se_int rfl) (sss_one (ss_ret (se_make (n := 1) (c := 5) (F.mkr 42) (okK_NoChoicedd_initdd F) (hr.mono (by decide)) rfl (F.glo 17) tkF (sa_cons (se_ix (ix_all (room_v hr)) (sv 1) se_int (fun _ _ => rfl)) sa_nil)))) sss_nil) (sss_cons (ss_if (st_cmp (so_eqO (notf F) (hd_eq F) (hr.mono (by decide))) (sv 0) se_int rfl) (sss_one (ss_ret (se_make (n := 4) (c := 3) (F.mkr 43) (okK_Driftdd_initdd F) (hr.mono (by decide)) rfl (F.glo 11) tkF (sa_cons (se_ix (ix_all (room_v hr)) (sv 1) se_int (fun _ _ => rfl)) (sa_cons (se_ix (ix_all (room_v hr)) (sv 1) se_int (fun _ _ => rfl)) (sa_cons (se_ix (ix_all (room_v hr)) (sv 1) se_int (fun _ _ => rfl)) (sa_cons (se_ix (ix_all (room_v hr)) (sv 1) se_int (fun _ _ => rfl)) sa_nil))))))) sss_nil) (sss_cons (ss_if (st_cmp (so_eqO (notf F) (hd_eq F) (hr.mono (by decide))) (sv 0) se_int rfl) (sss_one (ss_ret (se_make (n := 1) (c := 10) (F.mkr 44) (okK_Orderlessdd_initdd F) (hr.mono (by decide)) rfl (F.glo 18) tkF (sa_cons (se_ix (ix_all (room_v hr)) (sv 1) se_int (fun _ _ => rfl)) sa_nil)))) sss_nil) (sss_one (ss_ret (sC (ok__law_make_two F) hr (F.glo 50) tkF (sa_cons (sv 0) (sa_cons (sv 1) sa_nil))))))))))))
theorem ok__law_make {P : Program} {w : World} {K : PySem.W.Frag} {mg : Str → Option Value} {base : Heap} (F : FX wx K mg) : FnC P w K mg base 4 (He.fAd K ("_law_make", none)) 2 m__law_make := by
  obtain ⟨fd, D⟩ := F.says.def_ 30 (d := dd__law_make) rfl
  exact ⟨⟨fd, _, bo__law_make F D, D.bindsN fun _ _ _ _ _ _ us hl => match us, hl with | [_, _], _ => rfl⟩, D.kp⟩
def hb_law_0 : SF := (sGc 1 (sSeq (sSet 2 (eCall 1 m__law_fresh (aCons (eVar 1) aNil))) (sSeq (sSet 3 (eCall 2 m__law_make (aCons (eVar 1) (aCons (eVar 2) aNil)))) (sSeq (sFor (iAny (eVar 2)) (gNm 4) (sIf (tVal (eIsi CS [.ty "dict", .ty "list"] (eVar 4))) (sExpr (eClr (eVar 4))) sSkip)) (sSeq (sGc 4 (sIf (tVal (eBin (oNeO CS dp_eq) (eVar 3) (eCall 2 m__law_make (aCons (eVar 1) (aCons (eCall 1 m__law_fresh (aCons (eVar 1) aNil)) aNil))))) (sRet (eC (.bl false))) sSkip)) (sSeq (sGc 4 (sFor (iRng1 (eLen dp_len (eVar 2))) (gNm 5) (sSeq (sSet 6 (eCall 1 m__law_fresh (aCons (eVar 1) aNil))) (sSeq (sStore oSet (eBin oIx (eBin oIx (eCall 1 m__law_parts (aCons (eVar 1) aNil)) (eVar 5)) (eC (.int 1))) (eVar 6) (eVar 5)) (sIf (tVal (eBin (oEqO CS dp_eq) (eVar 3) (eCall 2 m__law_make (aCons (eVar 1) (aCons (eVar 6) aNil))))) (sRet (eC (.bl false))) sSkip))))) (sGc 4 (sIf (tVal (eBin (oNeO CS dp_eq) (eMt "list" oCount (eLc (iRng1 (eC (.int 11))) true [7] [7] tYesD (eBin (oEqO CS dp_eq) (eVar 3) (eCall 2 m__law_make (aCons (eVar 7) (aCons (eCall 1 m__law_fresh (aCons (eVar 7) aNil)) aNil))))) (aCons (eC (.bl true)) aNil)) (eC (.int 1)))) (sRet (eC (.bl false))) sSkip))))))))
def h_law_0 : SF := (sFor (iRng1 (eC (.int 11))) (gNm 1) hb_law_0)
abbrev N_law : List Str := ["_law_script", "_law_at", "_law_parts_here", "_law_mine", "_law_part", "_law_spot", "_law_late", "_law_by"]
def b_law : SF := (sSeq (sHide 0 h_law_0) (sRet (eIsi CS [.ty "list"] (eVar 0))))
def m_law : FF := (fnS 1 8 b_law)
theorem sc_law : FnScope N_law ["_law_script"] (defScope (tp 24)) := ⟨by rfl, by rfl, by rfl, by decide +kernel, by rfl, by decide +kernel, by decide +kernel⟩
set_option maxHeartbeats 4000000 in
theorem bo_law {P : Program} {w : World} {K : PySem.W.Frag} {mg : Str → Option Value} {base : Heap} (F : FX wx K mg) {f : Addr} {fd : FuncData} (D : FunD K dd_law.name dd_law.qual dd_law.params dd_law.body dd_law.scope (dd_law.dvs K) (dd_law.kws K) f fd) : FnOk P w K mg base (L2.CX P w) 6 f fd ["_law_script"] (spF ⟨K, P, w⟩ 1 m_law) :=
  (fn_sh (np := 1) (ns := 8) (k := 5) (body := b_law) D sc_law rfl rfl fun cdv A outer s H E hr =>
    (sss_cons (ss_hide (f := h_law_0) 0 (ss_for (fb := hb_law_0) ownF rfl (si_rng1 rfl (F.free 1) se_int) (gnm 1 sc_law.nd) (sss_gc 1 (sss_cons (sset 2 sc_law.nd (sC (ok__law_fresh F) hr (F.glo 36) tkF (sa_cons (sv 1) sa_nil))) (sss_cons (sset 3 sc_law.nd (sC (ok__law_make F) hr (F.glo 51) tkF (sa_cons (sv 1) (sa_cons (sv 2) sa_nil)))) (sss_cons (ss_for ownF rfl (si_any (sv 2)) (gnm 4 sc_law.nd) (sss_one (ss_if (st_val (se_isiT (cs := CS) (ts := [.ty "dict", .ty "list"]) F.isi rfl (F.free 2) (sv 4) (by decide) (pa_cons (pe_bltn rfl (F.free 33) (by decide +kernel) rfl) (pa_cons (pe_bltn rfl (F.free 38) (by decide +kernel) rfl) pa_nil)) (pe_tup (pa_cons (pe_bltn rfl (F.free 33) (by decide +kernel) rfl) (pa_cons (pe_bltn rfl (F.free 38) (by decide +kernel) rfl) pa_nil))))) (sss_one (ss_expr (se_clr (sv 4)))) sss_nil))) (sss_cons (ss_gc 4 (ss_if (st_cmp (so_neO (notf F) (neal F) (hd_eq F) (hr.mono (by decide))) (sv 3) (sC (ok__law_make F) hr (F.glo 51) tkF (sa_cons (sv 1) (sa_cons (sC (ok__law_fresh F) hr (F.glo 36) tkF (sa_cons (sv 1) sa_nil)) sa_nil))) rfl) (sss_one (ss_ret se_bl)) sss_nil)) (sss_cons (ss_gc 4 (ss_for ownF rfl (si_rng1 rfl (F.free 1) (se_len (hd_len F) (hr.mono (by decide)) rfl (F.free 52) (sv 2))) (gnm 5 sc_law.nd) (sss_cons (sset 6 sc_law.nd (sC (ok__law_fresh F) hr (F.glo 36) tkF (sa_cons (sv 1) sa_nil))) (sss_cons (ss_store (sv 6) (sv 5) (set_all (room_v hr)) (se_ix (ix_all (room_v hr)) (se_ix (ix_all (room_v hr)) (sC (ok__law_parts F) hr (F.glo 35) tkF (sa_cons (sv 1) sa_nil)) (sv 5) (fun _ _ => rfl)) se_int (fun _ _ => rfl)) rfl) (sss_one (ss_if (st_cmp (so_eqO (notf F) (hd_eq F) (hr.mono (by decide))) (sv 3) (sC (ok__law_make F) hr (F.glo 51) tkF (sa_cons (sv 1) (sa_cons (sv 6) sa_nil))) rfl) (sss_one (ss_ret se_bl)) sss_nil)))))) (sss_one (ss_gc 4 (ss_if (st_cmp (so_neO (notf F) (neal F) (hd_eq F) (hr.mono (by decide))) (se_mt PySem.F.plainAttrs_list PySem.F.slot_list_count PySem.F.type_list_count mt_cnt (se_lcP (own := [("_law_by", 7)]) (one := true) (is := [7]) (t := (gName 7)) rfl sc_law.nd (si_rng1 rfl (F.free 1) se_int) (blkOk_by (own := [("_law_by", 7)]) (by rfl)) (by decide) (fun _ _ _ _ _ => ⟨(pg_name (i := 7) sc_law.nd rfl (Or.inl rfl)), sts_nil, (se_cmp (so_eqO (notf F) (hd_eq F) (hr.mono (by decide))) (sv 3) (sC (ok__law_make F) hr (F.glo 51) tk0 (sa_cons (sv 7) (sa_cons (sC (ok__law_fresh F) hr (F.glo 36) tk0 (sa_cons (sv 7) sa_nil)) sa_nil))) rfl)⟩) (fun e r h => rd_one (i := 7) e r h)) (sa_cons se_bl sa_nil)) se_int rfl) (sss_one (ss_ret se_bl)) sss_nil))))))))))) (sss_one (ss_ret (isT (cs := CS) "list" F.isi (F.free 2) (F.free 38) (sv 0))))))
theorem ok_law {P : Program} {w : World} {K : PySem.W.Frag} {mg : Str → Option Value} {base : Heap} (F : FX wx K mg) : FnC P w K mg base 6 (He.fAd K ("law", none)) 1 m_law := by
  obtain ⟨fd, D⟩ := F.says.def_ 31 (d := dd_law) rfl
  exact ⟨⟨fd, _, bo_law F D, D.bindsN fun _ _ _ _ _ _ us hl => match us, hl with | [_], _ => rfl⟩, D.kp⟩
end K41

namespace Sh
/-- the statement went on; all names but the first are forgotten, nothing new is kept -/
def okNx (k : Nat) : Res Fl → Bool
  | .ok (.nx (some (.ref 0) :: e)) [.dead] => decide (e = List.replicate k none)
  | _ => false
theorem okNx_ex {k : Nat} {r : Res Fl} (h : okNx k r = true) : r = .ok (.nx (some (.ref 0) :: List.replicate k none)) [.dead] := by
  unfold okNx at h
  split at h
  · rw [of_decide_eq_true h]
  · cases h
theorem forGo_same {body : SF} {env : Env} {M : Store} {j : Nat} : ∀ {items : List D}, (∀ d ∈ items, body (env.set j (some d)) M = .ok (.nx env) M) → forGo (fun _ => true) (gNm j) body items env M = .ok (.nx env) M
  | [], _ => rfl
  | d :: l, h => by
    simp only [forGo, if_true, gNm, h d List.mem_cons_self]
    exact forGo_same fun e m => h e (List.mem_cons_of_mem _ m)
end Sh
namespace K41
open PySem L2 Sh
abbrev env0 : Sh.Env := [some (.ref 0), none, none, none, none, none, none, none]
theorem e0 : okNx 7 (hb_law_0 [some (.ref 0), some (.int 0), none, none, none, none, none, none] [.dead]) = true := by decide +kernel
theorem e1 : okNx 7 (hb_law_0 [some (.ref 0), some (.int 1), none, none, none, none, none, none] [.dead]) = true := by decide +kernel
theorem e2 : okNx 7 (hb_law_0 [some (.ref 0), some (.int 2), none, none, none, none, none, none] [.dead]) = true := by decide +kernel
theorem e3 : okNx 7 (hb_law_0 [some (.ref 0), some (.int 3), none, none, none, none, none, none] [.dead]) = true := by decide +kernel
theorem e4 : okNx 7 (hb_law_0 [some (.ref 0), some (.int 4), none, none, none, none, none, none] [.dead]) = true := by decide +kernel
theorem e5 : okNx 7 (hb_law_0 [some (.ref 0), some (.int 5), none, none, none, none, none, none] [.dead]) = true := by decide +kernel
theorem e6 : okNx 7 (hb_law_0 [some (.ref 0), some (.int 6), none, none, none, none, none, none] [.dead]) = true := by decide +kernel
theorem e7 : okNx 7 (hb_law_0 [some (.ref 0), some (.int 7), none, none, none, none, none, none] [.dead]) = true := by decide +kernel
theorem e8 : okNx 7 (hb_law_0 [some (.ref 0), some (.int 8), none, none, none, none, none, none] [.dead]) = true := by decide +kernel
theorem e9 : okNx 7 (hb_law_0 [some (.ref 0), some (.int 9), none, none, none, none, none, none] [.dead]) = true := by decide +kernel
theorem e10 : okNx 7 (hb_law_0 [some (.ref 0), some (.int 10), none, none, none, none, none, none] [.dead]) = true := by decide +kernel
theorem all : ∀ d ∈ rngD 0 11, hb_law_0 (env0.set 1 (some d)) [.dead] = .ok (.nx env0) [.dead] := by
  intro d m
  simp only [rngD, List.mem_map, List.mem_range] at m
  obtain ⟨i, hi, rfl⟩ := m
  match i, hi with
  | 0, _ => exact okNx_ex e0
  | 1, _ => exact okNx_ex e1
  | 2, _ => exact okNx_ex e2
  | 3, _ => exact okNx_ex e3
  | 4, _ => exact okNx_ex e4
  | 5, _ => exact okNx_ex e5
  | 6, _ => exact okNx_ex e6
  | 7, _ => exact okNx_ex e7
  | 8, _ => exact okNx_ex e8
  | 9, _ => exact okNx_ex e9
  | 10, _ => exact okNx_ex e10
  | n + 11, h => exact absurd h (by simp)
theorem hl : h_law_0 env0 [.dead] = .ok (.nx env0) [.dead] := by
  simp only [h_law_0, sFor, Sh.iRng1, eC, Res.bind, Res.bindS]
  rw [if_pos (by decide)]
  exact forGo_same all
theorem law_true (ns : List Int) : isTrueR (m_law [.ref 0] [.fz (ns.map D.int)]) = true := by
  have h := hl
  simp only [m_law, fnS, b_law, sSeq, sHide, List.map_cons, List.map_nil, List.cons_append, List.nil_append, List.replicate, Nat.reduceSub, List.getElem?_cons_zero, List.set, h, Res.bindS, sRet, eIsi, eVar, Res.bind, isiD, kdOf]
  rfl
end K41

namespace K41
open PySem PySem.Spec PyProof.Rows Sh
abbrev R : PySem.W.OpenRow := PySem.W.OpenLaw.row PySem.Challenge.rw_roundshares_k41_known_equal
abbrev hk : PySem.W.Hook := hookX 5 wx
def ob (s : PySem.W.SharedT) : He.AlD := obsX 5 wx (HandSHeadRun.getT s)
theorem ob_eq (s : PySem.W.SharedT) : ob s = hk.obs s.abs := obsX_eq (HandSHeadRun.getT_eq s)
def lo : List PySem.Str := (["_wall", "Bounded", "Endless", "Drift", "Alike", "Parted", "Cheapest", "NoChoice", "Orderless", "Ordered", "Settled", "Unsettled", "_law_make", "_law_make_two", "_law_parts", "_law_parts_two", "_law_fresh"] : List PySem.Str)
theorem run (w : World) : HandSHeadRun.RunEq R (PySem.W.view R.prog [24]) hk ob 6000 lo w := by
  intro os
  kernel_rfl
end K41
open PySem PySem.W PySem.Calls PyProof.Rows
theorem PySem.Challenge.cw_roundshares_k41_known_equal_holds : PySem.Challenge.rw_roundshares_k41_known_equal.Holds := by
  w_on; o_law
  refine HandSHeadRun.head_any (r := OpenLaw.row PySem.Challenge.rw_roundshares_k41_known_equal) (q := view (OpenLaw.row PySem.Challenge.rw_roundshares_k41_known_equal).prog [24]) (H := K41.hk) (ob := K41.ob) (M := 6000) (loose := K41.lo) (d := HandSHeadRun.topDef (OpenLaw.row PySem.Challenge.rw_roundshares_k41_known_equal).prog 24) (kwd := []) K41.ob_eq
    (by kernel_rfl) (fun s => by kernel_rfl) K41.run (by kernel_rfl) (by kernel_rfl) (by kernel_rfl) (by rfl) (by first | assumption | decide +kernel) (by decide +kernel) ⟨rfl, rfl, rfl, rfl, rfl, by decide +kernel⟩ ?hw ?hc
  case hw => w_witness2
  case hc =>
    refine Sh.walk_ofW (l := PySem.Challenge.rw_roundshares_k41_known_equal) (n := 63) (k := 6) (x := "_law_script") rfl (by decide) (by kernel_rfl) ⟨rfl, by decide, by decide⟩ ?F
    intro w mg fa h Y G hmg0
    obtain ⟨K, KX, c1, c2⟩ := Y
    have hmg : mg ("law" : PySem.Str) = some (.ref fa) := by
      have e : (HandSHeadRun.topDef (OpenLaw.row PySem.Challenge.rw_roundshares_k41_known_equal).prog 24).name = ("law" : PySem.Str) := by kernel_rfl
      rw [← e]
      exact hmg0
    have FF : Sh.FX K41.wx K mg := Sh.FX.of KX G c1 c2
    have e := hmg.symm.trans (FF.glo 0)
    cases e
    obtain ⟨fd, D⟩ := c2.def_ 31 (d := K41.dd_law) rfl
    have b := L2.FunD.bindsA (ps := ["_law_script"]) D fun _ _ _ _ _ _ us hl => match us, hl with | [_], _ => rfl
    exact ⟨K, fd, Sh.spF ⟨K, _, w⟩ 1 K41.m_law, KX, fun s v => b s [v] rfl, fun H a ns hl hO hS => Sh.law_sp FF.nol hO hS (K41.law_true ns), fun base _ _ => K41.bo_law FF D⟩

