import PyProof.Rows.All
import Wide.All
import OpenK.AllK
import Wide.FinOn
import HandS.ForMost
import HandS.Wide
import HandS.Star
import HandS.Zip
import HandS.SortInts
import HandS.TupAny
import HandS.Deep
import KE.GoesMore
import KE.GoesEnum
import HandS.Gcd
import HandS.Conv
import KE.SortData
import HandS.NoneIn
import HandS.Style
import HandS.TupMul
import KE.DataMinMax
import KE.DataCmp
import PySem.Challenge.RW_wholebest_k17_whole_worths_that_settle
set_option Elab.async false
set_option linter.all false
set_option maxRecDepth 100000
/-! Lay1: typed data over HandS: what slots hold, expressions, statements. -/
namespace Lay
open PySem PySem.Spec PyProof.Rows L2

/-! ### typed data -/
class Enc (α : Type) where
  enc : α → PyData
open Enc (enc)
instance : Enc Int := ⟨PyData.int⟩
instance : Enc Bool := ⟨PyData.bool⟩
instance : Enc Str := ⟨PyData.str⟩
instance : Enc Unit := ⟨fun _ => PyData.none⟩
instance {α : Type} [Enc α] : Enc (List α) := ⟨fun l => PyData.list (l.map enc)⟩
instance {α : Type} [Enc α] : Enc (Option α) := ⟨fun o => match o with | none => PyData.none | some x => enc x⟩
/-- a tuple of any length -/
structure Tup (α : Type) where
  l : List α
  deriving DecidableEq
instance {α : Type} [Enc α] : Enc (Tup α) := ⟨fun t => PyData.tuple (t.l.map enc)⟩
structure T2 (α β : Type) where
  a : α
  b : β
  deriving DecidableEq
structure T3 (α β γ : Type) where
  a : α
  b : β
  c : γ
  deriving DecidableEq
structure T4 (α β γ δ : Type) where
  a : α
  b : β
  c : γ
  d : δ
  deriving DecidableEq
instance {α β : Type} [Enc α] [Enc β] : Enc (T2 α β) := ⟨fun t => PyData.tuple [enc t.a, enc t.b]⟩
instance {α β γ : Type} [Enc α] [Enc β] [Enc γ] : Enc (T3 α β γ) := ⟨fun t => PyData.tuple [enc t.a, enc t.b, enc t.c]⟩
instance {α β γ δ : Type} [Enc α] [Enc β] [Enc γ] [Enc δ] : Enc (T4 α β γ δ) := ⟨fun t => PyData.tuple [enc t.a, enc t.b, enc t.c, enc t.d]⟩

/-! ### the data at a value: lists and tuples that are tracked (or known) -/
mutual
inductive Dq (H : Hp) : V → PyData → Prop
  | non : Dq H .non .none
  | bl (b : Bool) : Dq H (.bl b) (.bool b)
  | int (i : Int) : Dq H (.int i) (.int i)
  | str (x : Str) : Dq H (.str x) (.str x)
  | lst {a : Addr} {xs : List V} {ds : List PyData} : Rd H a (.lst xs) → DqAll H xs ds → Dq H (.ref a) (.list ds)
  | tup {a : Addr} {xs : List V} {ds : List PyData} : Rd H a (.tup xs) → DqAll H xs ds → Dq H (.ref a) (.tuple ds)
inductive DqAll (H : Hp) : List V → List PyData → Prop
  | nil : DqAll H [] []
  | cons {v : V} {vs : List V} {d : PyData} {ds : List PyData} : Dq H v d → DqAll H vs ds → DqAll H (v :: vs) (d :: ds)
end
theorem rd_mono {H H' : Hp} {a : Addr} {u : HO} (e : Same H H') (h : Rd H a u) : Rd H' a u := h.imp (e _ _) fun ⟨o, q⟩ => ⟨o, e _ _ q⟩
mutual
theorem Dq_mono {H H' : Hp} (e : Same H H') : ∀ (d : PyData) (v : V), Dq H v d → Dq H' v d
  | .none, _, h => by cases h; exact .non
  | .bool b, _, h => by cases h; exact .bl _
  | .int i, _, h => by cases h; exact .int _
  | .str x, _, h => by cases h; exact .str _
  | .list ds, _, h => by cases h with | lst h1 h2 => exact .lst (rd_mono e h1) (DqAll_mono e _ _ h2)
  | .tuple ds, _, h => by cases h with | tup h1 h2 => exact .tup (rd_mono e h1) (DqAll_mono e _ _ h2)
  | .dict _, _, h => by cases h
theorem DqAll_mono {H H' : Hp} (e : Same H H') : ∀ (ds : List PyData) (vs : List V), DqAll H vs ds → DqAll H' vs ds
  | [], _, h => by cases h; exact .nil
  | d :: ds, _, h => by cases h with | cons h1 h2 => exact .cons (Dq_mono e _ _ h1) (DqAll_mono e _ _ h2)
end
mutual
theorem Dq_dp {K : PySem.W.Frag} {H : Hp} : ∀ (d : PyData) (v : V), Dq H v d → Dp K H v d
  | .none, _, h => by cases h; exact .non
  | .bool b, _, h => by cases h; exact .bl _
  | .int i, _, h => by cases h; exact .int _
  | .str x, _, h => by cases h; exact .str _
  | .list ds, _, h => by cases h with | lst h1 h2 => exact .lst (.inl h1) (DqAll_dp _ _ h2)
  | .tuple ds, _, h => by cases h with | tup h1 h2 => exact .tup (.inl h1) (DqAll_dp _ _ h2)
  | .dict _, _, h => by cases h
theorem DqAll_dp {K : PySem.W.Frag} {H : Hp} : ∀ (ds : List PyData) (vs : List V), DqAll H vs ds → DpAll K H vs ds
  | [], _, h => by cases h; exact .nil
  | d :: ds, _, h => by cases h with | cons h1 h2 => exact .cons (Dq_dp _ _ h1) (DqAll_dp _ _ h2)
end
section
variable {H H' : Hp}
theorem DqAll.len : ∀ {vs : List V} {ds : List PyData}, DqAll H vs ds → vs.length = ds.length
  | _, _, .nil => rfl
  | _, _, .cons _ h => by simp [DqAll.len h]
theorem DqAll.app : ∀ {vs ws : List V} {ds es : List PyData}, DqAll H vs ds → DqAll H ws es → DqAll H (vs ++ ws) (ds ++ es)
  | _, _, _, _, .nil, h => h
  | _, _, _, _, .cons h t, h' => .cons h (DqAll.app t h')
theorem DqAll.at : ∀ {vs : List V} {ds : List PyData} {i : Nat} {d : PyData}, DqAll H vs ds → ds[i]? = some d → ∃ v, vs[i]? = some v ∧ Dq H v d
  | _, _, _, _, .nil, h => by simp at h
  | _, _, 0, _, .cons h _, e => by simp at e; subst e; exact ⟨_, rfl, h⟩
  | _, _, i + 1, _, .cons _ t, e => by
    obtain ⟨v, h1, h2⟩ := DqAll.at (i := i) t (by simpa using e)
    exact ⟨v, by simpa using h1, h2⟩
theorem DqAll.set : ∀ {vs : List V} {ds : List PyData} {v : V} {d : PyData} (i : Nat), DqAll H vs ds → Dq H v d → DqAll H (vs.set i v) (ds.set i d)
  | _, _, _, _, _, .nil, _ => .nil
  | _, _, _, _, 0, .cons _ t, h => .cons h t
  | _, _, _, _, i + 1, .cons h0 t, h => .cons h0 (DqAll.set i t h)
theorem DqAll.take : ∀ {vs : List V} {ds : List PyData} (n : Nat), DqAll H vs ds → DqAll H (vs.take n) (ds.take n)
  | _, _, 0, _ => .nil
  | _, _, _ + 1, .nil => .nil
  | _, _, n + 1, .cons h t => .cons h (DqAll.take n t)
theorem DqAll.drop : ∀ {vs : List V} {ds : List PyData} (n : Nat), DqAll H vs ds → DqAll H (vs.drop n) (ds.drop n)
  | _, _, 0, h => h
  | _, _, _ + 1, .nil => .nil
  | _, _, n + 1, .cons _ t => DqAll.drop n t
end

/-! ### slots -/
/-- what is known of a slot: nothing; persistent data; a list of the def's own -/
inductive Sl where
  | un
  | dat (d : PyData)
  | own (ds : List PyData)
  | rd (ds : List PyData)
  | old (d : PyData)
  | nw (d : PyData)
/-- what is known in I and F both -/
def rgO (F I : Hp) : Hp := fun a => match F a with | none => none | some _ => I a
/-- what is known in I; lists only where they are not in F -/
def rgN (F I : Hp) : Hp := fun a => match I a with
  | some (.lst xs) => (match F a with | none => some (.lst xs) | some _ => none)
  | some (.frz _ (.lst _)) => none
  | o => o
theorem rgO_le {F I : Hp} : Same (rgO F I) I := fun a u h => by
  unfold rgO at h; split at h
  · cases h
  · exact h
theorem rgN_le {F I : Hp} : Same (rgN F I) I := fun a u h => by
  unfold rgN at h; split at h
  · rename_i xs e
    split at h
    · rw [e]; exact h
    · cases h
  · cases h
  · exact h
theorem rgO_mono {F I I' : Hp} (e : Same I I') : Same (rgO F I) (rgO F I') := fun a u h => by
  unfold rgO at h ⊢
  split at h
  · cases h
  · exact e _ _ h
theorem rgN_mono {F I I' : Hp} (e : Same I I') : Same (rgN F I) (rgN F I') := fun a u h => by
  have h' := rgN_le _ _ h
  have h2 := e _ _ h'
  unfold rgN at h ⊢
  rw [h'] at h; rw [h2]
  exact h
theorem rgO_same {F F' I : Hp} (h : ∀ a, I a ≠ none → (F' a = none ↔ F a = none)) : rgO F' I = rgO F I := funext fun a => by
  unfold rgO
  by_cases c : I a = none
  · cases F' a <;> cases F a <;> simp [c]
  · have := h a c
    cases e : F' a <;> cases e' : F a <;> simp_all
theorem rgN_same {F F' I : Hp} (h : ∀ a, I a ≠ none → (F' a = none ↔ F a = none)) : rgN F' I = rgN F I := funext fun a => by
  unfold rgN
  split
  · rename_i xs e
    have := h a (by rw [e]; simp)
    cases e : F' a <;> cases e' : F a <;> simp_all
  · rfl
  · rfl
def slAt : List Sl → Nat → Sl
  | [], _ => .un
  | s :: _, 0 => s
  | _ :: r, i + 1 => slAt r i
theorem slAt_set_self {s : Sl} : ∀ {G : List Sl} {i : Nat}, i < G.length → slAt (G.set i s) i = s
  | [], _, h => by simp at h
  | _ :: _, 0, _ => rfl
  | _ :: r, i + 1, h => slAt_set_self (G := r) (i := i) (by simpa using h)
theorem slAt_set_ne {s : Sl} : ∀ {G : List Sl} {i j : Nat}, i ≠ j → slAt (G.set i s) j = slAt G j
  | [], _, _, _ => rfl
  | _ :: _, 0, 0, h => absurd rfl h
  | _ :: _, 0, _ + 1, _ => rfl
  | _ :: _, _ + 1, 0, _ => rfl
  | _ :: r, i + 1, j + 1, h => slAt_set_ne (G := r) (i := i) (j := j) (by omega)
theorem slAt_out {G : List Sl} {i : Nat} (h : G.length ≤ i) : slAt G i = .un := by
  induction G generalizing i with
  | nil => rfl
  | cons s r ih => cases i with
    | zero => simp at h
    | succ i => exact ih (by simpa using h)

def SlR (K : PySem.W.Frag) (F I H : Hp) : Sl → Option V → Option Addr → Prop
  | .un, _, p => p = none
  | .old d, v, p => p = none ∧ ∃ x, v = some x ∧ Dq (rgO F I) x d
  | .nw d, v, p => p = none ∧ ∃ x, v = some x ∧ Dq (rgN F I) x d
  | .dat d, v, p => p = none ∧ ∃ x, v = some x ∧ Dq I x d
  | .own ds, v, p => ∃ a xs, p = some a ∧ v = some (.ref a) ∧ I a = none ∧ H a = some (.lst xs) ∧ DqAll I xs ds
  | .rd ds, v, p => p = none ∧ ∃ a xs, v = some (.ref a) ∧ SqL K I a xs ∧ DqAll I xs ds

/-- the state: F what stands for others (kept), I the persistent data, ps the def's own lists -/
structure RS (K : PySem.W.Frag) (F : Hp) (G : List Sl) (σ : L2.St) (H I : Hp) (ps : Nat → Option Addr) : Prop where
  si : Same I H
  sf : Same F H
  fo : ∀ i a, ps i = some a → F a = none
  len : G.length = σ.length
  sl : ∀ i, i < G.length → ∃ v, σ[i]? = some v ∧ SlR K F I H (slAt G i) v (ps i)
  out : ∀ i, G.length ≤ i → ps i = none
  dis : ∀ i j a, ps i = some a → ps j = some a → i = j
/-- the persistent part grows outside of F -/
structure Grow (F I I' : Hp) : Prop where
  same : Same I I'
  out : ∀ a, I' a ≠ none → I a ≠ none ∨ F a = none
theorem Grow.refl {F I : Hp} : Grow F I I := ⟨Same.refl _, fun _ h => .inl h⟩
theorem Grow.trans {F I J L : Hp} (a : Grow F I J) (b : Grow F J L) : Grow F I L :=
  ⟨a.same.trans b.same, fun x h => (b.out x h).elim (a.out x) .inr⟩
theorem Same.none {H H' : Hp} (e : Same H H') {a : Addr} (h : H' a = none) : H a = none := e.free h
theorem same_upd {H : Hp} {p : Addr} {o : HO} (h : H p = none) : Same H (upd H p o) := fun b x e => by
  rw [upd_ne (ne_of_none e h)]; exact e
theorem same_upd2 {H J : Hp} {p : Addr} {o : HO} (e : Same J H) (h : J p = none) : Same J (upd H p o) := fun b x q => by
  rw [upd_ne (ne_of_none q h)]; exact e _ _ q
theorem upd_iff {F I : Hp} {D : Addr} {o : HO} (n : I D = none) : ∀ a, I a ≠ none → (upd F D o a = none ↔ F a = none) := fun a h => by
  rw [upd_ne (fun c : a = D => h (by rw [c]; exact n))]
theorem Grow.new {F I : Hp} {p : Addr} {o : HO} (hI : I p = none) (hF : F p = none) : Grow F I (upd I p o) := by
  refine ⟨same_upd hI, fun a h => ?_⟩
  by_cases e : a = p
  · subst e; exact .inr hF
  · rw [upd_ne e] at h; exact .inl h

section
variable {K : PySem.W.Frag} {F : Hp} {G : List Sl} {σ : L2.St} {H H' I I' : Hp} {ps : Nat → Option Addr}
theorem SlR.mono {s : Sl} {v : Option V} {p : Option Addr} (h : SlR K F I H s v p) (e : Same I I') (hp : ∀ a, p = some a → I' a = none ∧ ∀ o, H a = some o → H' a = some o) : SlR K F I' H' s v p := by
  cases s with
  | un => exact h
  | old d => obtain ⟨e1, x, e2, q⟩ := h; exact ⟨e1, x, e2, Dq_mono (rgO_mono e) _ _ q⟩
  | nw d => obtain ⟨e1, x, e2, q⟩ := h; exact ⟨e1, x, e2, Dq_mono (rgN_mono e) _ _ q⟩
  | dat d => obtain ⟨e1, x, e2, q⟩ := h; exact ⟨e1, x, e2, Dq_mono e _ _ q⟩
  | own ds =>
    obtain ⟨a, xs, e1, e2, n, q, r⟩ := h
    obtain ⟨n', k⟩ := hp a e1
    exact ⟨a, xs, e1, e2, n', k _ q, DqAll_mono e _ _ r⟩
  | rd ds => obtain ⟨e1, a, xs, e2, q, d⟩ := h; exact ⟨e1, a, xs, e2, Same.seq e q, DqAll_mono e _ _ d⟩
/-- an own list's address, as it is known -/
theorem RS.own_at (R : RS K F G σ H I ps) {i : Nat} {a : Addr} (h : ps i = some a) : I a = none ∧ F a = none ∧ ∃ xs, H a = some (.lst xs) := by
  have hi : i < G.length := by
    by_cases c : i < G.length
    · exact c
    · rw [R.out i (by omega)] at h; cases h
  obtain ⟨v, _, q⟩ := R.sl i hi
  cases s : slAt G i with
  | un => rw [s] at q; rw [show ps i = none from q] at h; cases h
  | dat d => rw [s] at q; rw [q.1] at h; cases h
  | rd d => rw [s] at q; rw [q.1] at h; cases h
  | old d => rw [s] at q; rw [q.1] at h; cases h
  | nw d => rw [s] at q; rw [q.1] at h; cases h
  | own ds =>
    rw [s] at q
    obtain ⟨b, xs, e1, e2, n, q, r⟩ := q
    rw [h] at e1; cases e1
    exact ⟨n, R.fo i a h, xs, q⟩
/-- the heap grows to H', the persistent part to I' -/
theorem RS.grow (R : RS K F G σ H I ps) (e : Same H H') (si : Same I' H') (g : Same I I') (n : ∀ i a, ps i = some a → I' a = none) : RS K F G σ H' I' ps where
  si := si
  sf := R.sf.trans e
  fo := R.fo
  len := R.len
  sl := fun i hi => by
    obtain ⟨v, h1, h2⟩ := R.sl i hi
    exact ⟨v, h1, h2.mono g fun a ha => ⟨n i a ha, fun o q => e _ _ q⟩⟩
  out := R.out
  dis := R.dis
/-- a new persistent object -/
theorem RS.new (R : RS K F G σ H I ps) {p : Addr} {o : HO} (h : H p = none) : RS K F G σ (upd H p o) (upd I p o) ps := by
  have hI : I p = none := R.si.free h
  refine R.grow (same_upd h) (fun b x q => ?_) (same_upd hI) fun i a ha => ?_
  · by_cases e : b = p
    · subst e; rw [upd_same] at q ⊢; exact q
    · rw [upd_ne e] at q ⊢; exact R.si _ _ q
  · obtain ⟨n, _, xs, q⟩ := R.own_at ha
    rw [upd_ne (ne_of_none q h)]; exact n
theorem RS.grow_new (R : RS K F G σ H I ps) {p : Addr} {o : HO} (h : H p = none) : Grow F I (upd I p o) := Grow.new (R.si.free h) (R.sf.free h)
/-- a new object that is not persistent (yet) -/
theorem RS.newOwn (R : RS K F G σ H I ps) {p : Addr} {o : HO} (h : H p = none) : RS K F G σ (upd H p o) I ps :=
  R.grow (same_upd h) (R.si.trans (same_upd h)) (Same.refl _) fun i a ha => (R.own_at ha).1
/-- an object outside all is written -/
theorem RS.wr (R : RS K F G σ H I ps) {p : Addr} {o : HO} (hI : I p = none) (hF : F p = none) (hp : ∀ i, ps i ≠ some p) : RS K F G σ (upd H p o) I ps where
  si := same_upd2 R.si hI
  sf := same_upd2 R.sf hF
  fo := R.fo
  len := R.len
  sl := fun i hi => by
    obtain ⟨v, h1, h2⟩ := R.sl i hi
    refine ⟨v, h1, h2.mono (Same.refl _) fun a ha => ⟨(R.own_at ha).1, fun o q => ?_⟩⟩
    rw [upd_ne (fun e : a = p => hp i (by rw [← e]; exact ha))]; exact q
  out := R.out
  dis := R.dis
/-- what stands for others may be named otherwise -/
theorem RS.frame (R : RS K F G σ H I ps) {F' : Hp} (s : Same F' H) (n : ∀ i a, ps i = some a → F' a = none) (h : ∀ a, I a ≠ none → (F' a = none ↔ F a = none)) : RS K F' G σ H I ps := ⟨R.si, s, n, R.len, fun i hi => by
  obtain ⟨v, h1, h2⟩ := R.sl i hi
  refine ⟨v, h1, ?_⟩
  cases e : slAt G i with
  | un => rw [e] at h2; exact h2
  | dat d => rw [e] at h2; exact h2
  | own d => rw [e] at h2; exact h2
  | rd d => rw [e] at h2; exact h2
  | old d => rw [e] at h2; obtain ⟨e1, x, e2, q⟩ := h2; exact ⟨e1, x, e2, by rw [rgO_same h]; exact q⟩
  | nw d => rw [e] at h2; obtain ⟨e1, x, e2, q⟩ := h2; exact ⟨e1, x, e2, by rw [rgN_same h]; exact q⟩, R.out, R.dis⟩
/-- a slot is stored: persistent data -/
def psDel (ps : Nat → Option Addr) (i : Nat) : Nat → Option Addr := fun j => if j = i then none else ps j
def psSet (ps : Nat → Option Addr) (i : Nat) (a : Addr) : Nat → Option Addr := fun j => if j = i then some a else ps j
theorem RS.setDat (R : RS K F G σ H I ps) {i : Nat} {v : V} {d : PyData} (h : Dq I v d) : RS K F (G.set i (.dat d)) (σ.set i (some v)) H I (psDel ps i) where
  si := R.si
  sf := R.sf
  fo := fun j a h => by
    unfold psDel at h; split at h
    · cases h
    · exact R.fo j a h
  len := by simp [R.len]
  sl := fun j hj => by
    rw [List.length_set] at hj
    obtain ⟨w, h1, h2⟩ := R.sl j hj
    by_cases e : j = i
    · subst e
      refine ⟨some v, List.getElem?_set_self (by rw [← R.len]; exact hj), ?_⟩
      rw [slAt_set_self hj]
      exact ⟨if_pos rfl, v, rfl, h⟩
    · refine ⟨w, by rw [List.getElem?_set_ne (Ne.symm e)]; exact h1, ?_⟩
      rw [slAt_set_ne (Ne.symm e), show psDel ps i j = ps j from if_neg e]
      exact h2
  out := fun j hj => by
    unfold psDel; split
    · rfl
    · exact R.out j (by simpa using hj)
  dis := fun j l a h1 h2 => by
    unfold psDel at h1 h2
    split at h1
    · cases h1
    · split at h2
      · cases h2
      · exact R.dis j l a h1 h2
theorem RS.setOwn (R : RS K F G σ H I ps) {i : Nat} {p : Addr} {xs : List V} {ds : List PyData} (hi : i < G.length) (hI : I p = none) (hF : F p = none) (hp : ∀ j, ps j ≠ some p) (hH : H p = some (.lst xs)) (h : DqAll I xs ds) :
    RS K F (G.set i (.own ds)) (σ.set i (some (.ref p))) H I (psSet ps i p) where
  si := R.si
  sf := R.sf
  fo := fun j a h => by
    unfold psSet at h; split at h
    · cases h; exact hF
    · exact R.fo j a h
  len := by simp [R.len]
  sl := fun j hj => by
    rw [List.length_set] at hj
    obtain ⟨w, h1, h2⟩ := R.sl j hj
    by_cases e : j = i
    · subst e
      refine ⟨some (.ref p), List.getElem?_set_self (by rw [← R.len]; exact hj), ?_⟩
      rw [slAt_set_self hj]
      exact ⟨p, xs, if_pos rfl, rfl, hI, hH, h⟩
    · refine ⟨w, by rw [List.getElem?_set_ne (Ne.symm e)]; exact h1, ?_⟩
      rw [slAt_set_ne (Ne.symm e), show psSet ps i p j = ps j from if_neg e]
      exact h2
  out := fun j hj => by
    unfold psSet; split
    · rename_i e; subst e; rw [List.length_set] at hj; omega
    · exact R.out j (by simpa using hj)
  dis := fun j l a h1 h2 => by
    unfold psSet at h1 h2
    split at h1
    · cases h1
      split at h2
      · omega
      · exact absurd h2 (hp l)
    · split at h2
      · cases h2; exact absurd h1 (hp j)
      · exact R.dis j l a h1 h2
/-- nothing is known of a slot any more -/
theorem RS.setUn (R : RS K F G σ H I ps) {i : Nat} {v : Option V} : RS K F (G.set i .un) (σ.set i v) H I (psDel ps i) where
  si := R.si
  sf := R.sf
  fo := fun j a h => by
    unfold psDel at h; split at h
    · cases h
    · exact R.fo j a h
  len := by simp [R.len]
  sl := fun j hj => by
    rw [List.length_set] at hj
    obtain ⟨w, h1, h2⟩ := R.sl j hj
    by_cases e : j = i
    · subst e
      refine ⟨v, List.getElem?_set_self (by rw [← R.len]; exact hj), ?_⟩
      rw [slAt_set_self hj]
      exact if_pos rfl
    · refine ⟨w, by rw [List.getElem?_set_ne (Ne.symm e)]; exact h1, ?_⟩
      rw [slAt_set_ne (Ne.symm e), show psDel ps i j = ps j from if_neg e]
      exact h2
  out := fun j hj => by
    unfold psDel; split
    · rfl
    · exact R.out j (by simpa using hj)
  dis := fun j l a h1 h2 => by
    unfold psDel at h1 h2
    split at h1
    · cases h1
    · split at h2
      · cases h2
      · exact R.dis j l a h1 h2
/-- an own list is written -/
theorem RS.wrOwn (R : RS K F G σ H I ps) {i : Nat} {p : Addr} {ys : List V} {es : List PyData} (hp : ps i = some p) (h : DqAll I ys es) : RS K F (G.set i (.own es)) σ (upd H p (.lst ys)) I ps where
  si := same_upd2 R.si (R.own_at hp).1
  sf := same_upd2 R.sf (R.own_at hp).2.1
  fo := R.fo
  len := by simp [R.len]
  sl := fun j hj => by
    rw [List.length_set] at hj
    obtain ⟨w, h1, h2⟩ := R.sl j hj
    by_cases e : j = i
    · subst e
      refine ⟨w, h1, ?_⟩
      rw [slAt_set_self hj]
      refine ⟨p, ys, hp, ?_, (R.own_at hp).1, upd_same, h⟩
      cases s : slAt G j with
      | un => rw [s] at h2; rw [show ps j = none from h2] at hp; cases hp
      | dat d => rw [s] at h2; rw [h2.1] at hp; cases hp
      | rd d => rw [s] at h2; rw [h2.1] at hp; cases hp
      | old d => rw [s] at h2; rw [h2.1] at hp; cases hp
      | nw d => rw [s] at h2; rw [h2.1] at hp; cases hp
      | own ds =>
        rw [s] at h2
        obtain ⟨a, xs, e1, e2, _⟩ := h2
        rw [hp] at e1; cases e1; exact e2
    · refine ⟨w, h1, ?_⟩
      rw [slAt_set_ne (Ne.symm e)]
      refine h2.mono (Same.refl _) fun a ha => ⟨(R.own_at ha).1, fun o q => ?_⟩
      rw [upd_ne (fun z : a = p => e (R.dis j i a ha (by rw [z]; exact hp)))]; exact q
  out := fun j hj => R.out j (by simpa using hj)
  dis := R.dis
/-- an own list becomes persistent -/
theorem RS.frz (R : RS K F G σ H I ps) {i : Nat} {ds : List PyData} (hs : slAt G i = .own ds) : ∃ I', Grow F I I' ∧ RS K F (G.set i (.dat (.list ds))) σ H I' (psDel ps i) := by
  have hi : i < G.length := by
    by_cases c : i < G.length
    · exact c
    · rw [slAt_out (by omega)] at hs; cases hs
  obtain ⟨v, h1, h2⟩ := R.sl i hi
  rw [hs] at h2
  obtain ⟨a, xs, e1, e2, n, q, r⟩ := h2
  have g : Same I (upd I a (.lst xs)) := same_upd n
  refine ⟨upd I a (.lst xs), Grow.new n (R.fo i a e1), ?_⟩
  refine ⟨fun b x z => ?_, R.sf, fun j b z => ?_, by simp [R.len], fun j hj => ?_, fun j hj => ?_, fun j l b z1 z2 => ?_⟩
  · by_cases e : b = a
    · subst e; rw [upd_same] at z; cases z; exact q
    · rw [upd_ne e] at z; exact R.si _ _ z
  · unfold psDel at z; split at z
    · cases z
    · exact R.fo j b z
  · rw [List.length_set] at hj
    obtain ⟨w, k1, k2⟩ := R.sl j hj
    by_cases e : j = i
    · subst e
      rw [h1] at k1; cases k1
      refine ⟨v, h1, ?_⟩
      rw [slAt_set_self hj]
      refine ⟨if_pos rfl, .ref a, e2, .lst (.inl upd_same) (DqAll_mono g _ _ r)⟩
    · refine ⟨w, k1, ?_⟩
      rw [slAt_set_ne (Ne.symm e), show psDel ps i j = ps j from if_neg e]
      refine k2.mono g fun b hb => ⟨?_, fun o z => z⟩
      rw [upd_ne (fun z : b = a => e (R.dis j i a (by rw [← z]; exact hb) e1))]
      exact (R.own_at hb).1
  · unfold psDel; split
    · rfl
    · exact R.out j (by simpa using hj)
  · unfold psDel at z1 z2
    split at z1
    · cases z1
    · split at z2
      · cases z2
      · exact R.dis j l b z1 z2
end
end Lay

set_option Elab.async false
set_option linter.all false
set_option maxRecDepth 100000
/-! Lay2: expressions. -/
namespace Lay
open PySem PySem.Spec PyProof.Rows L2
open Lay.Enc (enc)

/-! ### the context of a def's body or of a comprehension's block -/
def fnOf : Option Scope → Str → Bool
  | none => fun _ => true
  | some scope => fun x => scope.names.lookup x == some .cell
structure Ctx (X : Cx) (N : List Str) (sc : Scope) (fs : Option Scope) (k : Nat) : Prop where
  n : X.N = N
  s : X.env.scope = sc
  fk : sc.kind = .function
  calm : X.calm = true
  nd : N.Nodup
  gd : X.A.guards = some []
  rm : Room k X.A
  px : PassesOwn (model X.prog X.w) X.A X.env X.xe
  fn : X.fn = fnOf fs
theorem Ctx.blk {X : Cx} {N : List Str} {sc : Scope} {fs : Option Scope} {k : Nat} (C : Ctx X N sc fs k) (s : Shared) (H : Hp) (scope : Scope) (Ca : Addr) (cl : List (Str × Addr)) (fp : List Addr) (hk : scope.kind = .function) :
    Ctx (X.blk s H scope (compEnvC scope cl Ca X.env) fp) N (relS scope sc) (some scope) k :=
  ⟨C.n, by show relS scope X.env.scope = _; rw [C.s], hk, C.calm, C.nd, C.gd, C.rm, PassesOwn.never, rfl⟩
/-- the name in slot i is seen in the scope -/
def visB (N : List Str) (sc : Scope) (i : Nat) (x : Str) : Bool :=
  decide (N[i]? = some x) && (match sc.names.lookup x with | some .local => true | some .cell => true | some .free => true | _ => false) && !(x == ("__debug__" : Str)) && !(x == ("__classdict__" : Str))
/-- the name in slot i is the scope's own -/
def locB (N : List Str) (sc : Scope) (fs : Option Scope) (i : Nat) (x : Str) : Bool :=
  decide (N[i]? = some x) && (match sc.names.lookup x with | some .local => true | some .cell => fnOf fs x | _ => false)
def glbB (sc : Scope) (x : Str) : Bool := (match sc.names.lookup x with | some .globalImplicit => true | _ => false) && !(x == ("__debug__" : Str))

/-! ### what is wanted of an expression -/
def tD (K : PySem.W.Frag) (G : List Sl) (d : PyData) : TE := fun σ H Q => ∃ F I ps, RS K F G σ H I ps ∧ ∀ v H' I', Grow F I I' → RS K F G σ H' I' ps → Dq I' v d → Q v H'
def tO (K : PySem.W.Frag) (G : List Sl) (ds : List PyData) : TE := fun σ H Q => ∃ F I ps, RS K F G σ H I ps ∧ ∀ p xs H' I', Grow F I I' → RS K F G σ H' I' ps → I' p = none → F p = none → (∀ i, ps i ≠ some p) → H' p = some (.lst xs) → DqAll I' xs ds → Q (.ref p) H'
def tR (K : PySem.W.Frag) (G : List Sl) (ds : List PyData) : TE := fun σ H Q => ∃ F I ps, RS K F G σ H I ps ∧ ∀ a xs H' I', Grow F I I' → RS K F G σ H' I' ps → SqL K H' a xs → DqAll I' xs ds → Q (.ref a) H'
def tB (K : PySem.W.Frag) (G : List Sl) (b : Bool) : TT := fun σ H Q => ∃ F I ps, RS K F G σ H I ps ∧ ∀ H' I', Grow F I I' → RS K F G σ H' I' ps → Q b H'
def tA (K : PySem.W.Frag) (G : List Sl) (ds : List PyData) : TA := fun σ H Q => ∃ F I ps, RS K F G σ H I ps ∧ ∀ vs H' I', Grow F I I' → RS K F G σ H' I' ps → DqAll I' vs ds → Q vs H'

/-- the expression gives the data o (if o is some) -/
def ED (X : Cx) (G : List Sl) {α : Type} [Enc α] (e : Expr) (o : Option α) : Prop := ∀ x, o = some x → PE X e (tD X.K G (enc x))
/-- .. a new list that nothing else holds -/
def EO (X : Cx) (G : List Sl) {α : Type} [Enc α] (e : Expr) (o : Option (List α)) : Prop := ∀ l, o = some l → PE X e (tO X.K G (l.map enc))
/-- .. a list that may be read -/
def ER (X : Cx) (G : List Sl) {α : Type} [Enc α] (e : Expr) (o : Option (List α)) : Prop := ∀ l, o = some l → PE X e (tR X.K G (l.map enc))
/-- .. a test -/
def EB (X : Cx) (G : List Sl) (e : Expr) (o : Option Bool) : Prop := ∀ b, o = some b → PT X e (tB X.K G b)
/-- .. in a chain of and, or -/
def EW (X : Cx) (G : List Sl) (e : Expr) (o : Option Bool) : Prop := ∀ b, o = some b → PW X e (tB X.K G b)
def AD (X : Cx) (G : List Sl) (es : List Expr) (o : Option (List PyData)) : Prop := ∀ ds, o = some ds → PA X es (tA X.K G ds)

theorem _root_.L2.PE.imp {X : Cx} {e : Expr} {t t' : TE} (h : PE X e t) (w : ∀ σ H Q, t' σ H Q → t σ H Q) : PE X e t' := ⟨fun pins s σ H Q I q => h.run pins s σ H Q I (w σ H Q q)⟩
theorem _root_.L2.PT.imp {X : Cx} {e : Expr} {t t' : TT} (h : PT X e t) (w : ∀ σ H Q, t' σ H Q → t σ H Q) : PT X e t' := ⟨fun pins s σ H Q I q => h.run pins s σ H Q I (w σ H Q q)⟩
theorem _root_.L2.PW.imp {X : Cx} {e : Expr} {t t' : TT} (h : PW X e t) (w : ∀ σ H Q, t' σ H Q → t σ H Q) : PW X e t' := ⟨fun wh pins s σ H Q I q => h.run wh pins s σ H Q I (w σ H Q q)⟩
theorem _root_.L2.PA.imp {X : Cx} {e : List Expr} {t t' : TA} (h : PA X e t) (w : ∀ σ H Q, t' σ H Q → t σ H Q) : PA X e t' := ⟨fun pos pins s σ H Q I q => h.run pos pins s σ H Q I (w σ H Q q)⟩

def lift1 {α β : Type} (f : α → β) (a : Option α) : Option β := a.bind fun x => some (f x)
def lift2 {α β γ : Type} (f : α → β → γ) (a : Option α) (b : Option β) : Option γ := a.bind fun x => b.bind fun y => some (f x y)
def bind2 {α β γ : Type} (f : α → β → Option γ) (a : Option α) (b : Option β) : Option γ := a.bind fun x => b.bind fun y => f x y
@[simp] theorem lift1_some {α β : Type} (f : α → β) (a : α) : lift1 f (some a) = some (f a) := rfl
@[simp] theorem lift2_some {α β γ : Type} (f : α → β → γ) (a : α) (b : β) : lift2 f (some a) (some b) = some (f a b) := rfl
@[simp] theorem bind2_some {α β γ : Type} (f : α → β → Option γ) (a : α) (b : β) : bind2 f (some a) (some b) = f a b := rfl
theorem bind2_get {α β γ : Type} {f : α → β → Option γ} {a : Option α} {b : Option β} {z : γ} (h : bind2 f a b = some z) : ∃ x y, a = some x ∧ b = some y ∧ f x y = some z := by
  cases a with
  | none => cases h
  | some x => cases b with
    | none => cases h
    | some y => exact ⟨x, y, rfl, rfl, h⟩
theorem lift2_get {α β γ : Type} {f : α → β → γ} {a : Option α} {b : Option β} {z : γ} (h : lift2 f a b = some z) : ∃ x y, a = some x ∧ b = some y ∧ f x y = z := by
  obtain ⟨x, y, h1, h2, h3⟩ := bind2_get (f := fun x y => some (f x y)) h
  exact ⟨x, y, h1, h2, Option.some.inj h3⟩
theorem bind_get {α β : Type} {f : α → Option β} {a : Option α} {z : β} (h : a.bind f = some z) : ∃ x, a = some x ∧ f x = some z := by
  cases a with
  | none => cases h
  | some x => exact ⟨x, rfl, h⟩
theorem lift1_get {α β : Type} {f : α → β} {a : Option α} {z : β} (h : lift1 f a = some z) : ∃ x, a = some x ∧ f x = z := by
  obtain ⟨x, h1, h2⟩ := bind_get (f := fun x => some (f x)) h
  exact ⟨x, h1, Option.some.inj h2⟩

section
variable {X : Cx} {G : List Sl} {α β γ : Type} [Enc α] [Enc β] [Enc γ]

/-! ### from one form to another -/
theorem er_of_ed {e : Expr} {o : Option (List α)} (h : ED X G e o) : ER X G e o := fun l hl => (h l hl).imp fun σ H Q ⟨F, I, ps, R, q⟩ => ⟨F, I, ps, R, fun v H' I' g R' d => by
  cases d with | lst h1 h2 => exact q _ _ _ _ g R' (.inl (rd_mono R'.si h1)) h2⟩
theorem er_of_eo {e : Expr} {o : Option (List α)} (h : EO X G e o) : ER X G e o := fun l hl => (h l hl).imp fun σ H Q ⟨F, I, ps, R, q⟩ => ⟨F, I, ps, R, fun p xs H' I' g R' _ _ _ hp d => q _ _ _ _ g R' (.inl (.inl hp)) d⟩
/-- a new list that becomes persistent at once -/
theorem frz_new {K : PySem.W.Frag} {F H' I I' : Hp} {σ : L2.St} {ps : Nat → Option Addr} {p : Addr} {xs : List V} {ds : List PyData} (g : Grow F I I') (R' : RS K F G σ H' I' ps) (hI : I' p = none) (hF : F p = none) (hp : ∀ i, ps i ≠ some p) (hH : H' p = some (.lst xs)) (d : DqAll I' xs ds) :
    Grow F I (upd I' p (.lst xs)) ∧ RS K F G σ H' (upd I' p (.lst xs)) ps ∧ Dq (upd I' p (.lst xs)) (.ref p) (.list ds) := by
  have s := same_upd (o := .lst xs) hI
  refine ⟨g.trans (Grow.new hI hF), R'.grow (Same.refl _) (fun b x q => ?_) s fun i a ha => ?_, .lst (.inl upd_same) (DqAll_mono s _ _ d)⟩
  · by_cases e : b = p
    · subst e; rw [upd_same] at q; cases q; exact hH
    · rw [upd_ne e] at q; exact R'.si _ _ q
  · rw [upd_ne (fun z : a = p => hp i (by rw [← z]; exact ha))]; exact (R'.own_at ha).1
theorem ed_of_eo {e : Expr} {o : Option (List α)} (h : EO X G e o) : ED X G e o := fun l hl => (h l hl).imp fun σ H Q ⟨F, I, ps, R, q⟩ => ⟨F, I, ps, R, fun p xs H' I' g R' hI hF hp hH d => by
  obtain ⟨g', R'', d'⟩ := frz_new g R' hI hF hp hH d
  exact q _ _ _ g' R'' d'⟩
/-- another type with the same data -/
theorem ed_coe {e : Expr} {o : Option α} (c : α → β) (hc : ∀ x, enc (c x) = enc x) (h : ED X G e o) : ED X G e (lift1 c o) := fun y hy => by
  obtain ⟨x, h1, h2⟩ := lift1_get hy
  rw [← h2, hc]; exact h x h1
theorem ed_coeP {e : Expr} {o : Option α} (c : α → Option β) (hc : ∀ x y, c x = some y → enc y = enc x) (h : ED X G e o) : ED X G e (o.bind c) := fun y hy => by
  obtain ⟨x, h1, h2⟩ := bind_get hy
  rw [hc x y h2]; exact h x h1
theorem ed_some {e : Expr} {o : Option α} (h : ED X G e o) : ED X G e (lift1 (some : α → Option α) o) := ed_coe _ (fun _ => rfl) h
theorem ed_get {e : Expr} {o : Option (Option α)} (h : ED X G e o) : ED X G e (o.bind id) := ed_coeP _ (fun x y h => by have h : x = some y := h; subst h; rfl) h
theorem eo_coe {e : Expr} {o : Option (List α)} (c : α → β) (hc : ∀ x, enc (c x) = enc x) (h : EO X G e o) : EO X G e (lift1 (List.map c) o) := fun y hy => by
  obtain ⟨x, h1, h2⟩ := lift1_get hy
  rw [← h2, List.map_map, show (enc ∘ c : α → PyData) = enc from funext hc]; exact h x h1
theorem er_coe {e : Expr} {o : Option (List α)} (c : α → β) (hc : ∀ x, enc (c x) = enc x) (h : ER X G e o) : ER X G e (lift1 (List.map c) o) := fun y hy => by
  obtain ⟨x, h1, h2⟩ := lift1_get hy
  rw [← h2, List.map_map, show (enc ∘ c : α → PyData) = enc from funext hc]; exact h x h1
theorem enc_map (c : α → β) (hc : ∀ x, enc (c x) = enc x) (l : List α) : enc (l.map c) = enc l := by
  show PyData.list ((l.map c).map enc) = PyData.list (l.map enc)
  rw [List.map_map, show (enc ∘ c : α → PyData) = enc from funext hc]

/-! ### names and constants -/
theorem ed_var {N : List Str} {sc : Scope} {fs : Option Scope} {k i : Nat} {x : Str} {v : α} {pos : Pos} (C : Ctx X N sc fs k) (hv : visB N sc i x = true) (hs : slAt G i = .dat (enc v)) : ED X G (.Name x pos) (some v) := fun y hy => by
  cases hy
  unfold visB at hv
  simp only [Bool.and_eq_true, decide_eq_true_eq, Bool.not_eq_true'] at hv
  obtain ⟨⟨⟨h1, h2⟩, h3⟩, h4⟩ := hv
  have hvis : Vis X.env.scope x := by
    rw [C.s]; unfold Vis
    split at h2 <;> simp_all
  refine (pe_var (by rw [C.n]; exact h1) hvis h3 h4).imp fun σ H Q ⟨F, I, ps, R, q⟩ => ?_
  have hi : i < G.length := by
    by_cases c : i < G.length
    · exact c
    · rw [slAt_out (by omega)] at hs; cases hs
  obtain ⟨w, k1, k2⟩ := R.sl i hi
  rw [hs] at k2
  obtain ⟨_, z, e, d⟩ := k2
  subst e
  exact ⟨z, k1, q z H I Grow.refl R d⟩
theorem er_own {N : List Str} {sc : Scope} {fs : Option Scope} {k i : Nat} {x : Str} {l : List α} {pos : Pos} (C : Ctx X N sc fs k) (hv : visB N sc i x = true) (hs : slAt G i = .own (l.map enc)) : ER X G (.Name x pos) (some l) := fun y hy => by
  cases hy
  unfold visB at hv
  simp only [Bool.and_eq_true, decide_eq_true_eq, Bool.not_eq_true'] at hv
  obtain ⟨⟨⟨h1, h2⟩, h3⟩, h4⟩ := hv
  have hvis : Vis X.env.scope x := by
    rw [C.s]; unfold Vis
    split at h2 <;> simp_all
  refine (pe_var (by rw [C.n]; exact h1) hvis h3 h4).imp fun σ H Q ⟨F, I, ps, R, q⟩ => ?_
  have hi : i < G.length := by
    by_cases c : i < G.length
    · exact c
    · rw [slAt_out (by omega)] at hs; cases hs
  obtain ⟨w, k1, k2⟩ := R.sl i hi
  rw [hs] at k2
  obtain ⟨a, xs, e1, e2, n, hH, d⟩ := k2
  subst e2
  exact ⟨_, k1, q a xs H I Grow.refl R (.inl (.inl hH)) d⟩
theorem tC_ed {v : V} {d : PyData} (hd : ∀ H : Hp, Dq H v d) {K : PySem.W.Frag} (σ : L2.St) (H : Hp) (Q : VK) (h : tD K G d σ H Q) : tC v σ H Q := by
  obtain ⟨F, I, ps, R, q⟩ := h
  exact q v H I Grow.refl R (hd _)
theorem ed_num {i : Int} {j : Nat} {pos : Pos} : ED X G (.Constant (.int i) j pos) (some i) := fun y hy => by
  cases hy; exact pe_int.imp (tC_ed fun _ => .int _)
theorem ed_bl {b : Bool} {j : Nat} {pos : Pos} : ED X G (.Constant (.bool b) j pos) (some b) := fun y hy => by
  cases hy; exact pe_bl.imp (tC_ed fun _ => .bl _)
theorem ed_str {b : Str} {j : Nat} {pos : Pos} : ED X G (.Constant (.str b) j pos) (some b) := fun y hy => by
  cases hy; exact pe_str.imp (tC_ed fun _ => .str _)
theorem ed_none {j : Nat} {pos : Pos} : ED X G (.Constant .none j pos) (some (none : Option α)) := fun y hy => by
  cases hy; exact pe_non.imp (tC_ed fun _ => .non)
theorem ed_unit {j : Nat} {pos : Pos} : ED X G (.Constant .none j pos) (some ()) := fun y hy => by
  cases hy; exact pe_non.imp (tC_ed fun _ => .non)

/-! ### operators -/
/-- what a rule of two values gives on data -/
def Sem2 (K : PySem.W.Frag) (r : R2) (d1 d2 d : PyData) : Prop :=
  ∀ (F : Hp) (G : List Sl) (σ : L2.St) (H I : Hp) (ps : Nat → Option Addr) (v w : V) (Q : VK), RS K F G σ H I ps → Dq I v d1 → Dq I w d2 → (∀ u H' I', Grow F I I' → RS K F G σ H' I' ps → Dq I' u d → Q u H') → r v w H Q
theorem tD_op {K : PySem.W.Frag} {r : R2} {d1 d2 d : PyData} (h : Sem2 K r d1 d2 d) (σ : L2.St) (H : Hp) (Q : VK) (t : tD K G d σ H Q) : tOp r (tD K G d1) (tD K G d2) σ H Q := by
  obtain ⟨F, I, ps, R, q⟩ := t
  refine ⟨F, I, ps, R, fun v H1 I1 g1 R1 dv => ⟨F, I1, ps, R1, fun w H2 I2 g2 R2 dw => ?_⟩⟩
  exact h F G σ H2 I2 ps v w Q R2 (Dq_mono g2.same _ _ dv) dw fun u H3 I3 g3 R3 du => q u H3 I3 (g1.trans (g2.trans g3)) R3 du
theorem ed_op2 {op : Operator} {a b : Expr} {pos : Pos} {oa : Option α} {ob : Option β} {f : α → β → Option γ} {r : R2} (ho : OpR X (binaryOp op) r) (hr : ∀ x y z, f x y = some z → Sem2 X.K r (enc x) (enc y) (enc z))
    (ha : ED X G a oa) (hb : ED X G b ob) : ED X G (.BinOp a op b pos) (bind2 f oa ob) := fun z hz => by
  obtain ⟨x, y, h1, h2, h3⟩ := bind2_get hz
  exact (pe_op ho (ha x h1) (hb y h2)).imp (tD_op (hr x y z h3))
theorem Sem2.int {K : PySem.W.Frag} {C : Int → Int → Prop} {g : Int → Int → Int} {i j : Int} (hc : C i j) : Sem2 K (rI C fun i j => .int (g i j)) (.int i) (.int j) (.int (g i j)) := by
  intro F G σ H I ps v w Q R hv hw q
  cases hv; cases hw
  exact ⟨i, j, rfl, rfl, hc, q _ _ _ Grow.refl R (.int _)⟩
theorem Sem2.int0 {K : PySem.W.Frag} {g : Int → Int → Int} {i j : Int} : Sem2 K (rI0 fun i j => .int (g i j)) (.int i) (.int j) (.int (g i j)) := by
  intro F G σ H I ps v w Q R hv hw q
  cases hv; cases hw
  exact ⟨i, j, rfl, rfl, q _ _ _ Grow.refl R (.int _)⟩
theorem Sem2.bool0 {K : PySem.W.Frag} {g : Int → Int → Bool} {i j : Int} : Sem2 K (rI0 fun i j => .bl (g i j)) (.int i) (.int j) (.bool (g i j)) := by
  intro F G σ H I ps v w Q R hv hw q
  cases hv; cases hw
  exact ⟨i, j, rfl, rfl, q _ _ _ Grow.refl R (.bl _)⟩

def mulG (i j : Int) : Option Int := if i.natAbs.log2 + j.natAbs.log2 < 1000000 then some (i * j) else none
def divG (i j : Int) : Option Int := if 0 < j ∧ j.natAbs.log2 < 9000 then some (i / j) else none
def modG (i j : Int) : Option Int := if 0 < j then some (i % j) else none
def powG (i j : Int) : Option Int := if 0 ≤ j ∧ j ≤ 1000000 ∧ i.natAbs < 2 ^ 64 then some (i ^ j.toNat) else none
theorem ite_get {α : Type} {c : Prop} [Decidable c] {x z : α} (h : (if c then some x else none) = some z) : c ∧ x = z := by
  by_cases e : c
  · rw [if_pos e] at h; exact ⟨e, Option.some.inj h⟩
  · rw [if_neg e] at h; cases h
variable {a b c : Expr} {pos : Pos} {oa ob oc : Option Int}
theorem ed_add (ha : ED X G a oa) (hb : ED X G b ob) : ED X G (.BinOp a .Add b pos) (lift2 (· + ·) oa ob) :=
  ed_op2 (f := fun i j => some (i + j)) op_add (fun x y z h => by cases h; exact Sem2.int0) ha hb
theorem ed_sub (ha : ED X G a oa) (hb : ED X G b ob) : ED X G (.BinOp a .Sub b pos) (lift2 (· - ·) oa ob) :=
  ed_op2 (f := fun i j => some (i - j)) op_sub (fun x y z h => by cases h; exact Sem2.int0) ha hb
theorem ed_mul (ha : ED X G a oa) (hb : ED X G b ob) : ED X G (.BinOp a .Mult b pos) (bind2 mulG oa ob) :=
  ed_op2 (f := mulG) op_mulW (fun x y z h => by obtain ⟨h1, h2⟩ := ite_get h; subst h2; exact Sem2.int h1) ha hb
theorem ed_fdiv (ha : ED X G a oa) (hb : ED X G b ob) : ED X G (.BinOp a .FloorDiv b pos) (bind2 divG oa ob) :=
  ed_op2 (f := divG) op_fdivW (fun x y z h => by obtain ⟨h1, h2⟩ := ite_get h; subst h2; exact Sem2.int h1) ha hb
theorem ed_mod (ha : ED X G a oa) (hb : ED X G b ob) : ED X G (.BinOp a .Mod b pos) (bind2 modG oa ob) :=
  ed_op2 (f := modG) op_mod (fun x y z h => by obtain ⟨h1, h2⟩ := ite_get h; subst h2; exact Sem2.int h1) ha hb
theorem ed_pow (ha : ED X G a oa) (hb : ED X G b ob) : ED X G (.BinOp a .Pow b pos) (bind2 powG oa ob) :=
  ed_op2 (f := powG) op_pow (fun x y z h => by obtain ⟨h1, h2⟩ := ite_get h; subst h2; exact Sem2.int h1) ha hb
theorem ed_neg (ha : ED X G a oa) : ED X G (.UnaryOp .USub a pos) (lift1 (fun i => -i) oa) := fun z hz => by
  obtain ⟨x, h1, h2⟩ := lift1_get hz
  subst h2
  refine (pe_un un_neg (ha x h1)).imp fun σ H Q ⟨F, I, ps, R, q⟩ => ⟨F, I, ps, R, fun v H' I' g R' d => ?_⟩
  cases d
  exact ⟨x, rfl, q _ _ _ g R' (.int _)⟩

/-! ### comparisons -/
theorem eb_of_ed {e : Expr} {o : Option Bool} (h : ED X G e o) (he : ∀ whole, isTrue e X.env whole = (do let v ← whole; standAt e.pos; holding [v] (truthy v)) := by intro _; rfl) : EB X G e o := fun k hk =>
  (pt_val (h k hk) he).imp fun σ H Q ⟨F, I, ps, R, q⟩ => ⟨F, I, ps, R, fun v H' I' g R' d => by cases d; exact ⟨k, rfl, q _ _ g R'⟩⟩
/-- a comparison, as a value and as a test -/
def EC (X : Cx) (G : List Sl) (op : CmpOp) (a b : Expr) (o : Option Bool) : Prop := ∀ k, o = some k → ∃ r ta tb, OpR X (compareOp op) r ∧ PE X a ta ∧ PE X b tb ∧ behindInMarks op b = false ∧ ∀ σ H Q, tD X.K G (.bool k) σ H Q → tOp r ta tb σ H Q
theorem ed_cmp {op : CmpOp} {o : Option Bool} (h : EC X G op a b o) : ED X G (.Compare a [op] [b] pos) o := fun k hk => by
  obtain ⟨r, ta, tb, h1, h2, h3, h4, h5⟩ := h k hk
  exact (pe_cmpR h1 h2 h3 h4).imp h5
theorem eb_cmp {op : CmpOp} {o : Option Bool} (h : EC X G op a b o) : EB X G (.Compare a [op] [b] pos) o := fun k hk => by
  obtain ⟨r, ta, tb, h1, h2, h3, h4, h5⟩ := h k hk
  refine (pt_cmpR h1 h2 h3 h4).imp fun σ H Q t => ?_
  refine h5 σ H _ ?_
  obtain ⟨F, I, ps, R, q⟩ := t
  exact ⟨F, I, ps, R, fun v H' I' g R' d => by cases d; exact ⟨k, rfl, q _ _ g R'⟩⟩
theorem ec_of {op : CmpOp} {r : R2} {f : α → β → Bool} {oa : Option α} {ob : Option β} (ho : OpR X (compareOp op) r) (hr : ∀ x y, Sem2 X.K r (enc x) (enc y) (.bool (f x y))) (hm : behindInMarks op b = false)
    (ha : ED X G a oa) (hb : ED X G b ob) : EC X G op a b (lift2 f oa ob) := fun k hk => by
  obtain ⟨x, y, h1, h2, h3⟩ := lift2_get hk
  subst h3
  exact ⟨r, _, _, ho, ha x h1, hb y h2, hm, tD_op (hr x y)⟩
theorem ec_lt (ha : ED X G a oa) (hb : ED X G b ob) : EC X G .Lt a b (lift2 (fun i j => decide (i < j)) oa ob) := ec_of op_lt (fun _ _ => Sem2.bool0) (nomark _) ha hb
theorem ec_le (ha : ED X G a oa) (hb : ED X G b ob) : EC X G .LtE a b (lift2 (fun i j => decide (i ≤ j)) oa ob) := ec_of op_le (fun _ _ => Sem2.bool0) (nomark _) ha hb
theorem ec_gt (ha : ED X G a oa) (hb : ED X G b ob) : EC X G .Gt a b (lift2 (fun i j => decide (j < i)) oa ob) := ec_of op_gt (fun _ _ => Sem2.bool0) (nomark _) ha hb
theorem ec_ge (ha : ED X G a oa) (hb : ED X G b ob) : EC X G .GtE a b (lift2 (fun i j => decide (j ≤ i)) oa ob) := ec_of op_ge (fun _ _ => Sem2.bool0) (nomark _) ha hb
theorem ec_eqI (ha : ED X G a oa) (hb : ED X G b ob) : EC X G .Eq a b (lift2 (fun i j => decide (i = j)) oa ob) := ec_of op_eq (fun x y => by
  intro F G σ H I ps v w Q R hv hw q
  cases hv; cases hw
  refine ⟨rfl, ?_⟩
  rw [show decide (V.int x = V.int y) = decide (x = y) by by_cases e : x = y <;> simp [e]]
  exact q _ _ _ Grow.refl R (.bl _)) (nomark _) ha hb
theorem ec_neI (ha : ED X G a oa) (hb : ED X G b ob) : EC X G .NotEq a b (lift2 (fun i j => !decide (i = j)) oa ob) := ec_of op_ne (fun x y => by
  intro F G σ H I ps v w Q R hv hw q
  cases hv; cases hw
  refine ⟨rfl, ?_⟩
  rw [show (!decide (V.int x = V.int y)) = !decide (x = y) by by_cases e : x = y <;> simp [e]]
  exact q _ _ _ Grow.refl R (.bl _)) (nomark _) ha hb
theorem ec_eqB {oa ob : Option Bool} (ha : ED X G a oa) (hb : ED X G b ob) : EC X G .Eq a b (lift2 (fun i j => i == j) oa ob) := ec_of op_eq (fun x y => by
  intro F G σ H I ps v w Q R hv hw q
  cases hv; cases hw
  refine ⟨rfl, ?_⟩
  rw [show decide (V.bl x = V.bl y) = (x == y) by cases x <;> cases y <;> rfl]
  exact q _ _ _ Grow.refl R (.bl _)) (nomark _) ha hb
theorem ec_neB {oa ob : Option Bool} (ha : ED X G a oa) (hb : ED X G b ob) : EC X G .NotEq a b (lift2 (fun i j => i != j) oa ob) := ec_of op_ne (fun x y => by
  intro F G σ H I ps v w Q R hv hw q
  cases hv; cases hw
  refine ⟨rfl, ?_⟩
  rw [show (!decide (V.bl x = V.bl y)) = (x != y) by cases x <;> cases y <;> rfl]
  exact q _ _ _ Grow.refl R (.bl _)) (nomark _) ha hb
theorem ec_eqS {oa ob : Option Str} (ha : ED X G a oa) (hb : ED X G b ob) : EC X G .Eq a b (lift2 (fun i j => decide (i = j)) oa ob) := ec_of op_eq (fun x y => by
  intro F G σ H I ps v w Q R hv hw q
  cases hv; cases hw
  refine ⟨rfl, ?_⟩
  rw [show decide (V.str x = V.str y) = decide (x = y) by by_cases e : x = y <;> simp [e]]
  exact q _ _ _ Grow.refl R (.bl _)) (nomark _) ha hb
theorem ec_neS {oa ob : Option Str} (ha : ED X G a oa) (hb : ED X G b ob) : EC X G .NotEq a b (lift2 (fun i j => !decide (i = j)) oa ob) := ec_of op_ne (fun x y => by
  intro F G σ H I ps v w Q R hv hw q
  cases hv; cases hw
  refine ⟨rfl, ?_⟩
  rw [show (!decide (V.str x = V.str y)) = !decide (x = y) by by_cases e : x = y <;> simp [e]]
  exact q _ _ _ Grow.refl R (.bl _)) (nomark _) ha hb

/-- a < b < c -/
def chainG (f g : Int → Int → Bool) (oa ob oc : Option Int) : Option Bool := oa.bind fun x => ob.bind fun y => bif f x y then oc.bind (fun z => some (g y z)) else some false
theorem pe_never {e : Expr} : PE X e (fun _ _ _ => False) := ⟨fun _ _ _ _ _ _ h => h.elim⟩
theorem tD_chain {r r' : R2} {f g : Int → Int → Bool} (hr : ∀ x y : Int, Sem2 X.K r (enc x) (enc y) (.bool (f x y))) (hr' : ∀ x y : Int, Sem2 X.K r' (enc x) (enc y) (.bool (g x y))) {tc : TE} {x y : Int} {k : Bool}
    (h : (f x y = true ∧ ∃ z, tc = tD X.K G (enc z) ∧ k = g y z) ∨ (f x y = false ∧ k = false)) (σ : L2.St) (H : Hp) (Q : VK) (t : tD X.K G (.bool k) σ H Q) : tChain r r' (tD X.K G (enc x)) (tD X.K G (enc y)) tc σ H Q := by
  obtain ⟨F, I, ps, R, q⟩ := t
  refine ⟨F, I, ps, R, fun v H1 I1 g1 R1 dv => ⟨F, I1, ps, R1, fun w H2 I2 g2 R2 dw => ?_⟩⟩
  refine hr x y F G σ H2 I2 ps v w _ R2 (Dq_mono g2.same _ _ dv) dw fun u H3 I3 g3 R3 du => ?_
  cases du
  refine ⟨f x y, rfl, ?_⟩
  rcases h with ⟨hf, z, rfl, rfl⟩ | ⟨hf, rfl⟩
  · rw [hf, if_pos rfl]
    refine ⟨F, I3, ps, R3, fun w' H4 I4 g4 R4 dw' => ?_⟩
    exact hr' y z F G σ H4 I4 ps w w' Q R4 (Dq_mono (g3.same.trans g4.same) _ _ dw) dw' fun u H5 I5 g5 R5 du => q u H5 I5 (g1.trans (g2.trans (g3.trans (g4.trans g5)))) R5 du
  · rw [hf, if_neg (by decide)]
    exact q _ _ _ (g1.trans (g2.trans g3)) R3 (.bl _)
theorem chainG_get {f g : Int → Int → Bool} {k : Bool} (hk : chainG f g oa ob oc = some k) : ∃ x y, oa = some x ∧ ob = some y ∧ ((f x y = true ∧ ∃ z, oc = some z ∧ k = g y z) ∨ (f x y = false ∧ k = false)) := by
  unfold chainG at hk
  obtain ⟨x, h1, hk⟩ := bind_get hk
  obtain ⟨y, h2, hk⟩ := bind_get hk
  refine ⟨x, y, h1, h2, ?_⟩
  cases hf : f x y with
  | true =>
    rw [hf, cond_true] at hk
    obtain ⟨z, h3, hk⟩ := bind_get hk
    cases hk
    exact .inl ⟨rfl, z, h3, rfl⟩
  | false =>
    rw [hf, cond_false] at hk
    cases hk
    exact .inr ⟨rfl, rfl⟩
theorem ed_chain {op op' : CmpOp} {r r' : R2} {f g : Int → Int → Bool} (ho : OpR X (compareOp op) r) (ho' : OpR X (compareOp op') r') (hr : ∀ x y : Int, Sem2 X.K r (enc x) (enc y) (.bool (f x y))) (hr' : ∀ x y : Int, Sem2 X.K r' (enc x) (enc y) (.bool (g x y)))
    (hm : lastMarks [op, op'] [b, c] = false) (ha : ED X G a oa) (hb : ED X G b ob) (hc : ED X G c oc) : ED X G (.Compare a [op, op'] [b, c] pos) (chainG f g oa ob oc) := fun k hk => by
  obtain ⟨x, y, h1, h2, h⟩ := chainG_get hk
  rcases h with ⟨hf, z, h3, e⟩ | ⟨hf, e⟩
  · exact (pe_chain ho ho' (ha x h1) (hb y h2) (hc z h3) hm).imp (tD_chain hr hr' (.inl ⟨hf, z, rfl, e⟩))
  · exact (pe_chain ho ho' (ha x h1) (hb y h2) pe_never hm).imp (tD_chain hr hr' (.inr ⟨hf, e⟩))
theorem eb_chain {op op' : CmpOp} {r r' : R2} {f g : Int → Int → Bool} (ho : OpR X (compareOp op) r) (ho' : OpR X (compareOp op') r') (hr : ∀ x y : Int, Sem2 X.K r (enc x) (enc y) (.bool (f x y))) (hr' : ∀ x y : Int, Sem2 X.K r' (enc x) (enc y) (.bool (g x y)))
    (hm : lastMarks [op, op'] [b, c] = false) (ha : ED X G a oa) (hb : ED X G b ob) (hc : ED X G c oc) : EB X G (.Compare a [op, op'] [b, c] pos) (chainG f g oa ob oc) := fun k hk => by
  obtain ⟨x, y, h1, h2, h⟩ := chainG_get hk
  have fin : ∀ σ H Q, tB X.K G k σ H Q → tD X.K G (.bool k) σ H (fun x H' => ∃ k, x = .bl k ∧ Q k H') := fun σ H Q ⟨F, I, ps, R, q⟩ => ⟨F, I, ps, R, fun v H' I' g R' d => by cases d; exact ⟨k, rfl, q _ _ g R'⟩⟩
  rcases h with ⟨hf, z, h3, e⟩ | ⟨hf, e⟩
  · exact (pt_chain ho ho' (ha x h1) (hb y h2) (hc z h3) hm).imp fun σ H Q t => tD_chain hr hr' (.inl ⟨hf, z, rfl, e⟩) σ H _ (fin σ H Q t)
  · exact (pt_chain ho ho' (ha x h1) (hb y h2) pe_never hm).imp fun σ H Q t => tD_chain hr hr' (.inr ⟨hf, e⟩) σ H _ (fin σ H Q t)
abbrev cLt : Int → Int → Bool := fun i j => decide (i < j)
abbrev cLe : Int → Int → Bool := fun i j => decide (i ≤ j)
theorem ed_chLeLe (hm : lastMarks [.LtE, .LtE] [b, c] = false) (ha : ED X G a oa) (hb : ED X G b ob) (hc : ED X G c oc) : ED X G (.Compare a [.LtE, .LtE] [b, c] pos) (chainG cLe cLe oa ob oc) := ed_chain op_le op_le (fun _ _ => Sem2.bool0) (fun _ _ => Sem2.bool0) hm ha hb hc
theorem ed_chLeLt (hm : lastMarks [.LtE, .Lt] [b, c] = false) (ha : ED X G a oa) (hb : ED X G b ob) (hc : ED X G c oc) : ED X G (.Compare a [.LtE, .Lt] [b, c] pos) (chainG cLe cLt oa ob oc) := ed_chain op_le op_lt (fun _ _ => Sem2.bool0) (fun _ _ => Sem2.bool0) hm ha hb hc
theorem ed_chLtLe (hm : lastMarks [.Lt, .LtE] [b, c] = false) (ha : ED X G a oa) (hb : ED X G b ob) (hc : ED X G c oc) : ED X G (.Compare a [.Lt, .LtE] [b, c] pos) (chainG cLt cLe oa ob oc) := ed_chain op_lt op_le (fun _ _ => Sem2.bool0) (fun _ _ => Sem2.bool0) hm ha hb hc
theorem ed_chLtLt (hm : lastMarks [.Lt, .Lt] [b, c] = false) (ha : ED X G a oa) (hb : ED X G b ob) (hc : ED X G c oc) : ED X G (.Compare a [.Lt, .Lt] [b, c] pos) (chainG cLt cLt oa ob oc) := ed_chain op_lt op_lt (fun _ _ => Sem2.bool0) (fun _ _ => Sem2.bool0) hm ha hb hc
theorem eb_chLeLe (hm : lastMarks [.LtE, .LtE] [b, c] = false) (ha : ED X G a oa) (hb : ED X G b ob) (hc : ED X G c oc) : EB X G (.Compare a [.LtE, .LtE] [b, c] pos) (chainG cLe cLe oa ob oc) := eb_chain op_le op_le (fun _ _ => Sem2.bool0) (fun _ _ => Sem2.bool0) hm ha hb hc
theorem eb_chLeLt (hm : lastMarks [.LtE, .Lt] [b, c] = false) (ha : ED X G a oa) (hb : ED X G b ob) (hc : ED X G c oc) : EB X G (.Compare a [.LtE, .Lt] [b, c] pos) (chainG cLe cLt oa ob oc) := eb_chain op_le op_lt (fun _ _ => Sem2.bool0) (fun _ _ => Sem2.bool0) hm ha hb hc
theorem eb_chLtLe (hm : lastMarks [.Lt, .LtE] [b, c] = false) (ha : ED X G a oa) (hb : ED X G b ob) (hc : ED X G c oc) : EB X G (.Compare a [.Lt, .LtE] [b, c] pos) (chainG cLt cLe oa ob oc) := eb_chain op_lt op_le (fun _ _ => Sem2.bool0) (fun _ _ => Sem2.bool0) hm ha hb hc
theorem eb_chLtLt (hm : lastMarks [.Lt, .Lt] [b, c] = false) (ha : ED X G a oa) (hb : ED X G b ob) (hc : ED X G c oc) : EB X G (.Compare a [.Lt, .Lt] [b, c] pos) (chainG cLt cLt oa ob oc) := eb_chain op_lt op_lt (fun _ _ => Sem2.bool0) (fun _ _ => Sem2.bool0) hm ha hb hc
/-! ### is None -/
def isNoneD : PyData → Bool
  | .none => true
  | _ => false
theorem Dq.non_iff {H : Hp} {v : V} {d : PyData} (h : Dq H v d) : decide (v = .non) = isNoneD d := by
  cases h <;> rfl
class NonNone (α : Type) [Enc α] : Prop where
  ne : ∀ x : α, enc x ≠ PyData.none
instance : NonNone Int := ⟨fun _ h => by cases h⟩
instance : NonNone Bool := ⟨fun _ h => by cases h⟩
instance : NonNone Str := ⟨fun _ h => by cases h⟩
instance {α : Type} [Enc α] : NonNone (List α) := ⟨fun _ h => by cases h⟩
instance {α : Type} [Enc α] : NonNone (Tup α) := ⟨fun _ h => by cases h⟩
instance {α β : Type} [Enc α] [Enc β] : NonNone (T2 α β) := ⟨fun _ h => by cases h⟩
instance {α β γ : Type} [Enc α] [Enc β] [Enc γ] : NonNone (T3 α β γ) := ⟨fun _ h => by cases h⟩
instance {α β γ δ : Type} [Enc α] [Enc β] [Enc γ] [Enc δ] : NonNone (T4 α β γ δ) := ⟨fun _ h => by cases h⟩
theorem isN_enc {α : Type} [Enc α] [NonNone α] (o : Option α) : isNoneD (enc o) = o.isNone := by
  cases o with
  | none => rfl
  | some x =>
    have h := NonNone.ne x
    show isNoneD (enc x) = false
    cases e : (enc x : PyData) <;> first | rfl | exact absurd e h
theorem ec_isN [NonNone α] {o : Option (Option α)} {j pos'} (ha : ED X G a o) : EC X G .Is a (.Constant .none j pos') (lift1 Option.isNone o) := fun k hk => by
  obtain ⟨x, h1, h2⟩ := lift1_get hk
  refine ⟨_, _, _, op_isN, ha x h1, pe_non, nomark _, fun σ H Q ⟨F, I, ps, R, q⟩ => ⟨F, I, ps, R, fun v H' I' g R' d => ⟨rfl, ?_⟩⟩⟩
  rw [d.non_iff, isN_enc, h2]
  exact q _ _ _ g R' (.bl _)
theorem ec_notN [NonNone α] {o : Option (Option α)} {j pos'} (ha : ED X G a o) : EC X G .IsNot a (.Constant .none j pos') (lift1 Option.isSome o) := fun k hk => by
  obtain ⟨x, h1, h2⟩ := lift1_get hk
  refine ⟨_, _, _, op_notN, ha x h1, pe_non, nomark _, fun σ H Q ⟨F, I, ps, R, q⟩ => ⟨F, I, ps, R, fun v H' I' g R' d => ⟨rfl, ?_⟩⟩⟩
  rw [d.non_iff, isN_enc]
  rw [show (!x.isNone) = k by rw [← h2]; cases x <;> rfl]
  exact q _ _ _ g R' (.bl _)

/-! ### and, or, not, if-else -/
theorem ew_and1 {o : Option Bool} (h : EB X G a o) : EW X G (.BoolOp .And [a] pos) o := fun k hk => pw_and1 (h k hk)
theorem ew_or1 {o : Option Bool} (h : EB X G a o) : EW X G (.BoolOp .Or [a] pos) o := fun k hk => pw_or1 (h k hk)
def andG (o p : Option Bool) : Option Bool := o.bind fun x => bif x then p else some false
def orG (o p : Option Bool) : Option Bool := o.bind fun x => bif x then some true else p
@[simp] theorem andG_some (x : Bool) (p : Option Bool) : andG (some x) p = bif x then p else some false := rfl
@[simp] theorem orG_some (x : Bool) (p : Option Bool) : orG (some x) p = bif x then some true else p := rfl
theorem pw_never {e : Expr} : PW X e (fun _ _ _ => False) := ⟨fun _ _ _ _ _ _ _ h => h.elim⟩
theorem pt_never {e : Expr} : PT X e (fun _ _ _ => False) := ⟨fun _ _ _ _ _ _ h => h.elim⟩
theorem ew_and {rest : List Expr} {o p : Option Bool} (h : EB X G a o) (h' : EW X G (.BoolOp .And (b :: rest) pos) p) : EW X G (.BoolOp .And (a :: b :: rest) pos) (andG o p) := fun k hk => by
  obtain ⟨x, h1, hk⟩ := bind_get hk
  cases x with
  | true =>
    exact (pw_and (h _ h1) (h' k hk)).imp fun σ H Q ⟨F, I, ps, R, q⟩ => ⟨F, I, ps, R, fun H' I' g R' => iteT (⟨F, I', ps, R', fun H2 I2 g2 R2 => q _ _ (g.trans g2) R2⟩)⟩
  | false =>
    cases hk
    exact (pw_and (h _ h1) pw_never).imp fun σ H Q ⟨F, I, ps, R, q⟩ => ⟨F, I, ps, R, fun H' I' g R' => iteF (q _ _ g R')⟩
theorem ew_or {rest : List Expr} {o p : Option Bool} (h : EB X G a o) (h' : EW X G (.BoolOp .Or (b :: rest) pos) p) : EW X G (.BoolOp .Or (a :: b :: rest) pos) (orG o p) := fun k hk => by
  obtain ⟨x, h1, hk⟩ := bind_get hk
  cases x with
  | false =>
    exact (pw_or (h _ h1) (h' k hk)).imp fun σ H Q ⟨F, I, ps, R, q⟩ => ⟨F, I, ps, R, fun H' I' g R' => iteF (⟨F, I', ps, R', fun H2 I2 g2 R2 => q _ _ (g.trans g2) R2⟩)⟩
  | true =>
    cases hk
    exact (pw_or (h _ h1) pw_never).imp fun σ H Q ⟨F, I, ps, R, q⟩ => ⟨F, I, ps, R, fun H' I' g R' => iteT (q _ _ g R')⟩
theorem eb_bool {e : Expr} {o : Option Bool} (h : EW X G e o) : EB X G e o := fun k hk => (h k hk).pt
theorem eb_not {o : Option Bool} (h : EB X G a o) : EB X G (.UnaryOp .Not a pos) (lift1 (fun x => !x) o) := fun k hk => by
  obtain ⟨x, h1, h2⟩ := lift1_get hk
  subst h2
  exact (pt_not (h x h1)).imp fun σ H Q ⟨F, I, ps, R, q⟩ => ⟨F, I, ps, R, fun H' I' g R' => q _ _ g R'⟩
theorem ed_one {op} {e : Expr} {o : Option α} (h : ED X G e o) : ED X G (.BoolOp op [e] pos) o := fun k hk => pe_one (h k hk)
theorem ed_and {rest : List Expr} {o p : Option Bool} (h : ED X G a o) (h' : ED X G (.BoolOp .And (b :: rest) pos) p) : ED X G (.BoolOp .And (a :: b :: rest) pos) (andG o p) := fun k hk => by
  obtain ⟨x, h1, hk⟩ := bind_get hk
  cases x with
  | true =>
    exact (pe_and (h _ h1) (h' k hk)).imp fun σ H Q ⟨F, I, ps, R, q⟩ => ⟨F, I, ps, R, fun v H' I' g R' d => by
      cases d
      exact ⟨true, rfl, iteT ⟨F, I', ps, R', fun v H2 I2 g2 R2 d => q _ _ _ (g.trans g2) R2 d⟩⟩⟩
  | false =>
    cases hk
    exact (pe_and (h _ h1) pe_never).imp fun σ H Q ⟨F, I, ps, R, q⟩ => ⟨F, I, ps, R, fun v H' I' g R' d => by
      cases d
      exact ⟨false, rfl, iteF (q _ _ _ g R' (.bl _))⟩⟩
theorem ed_or {rest : List Expr} {o p : Option Bool} (h : ED X G a o) (h' : ED X G (.BoolOp .Or (b :: rest) pos) p) : ED X G (.BoolOp .Or (a :: b :: rest) pos) (orG o p) := fun k hk => by
  obtain ⟨x, h1, hk⟩ := bind_get hk
  cases x with
  | false =>
    exact (pe_or (h _ h1) (h' k hk)).imp fun σ H Q ⟨F, I, ps, R, q⟩ => ⟨F, I, ps, R, fun v H' I' g R' d => by
      cases d
      exact ⟨false, rfl, iteF ⟨F, I', ps, R', fun v H2 I2 g2 R2 d => q _ _ _ (g.trans g2) R2 d⟩⟩⟩
  | true =>
    cases hk
    exact (pe_or (h _ h1) pe_never).imp fun σ H Q ⟨F, I, ps, R, q⟩ => ⟨F, I, ps, R, fun v H' I' g R' d => by
      cases d
      exact ⟨true, rfl, iteT (q _ _ _ g R' (.bl _))⟩⟩
theorem ed_not {o : Option Bool} (h : ED X G a o) : ED X G (.UnaryOp .Not a pos) (lift1 (fun x => !x) o) := fun k hk => by
  obtain ⟨x, h1, h2⟩ := lift1_get hk
  subst h2
  exact (pe_not (h x h1)).imp fun σ H Q ⟨F, I, ps, R, q⟩ => ⟨F, I, ps, R, fun v H' I' g R' d => by cases d; exact ⟨x, rfl, q _ _ _ g R' (.bl _)⟩⟩
theorem ed_if {t : Expr} {oc : Option Bool} {oa ob : Option α} (hc : EB X G t oc) (ha : ED X G a oa) (hb : ED X G b ob) : ED X G (.IfExp t a b pos) (oc.bind fun c => bif c then oa else ob) := fun k hk => by
  obtain ⟨x, h1, hk⟩ := bind_get hk
  cases x with
  | true =>
    exact (pe_ifExp (hc _ h1) (ha k hk) pe_never).imp fun σ H Q ⟨F, I, ps, R, q⟩ => ⟨F, I, ps, R, fun H' I' g R' => iteT (⟨F, I', ps, R', fun v H2 I2 g2 R2 d => q _ _ _ (g.trans g2) R2 d⟩)⟩
  | false =>
    exact (pe_ifExp (hc _ h1) pe_never (hb k hk)).imp fun σ H Q ⟨F, I, ps, R, q⟩ => ⟨F, I, ps, R, fun H' I' g R' => iteF (⟨F, I', ps, R', fun v H2 I2 g2 R2 d => q _ _ _ (g.trans g2) R2 d⟩)⟩
end
end Lay

set_option Elab.async false
set_option linter.all false
set_option maxRecDepth 100000
/-! Lay3: defs with the guards told (repr wants them), their calls, the law's end. -/
namespace Lay
open PySem PySem.Spec PyProof.Rows L2
open Lay.Enc (enc)

section
variable (P : Program) (w : World) (K : PySem.W.Frag) (mg : Str → Option Value) (base : Heap) (CX : CXT)
/-- a def's promise at depth k, where no guarded builtin runs around -/
structure FnG (k : Nat) (f : Addr) (fd : FuncData) (ps : List Str) (sp : Sp) : Prop where
  ar : ∀ vs H Q E, sp vs H Q E → vs.length = ps.length
  go : ∀ (A : Around) (out : List Env) (s : Shared) (H : Hp) (args : Args) (us : List Value) (vs : List V) (Q : VK) (E : XK), A.guards = some [] → Room k A → Env0 P w K mg base A out s H →
    BindsTo s fd args (ps.zip us) → Vals vs us → sp vs H Q E → codeAny (model P w) A (.call (.ref f) args) (CR CX out P w H s Q E) s
end
section
variable {P : Program} {w : World} {K : PySem.W.Frag} {mg : Str → Option Value} {base : Heap} {CX : CXT}
theorem FnG.up {j k : Nat} {f : Addr} {fd : FuncData} {ps : List Str} {sp : Sp} (F : FnG P w K mg base CX j f fd ps sp) (h : j ≤ k) : FnG P w K mg base CX k f fd ps sp :=
  ⟨F.ar, fun A out s H args us vs Q E g r => F.go A out s H args us vs Q E g (r.mono h)⟩
/-- the def x of the text, by its body -/
theorem fnG {x qual : Str} {st : Stmt} {f : Addr} {fd : FuncData} {N ps : List Str} {k : Nat} {sp : Sp} (F : Fun K x qual st f fd) (S : FnScope N ps (defScope st)) (ar : ∀ vs H Q E, sp vs H Q E → vs.length = ps.length)
    (body : ∀ (cd : Value) (A : Around) (out : List Env) (s : Shared) (H : Hp) (vs : List V) (Q : VK) (E : XK), A.guards = some [] → Room k (A.deeper (envOfC qual (defScope st) s.heap.objs.size f cd)) → sp vs H Q E →
      ∃ t, PSs (cxOf CX P w K mg base N qual (defScope st) f cd A out s H E) (defBody st) t ∧ t { nx := fun _ H' => Q .non H', rt := Q } (start N vs) H) : FnG P w K mg base CX (k + 1) f fd ps sp := by
  obtain ⟨oc, od, kv, dc, pm, an, cd, ct, sl, e, lk, hc⟩ := F.ex
  subst e
  refine ⟨ar, fun A out s H args us vs Q E gd rm en bd rv hs => ?_⟩
  have len := ar _ _ _ _ hs
  have kin : K.In s.heap := en.mod.kin.keeps fun b o e => (en.bs b o e).1
  have nol : s.heap.NoLimit := en.mod.nolimit.keeps fun b o e => (en.bs b o e).1
  refine codeAny_call_function rm.depth (kin _ _ lk) rfl S.co S.gen rfl (PySem.W.codeRec_of kin hc) (bd _ _ _ _ (wpAny_newFunctionEnv_cells S.kind (fun y hy => ?_) fun env he s1 ic => ?_))
  · rcases S.par y.1 (List.of_mem_zip (a := y.1) (b := y.2) hy).1 with q | q
    · exact Or.inl q
    · exact Or.inr ⟨q, PySem.W.cellsFrom_some _ _ _ (Or.inl q)⟩
  · subst he
    obtain ⟨t, pt, tq⟩ := body cd A out s H vs Q E gd (rm.deeper _) hs
    refine ⟨nol.keeps ic.toInCall.keep, codeAny_func (wpAny_mono (pt.run [] s1 (start N vs) H _ (inv_start S rm.hd en len rv ic) tq) (fun fl s2 hq => ?_) fun _ _ z => z)⟩
    cases fl with
    | ret u => exact let ⟨v, _, H', J, r, q⟩ := hq; ⟨v, H', J.os, J.bare, J.base, J.hok, r, q⟩
    | next => exact let ⟨_, H', J, q⟩ := hq; ⟨V.non, H', J.os, J.bare, J.base, J.hok, rfl, q⟩
    | brk => exact let ⟨_, _, _, q⟩ := hq; False.elim q
    | cont => exact let ⟨_, _, _, q⟩ := hq; False.elim q
end

/-! ### the call of a def -/
/-- what is known of a def that is called: it stands at x, keeps its promise at depth k -/
structure Cal (P : Program) (w : World) (K : PySem.W.Frag) (mg : Str → Option Value) (base : Heap) (CX : CXT) (k : Nat) (x : Str) (ps : List Str) (sp : Sp) : Prop where
  ex : ∃ f fd, FnG P w K mg base CX k f fd ps sp ∧ mg x = some (.ref f) ∧ PySem.W.keepIn K (.ref f) = true ∧ Binds K fd ps []
theorem Cal.up {P : Program} {w : World} {K : PySem.W.Frag} {mg : Str → Option Value} {base : Heap} {CX : CXT} {j k : Nat} {x : Str} {ps : List Str} {sp : Sp} (C : Cal P w K mg base CX j x ps sp) (h : j ≤ k) : Cal P w K mg base CX k x ps sp :=
  let ⟨f, fd, F, a, b, c⟩ := C.ex; ⟨f, fd, F.up h, a, b, c⟩
section
variable {X : Cx} {CX : CXT} {k : Nat} {x : Str} {ps : List Str} {sp : Sp} {E : XK} {e : Expr} {es : List Expr} {t : TA} {p pos : Pos}
theorem glbB_gl {sc : Scope} (hs : X.env.scope = sc) (h : glbB sc x = true) : Gl X x ∧ (x == ("__debug__" : Str)) = false := by
  unfold glbB at h
  simp only [Bool.and_eq_true, Bool.not_eq_true'] at h
  refine ⟨?_, h.2⟩
  show X.env.scope.names.lookup x = _
  rw [hs]
  have h1 := h.1
  split at h1
  · assumption
  · cases h1
theorem run_call {pins : List (Addr × Obj)} {σ : L2.St} {H : Hp} {s : Shared} {Q : VK} {f : Addr} {fd : FuncData} {us : List Value} {vs : List V} (F : FnG X.prog X.w X.K X.mg X.base CX k f fd ps sp) (gd : X.A.guards = some []) (rm : Room k X.A) (bd : Binds X.K fd ps []) (hx : Passes CX X E)
    (I : Inv X pins σ H s) (rv : Vals vs us) (h : sp vs H Q E) : wpAny (model X.prog X.w) X.A (call (.ref f) us) (EP X pins σ Q) X.xe s := by
  have hn : (us ++ []).length = ps.length := by rw [List.append_nil, ← rv.length]; exact F.ar _ _ _ _ h
  have hb := bd s us I.kIn hn
  rw [List.append_nil] at hb
  refine wpAny_call (codeAny_mono (F.go X.A X.stack s H ⟨us, []⟩ us vs Q E gd rm I.env0 hb rv h) fun r s2 hq => ?_)
  match r, hq with
  | .error e, hq => exact hx pins σ H s e s2 I hq
  | .ok (.ret u), hq => exact I.after hq
theorem pe_callG {sc : Scope} (C : Cal X.prog X.w X.K X.mg X.base CX k x ps sp) (gd : X.A.guards = some []) (rm : Room k X.A) (hs : X.env.scope = sc) (hg : glbB sc x = true) (hx : Passes CX X E) (ha : PA X (e :: es) t)
    (he : starEach (e :: es) X.env = (false, eval e X.env) :: starEach es X.env := by rfl) (hp : (backTo pos (starEach es X.env)).any (·.1) = false := by rfl) :
    PE X (.Call (.Name x p) (e :: es) [] pos) (fun σ H Q => t σ H fun vs H1 => sp vs H1 Q E) := by
  obtain ⟨f, fd, F, hm, hk, bd⟩ := C.ex
  obtain ⟨gl, db⟩ := glbB_gl hs hg
  refine ⟨fun pins s σ H Q I h => wpAny_Call_Name_kw (ld_glob I gl hm ?_ db)⟩
  refine PySem.W.callWith_K (h₀ := X.base) I.ok.mod.kin hk (thn (ha.run pos pins s σ H _ I h) fun us s1 a => ?_) he hp
  obtain ⟨vs, H1, I1, rv, q⟩ := a
  exact ⟨I1.kIn, run_call F gd rm bd hx I1 rv q⟩
end

/-! ### the law's end -/
section
variable {P : Program} {w : World} {K : PySem.W.Frag} {mg mb : Str → Option Value} {k : Nat} {fa a : Addr} {fd : FuncData} {x : Str} {sp : Sp} {s1 : Shared} {vs : List Value} {ns : List Int}
/-- what must hold of the abstract heap at the law's entry: at most the script is tracked -/
structure Entry (K : PySem.W.Frag) (s1 : Shared) (a : Addr) (ns : List Int) (H : Hp) (P : Program) (w : World) : Prop where
  only : Only H
  seq : SqL K H a (ns.map V.int)
  ok : HOk P w H s1.heap
  just : ∀ b u, H b = some u → b = a
  nk : ∀ u, H a = some u → K.lookup a = none
theorem entry_ex (kx : K.In s1.heap) (ha : s1.heap.get? a = some { cls := .type "list", data := .seq vs.toArray }) (hi : IntsAre vs ns) (hl : ns.length ≤ sizeLine) : ∃ H, Entry K s1 a ns H P w := by
  have rv := vals_ints hi
  have ln := hi.length
  cases q : K.lookup a with
  | some o =>
    have e : some o = _ := (kx a o q).symm.trans ha
    cases e
    refine ⟨fun _ => none, fun _ => Or.inl rfl, Or.inr ⟨_, vs.toArray, _, q, rfl, rfl, rfl, ?_, by simpa using rv⟩, fun b u z => (nomatch z), fun b u z => (nomatch z), fun u z => (nomatch z)⟩
    rw [List.size_toArray, ln]; exact hl
  | none =>
    let ob : Obj := { cls := .type "list", data := .seq vs.toArray }
    have at1 : ∀ {b u}, (if b = a then some (HO.frz ob (.lst (ns.map V.int))) else none) = some u → b = a ∧ u = HO.frz ob (.lst (ns.map V.int)) := fun {b u} z => by
      by_cases c : b = a
      · rw [if_pos c] at z; exact ⟨c, (Option.some.inj z).symm⟩
      · rw [if_neg c] at z; cases z
    refine ⟨fun b => if b = a then some (.frz ob (.lst (ns.map V.int))) else none, fun b => ?_, Or.inl (Or.inr ⟨ob, if_pos rfl⟩), fun b u z => ?_, fun b u z => (at1 z).1, fun _ _ => q⟩
    · by_cases c : b = a
      · exact Or.inr ⟨_, _, if_pos c⟩
      · exact Or.inl (if_neg c)
    · obtain ⟨rfl, rfl⟩ := at1 z
      exact ⟨ha, by rw [List.length_map]; exact hl, vs, _, rv, ha⟩
theorem law_end (kx : K.In s1.heap) (hns : s1.heap.Ns mainGlobals mg) (hb : s1.heap.Ns builtinsNs mb) (hbb : ∀ x : Str, x ≠ "__name__" → mb x = bootBuiltins x) (hlim : s1.heap.NoLimit) (hg : s1.gens = #[])
    (ha : s1.heap.get? a = some { cls := .type "list", data := .seq vs.toArray }) (hi : IntsAre vs ns) (hl : ns.length ≤ sizeLine) (hr : Room k callerA)
    (F : ∀ base : Heap, K.In base → base.Ns mainGlobals mg → FnG P w K mg base CX0 k fa fd [x] sp) (bind : ∀ (s : Shared) (u : Value), BindsTo s fd ⟨[u], []⟩ [(x, u)])
    (hsp : ∀ H : Hp, Only H → SqL K H a (ns.map V.int) → sp [.ref a] H (fun v _ => v = .bl true) fun _ _ _ => False) :
    codeAny (model P w) callerA (.call (.ref fa) ⟨[.ref a], []⟩) (fun r s' => r = .ok (.ret (.bool true)) ∧ OldK s1.heap s'.heap ∧ s'.os = s1.os ∧ AllBare s'.gens) s1 := by
  obtain ⟨H, en⟩ := entry_ex (P := P) (w := w) kx ha hi hl
  -- the heap without the script is the base
  have out : ∀ {b : Addr} {o : Obj}, s1.heap.get? b = some o → (∀ u, H b ≠ some u) → (hidT s1.heap H).get? b = some o := fun {b o} e n => hidT_get e (by
    cases q : H b with
    | none => rfl
    | some u => exact absurd q (n u))
  have dict : ∀ {b : Addr} {o : Obj} {es : Array DictEntry} {ep : Nat}, s1.heap.get? b = some o → o.data = .dict es ep → ∀ u, H b ≠ some u := fun {b o es ep} e d u q => by
    have := en.just b u q
    subst this
    rw [ha] at e; cases e; cases d
  have ns1 : ∀ {b : Addr} {m : Str → Option Value}, s1.heap.Ns b m → (hidT s1.heap H).Ns b m := fun ⟨o, es, ep, e, d, r⟩ => ⟨o, es, ep, out e (dict e d), d, r⟩
  have kb : K.In (hidT s1.heap H) := fun b o e => out (kx b o e) fun u q => by
    have := en.just b u q
    subst this
    rw [en.nk u q] at e; cases e
  obtain ⟨ml, l1, l2⟩ := hlim
  have md : Mod K mg (hidT s1.heap H) := ⟨kb, ns1 hns, ⟨mb, ns1 hb, hbb⟩, ⟨ml, ns1 l1, l2⟩⟩
  have e0 : Env0 P w K mg (hidT s1.heap H) callerA [] s1 H := ⟨rfl, md, fun b o e => of_hidT e, Nat.le_of_eq (hidT_size _ _), trivial, fun b z => (nomatch (show b ∈ ([] : List Addr) from z)), en.ok, .of_eq hg⟩
  refine codeAny_mono ((F _ kb (ns1 hns)).go callerA [] s1 H ⟨[.ref a], []⟩ [.ref a] [.ref a] _ _ rfl hr e0 (bind s1 (.ref a)) (.cons rfl .nil) (hsp H en.only en.seq)) fun r s2 h => ?_
  match r, h with
  | .error e, h => exact False.elim h
  | .ok (.ret u), h =>
    obtain ⟨v, H2, os, bare, un, ok2, rel, q⟩ := h
    have q : v = .bl true := q
    subst q
    have rel : u = Value.bool true := rel
    subst rel
    refine ⟨rfl, OldK.of_keep fun b o e => ?_, os, bare⟩
    cases q : H b with
    | none => exact un.keep b o e q (fun z => (nomatch (show b ∈ ([] : List Addr) from z))) (fun z => (nomatch z))
    | some u =>
      rcases en.only b with z | ⟨o1, xs, z⟩
      · rw [z] at q; cases q
      · have h1 := (en.ok b _ z).1
        have h2 := (ok2 b _ (un.frzs b o1 _ z)).1
        rw [e] at h1; cases h1
        exact h2
end
theorem law_walk {l : PySem.W.OpenLaw} {n k : Nat} {q : Program} {loose : List Str} {XP : (Str → Option Value) → Heap → Prop} {YP : World → Heap → Prop} {d : DefRec} {K : Params → PySem.W.Frag} {sp : PySem.W.Frag → Sp} {x : Str}
    (hn : l.most = some n) (hn2 : n ≤ sizeLine) (hdf : d.params.defaults = []) (hr : Room k callerA) (hY : ∀ (w : World) (h : Heap), YP w h → (K w.params).In h)
    (F : ∀ (w : World) (mg : Str → Option Value) (fa : Addr) (h : Heap), (K w.params).In h → h.Ns mainGlobals mg → mg d.name = some (.ref fa) →
      ∃ fd : FuncData, (∀ (s : Shared) (u : Value), BindsTo s fd ⟨[u], []⟩ [(x, u)]) ∧ ∀ base : Heap, (K w.params).In base → base.Ns mainGlobals mg → FnG l.prog w (K w.params) mg base CX0 k fa fd [x] (sp (K w.params)))
    (hsp : ∀ (K : PySem.W.Frag) (H : Hp) (a : Addr) (ns : List Int), ns.length ≤ n → Only H → SqL K H a (ns.map V.int) → sp K [.ref a] H (fun v _ => v = .bl true) fun _ _ _ => False) :
    PySem.W.WalkO q loose XP YP l.row.toRowW d [] (fun f vs => PySem.call f vs) := by
  refine Att.attach_call hn hdf fun w s0 s1 mg mb fa o pm cd doc a vs ns G Y ho hd hcd hmg hobj hints hlen hg => ?_
  have kx := hY w _ Y
  obtain ⟨fd, hb, hF⟩ := F w mg fa _ kx G.T.g hmg
  exact law_end kx G.T.g G.T.b G.T.builtins G.T.nolimit hg hobj hints (Nat.le_trans hlen hn2) hr hF hb fun H hO hS => hsp _ H a ns hlen hO hS
end Lay

set_option Elab.async false
set_option linter.all false
set_option maxRecDepth 100000
/-! Lay4: what a def promises on data; its call; statements. -/
namespace Lay
open PySem PySem.Spec PyProof.Rows L2
open Lay.Enc (enc)

/-! ### promises -/
/-- how an answer is handed on: as data; as a list of the caller's own; as data whose lists are new -/
inductive Rq where
  | dd
  | ow
  | nw
/-- .. and whether only what F has must be kept -/
structure Rk where
  k : Rq
  m : Bool
abbrev Rk.s (o : Rk) : Rk := ⟨o.k, false⟩
def GrowB (m : Bool) (F I I' : Hp) : Prop := match m with
  | false => Grow F I I'
  | true => Grow F (rgO F I) I'
theorem rgO_grow {F I J : Hp} (a : Grow F I J) : Grow F (rgO F I) (rgO F J) := ⟨rgO_mono a.same, fun x h => by
  unfold rgO at h ⊢
  cases e : F x with
  | none => rw [e] at h; exact absurd rfl h
  | some u => rw [e] at h; rcases a.out x h with z | z
              · exact .inl z
              · rw [e] at z; cases z⟩
theorem Grow.transB {m : Bool} {F I J L : Hp} (a : Grow F I J) (b : GrowB m F J L) : GrowB m F I L := by
  cases m with
  | false => exact Grow.trans a b
  | true => exact Grow.trans (rgO_grow a) b
theorem GrowB.trans {m : Bool} {F I J L : Hp} (a : GrowB m F I J) (b : GrowB m F J L) : GrowB m F I L := by
  cases m with
  | false => exact Grow.trans a b
  | true =>
    refine ⟨fun x u h => b.same _ _ ?_, fun x h => ?_⟩
    · have h2 := a.same _ _ h
      unfold rgO at h ⊢
      cases e : F x with
      | none => rw [e] at h; cases h
      | some w => exact h2
    · rcases b.out x h with z | z
      · exact a.out x fun w => z (by unfold rgO; cases F x <;> simp [w])
      · exact .inr z
theorem Grow.b {m : Bool} {F I J : Hp} (a : Grow F I J) : GrowB m F I J := by
  cases m with
  | false => exact a
  | true => exact ⟨fun x u h => a.same _ _ (rgO_le _ _ h), fun x h => by
      rcases a.out x h with z | z
      · by_cases c : F x = none
        · exact .inr c
        · refine .inl ?_
          unfold rgO
          cases e : F x with
          | none => exact absurd e c
          | some u => exact z
      · exact .inr z⟩
def RetR (K : PySem.W.Frag) (own : Rq) (F I' H' : Hp) (v : V) (r : PyData) : Prop :=
  match own with
  | .dd => Dq I' v r
  | .nw => Dq (rgN F I') v r
  | .ow => ∃ p xs ds, v = .ref p ∧ r = .list ds ∧ I' p = none ∧ F p = none ∧ H' p = some (.lst xs) ∧ DqAll I' xs ds
/-- called with data ds where g ds r: it gives r, all that stood is kept -/
def spD (K : PySem.W.Frag) (own : Rq) (g : List PyData → PyData → Prop) : Sp := fun vs H Q _ =>
  ∃ ds r I, g ds r ∧ Same I H ∧ DqAll I vs ds ∧ ∀ v H' I', Same H H' → Grow H I I' → Same I' H' → RetR K own H I' H' v r → Q v H'
section
variable {X : Cx} {G : List Sl} {α β γ : Type} [Enc α] [Enc β] [Enc γ]
theorem ad_nil : AD X G [] (some []) := fun ds h => by
  cases h
  exact pa_nil.imp fun σ H Q ⟨F, I, ps, R, q⟩ => q _ _ _ Grow.refl R .nil
theorem ad_cons {e : Expr} {es : List Expr} {o : Option α} {ods : Option (List PyData)} (h : ED X G e o) (hr : AD X G es ods) (hs : starEach (e :: es) X.env = (false, eval e X.env) :: starEach es X.env := by rfl) :
    AD X G (e :: es) (lift2 (fun x ds => enc x :: ds) o ods) := fun ds hd => by
  obtain ⟨x, ds', h1, h2, h3⟩ := lift2_get hd
  subst h3
  exact (pa_cons (h x h1) (hr ds' h2) hs).imp fun σ H Q ⟨F, I, ps, R, q⟩ => ⟨F, I, ps, R, fun v H1 I1 g1 R1 d1 => ⟨F, I1, ps, R1, fun vs H2 I2 g2 R2 d2 => q _ _ _ (g1.trans g2) R2 (.cons (Dq_mono g2.same _ _ d1) d2)⟩⟩
/-- all items of one type -/
def AL (X : Cx) (G : List Sl) {α : Type} [Enc α] (es : List Expr) (o : Option (List α)) : Prop := ∀ l, o = some l → PA X es (tA X.K G (l.map enc))
theorem al_nil : AL X G [] (some ([] : List α)) := fun l h => by
  cases h
  exact pa_nil.imp fun σ H Q ⟨F, I, ps, R, q⟩ => q _ _ _ Grow.refl R .nil
theorem al_cons {e : Expr} {es : List Expr} {o : Option α} {ol : Option (List α)} (h : ED X G e o) (hr : AL X G es ol) (hs : starEach (e :: es) X.env = (false, eval e X.env) :: starEach es X.env := by rfl) :
    AL X G (e :: es) (lift2 List.cons o ol) := fun l hl => by
  obtain ⟨x, l', h1, h2, h3⟩ := lift2_get hl
  subst h3
  exact (pa_cons (h x h1) (hr l' h2) hs).imp fun σ H Q ⟨F, I, ps, R, q⟩ => ⟨F, I, ps, R, fun v H1 I1 g1 R1 d1 => ⟨F, I1, ps, R1, fun vs H2 I2 g2 R2 d2 => q _ _ _ (g1.trans g2) R2 (.cons (Dq_mono g2.same _ _ d1) d2)⟩⟩
theorem al_star {e : Expr} {p : Pos} {es : List Expr} {o ol : Option (List α)} (h : ED X G e o) (hr : AL X G es ol) (hs : starEach (.Starred e p :: es) X.env = (true, eval e X.env) :: starEach es X.env := by rfl) :
    AL X G (.Starred e p :: es) (lift2 (· ++ ·) o ol) := fun l hl => by
  obtain ⟨x, l', h1, h2, h3⟩ := lift2_get hl
  subst h3
  refine (StX.pa_star (h x h1) (hr l' h2) hs).imp fun σ H Q ⟨F, I, ps, R, q⟩ => ⟨F, I, ps, R, fun v H1 I1 g1 R1 d1 => ?_⟩
  cases d1 with
  | lst k1 k2 => exact ⟨_, _, rfl, .inr (.inl (rd_mono R1.si k1)), F, I1, ps, R1, fun vs H2 I2 g2 R2 d2 => q _ _ _ (g1.trans g2) R2 (by rw [List.map_append]; exact (DqAll_mono g2.same _ _ k2).app d2)⟩
theorem al_starT {e : Expr} {p : Pos} {es : List Expr} {o : Option (Tup α)} {ol : Option (List α)} (h : ED X G e o) (hr : AL X G es ol) (hs : starEach (.Starred e p :: es) X.env = (true, eval e X.env) :: starEach es X.env := by rfl) :
    AL X G (.Starred e p :: es) (lift2 (fun t l => t.l ++ l) o ol) := fun l hl => by
  obtain ⟨x, l', h1, h2, h3⟩ := lift2_get hl
  subst h3
  refine (StX.pa_star (h x h1) (hr l' h2) hs).imp fun σ H Q ⟨F, I, ps, R, q⟩ => ⟨F, I, ps, R, fun v H1 I1 g1 R1 d1 => ?_⟩
  cases d1 with
  | tup k1 k2 => exact ⟨_, _, rfl, .inl (.inl (rd_mono R1.si k1)), F, I1, ps, R1, fun vs H2 I2 g2 R2 d2 => q _ _ _ (g1.trans g2) R2 (by rw [List.map_append]; exact (DqAll_mono g2.same _ _ k2).app d2)⟩
/-- displays -/
def szG {α : Type} (l : List α) : Option (List α) := if l.length ≤ sizeLine then some l else none
theorem eo_list {es : List Expr} {pos : Pos} {ol : Option (List α)} (h : AL X G es ol) : EO X G (.List es pos) (ol.bind szG) := fun l hl => by
  obtain ⟨x, h1, h2⟩ := bind_get hl
  obtain ⟨hz, e⟩ := ite_get h2
  subst e
  exact (pe_lst (h x h1)).imp fun σ H Q ⟨F, I, ps, R, q⟩ => ⟨F, I, ps, R, fun vs H1 I1 g1 R1 d => ⟨by rw [d.len, List.length_map]; exact hz, fun p hp =>
    q p vs _ I1 g1 (R1.newOwn hp) (R1.si.free hp) (R1.sf.free hp) (fun i c => by obtain ⟨_, _, _, z⟩ := R1.own_at c; rw [hp] at z; cases z) upd_same d⟩⟩
theorem tup_of {es : List Expr} {k : Nat} {pos : Pos} {ds : List PyData} {r : PyData} (h : PA X es (tA X.K G ds)) (hz : ds.length ≤ sizeLine) (hr : r = .tuple ds) : PE X (.Tuple es k pos) (tD X.K G r) := by
  subst hr
  exact (pe_tup h).imp fun σ H Q ⟨F, I, ps, R, q⟩ => ⟨F, I, ps, R, fun vs H1 I1 g1 R1 d => ⟨by rw [d.len]; exact hz, fun p hp =>
    q (.ref p) _ _ (g1.trans (R1.grow_new hp)) (R1.new hp) (.tup (.inl upd_same) (DqAll_mono (R1.grow_new (o := .tup vs) hp).same _ _ d))⟩⟩
theorem ed_tup {es : List Expr} {k : Nat} {pos : Pos} {ol : Option (List α)} (h : AL X G es ol) : ED X G (.Tuple es k pos) (lift1 Tup.mk (ol.bind szG)) := fun t ht => by
  obtain ⟨x, h1, h2⟩ := lift1_get ht
  obtain ⟨y, h3, h4⟩ := bind_get h1
  obtain ⟨hz, e⟩ := ite_get h4
  subst e h2
  exact tup_of (h y h3) (by rw [List.length_map]; exact hz) rfl
theorem small_line {n : Nat} (h : n ≤ 8) : n ≤ sizeLine := Nat.le_trans h (by decide)
def lift3 {α β γ δ : Type} (f : α → β → γ → δ) (a : Option α) (b : Option β) (c : Option γ) : Option δ := a.bind fun x => b.bind fun y => c.bind fun z => some (f x y z)
def lift4 {α β γ δ ε : Type} (f : α → β → γ → δ → ε) (a : Option α) (b : Option β) (c : Option γ) (d : Option δ) : Option ε := a.bind fun x => b.bind fun y => c.bind fun z => d.bind fun w => some (f x y z w)
@[simp] theorem lift3_some {α β γ δ : Type} (f : α → β → γ → δ) (a : α) (b : β) (c : γ) : lift3 f (some a) (some b) (some c) = some (f a b c) := rfl
@[simp] theorem lift4_some {α β γ δ ε : Type} (f : α → β → γ → δ → ε) (a : α) (b : β) (c : γ) (d : δ) : lift4 f (some a) (some b) (some c) (some d) = some (f a b c d) := rfl
theorem ed_t2 {e1 e2 : Expr} {k : Nat} {pos : Pos} {oa : Option α} {ob : Option β} (ha : ED X G e1 oa) (hb : ED X G e2 ob) (s1 : starEach [e1, e2] X.env = (false, eval e1 X.env) :: starEach [e2] X.env := by rfl) (s2 : starEach [e2] X.env = [(false, eval e2 X.env)] := by rfl) :
    ED X G (.Tuple [e1, e2] k pos) (lift2 T2.mk oa ob) := fun t ht => by
  obtain ⟨x, y, h1, h2, h3⟩ := lift2_get ht
  subst h3
  exact tup_of (ad_cons ha (ad_cons hb ad_nil s2) s1 _ (by rw [h1, h2]; rfl)) (small_line (by show 2 ≤ 8; decide)) rfl
theorem ed_t3 {e1 e2 e3 : Expr} {k : Nat} {pos : Pos} {oa : Option α} {ob : Option β} {oc : Option γ} (ha : ED X G e1 oa) (hb : ED X G e2 ob) (hc : ED X G e3 oc)
    (s1 : starEach [e1, e2, e3] X.env = (false, eval e1 X.env) :: starEach [e2, e3] X.env := by rfl) (s2 : starEach [e2, e3] X.env = (false, eval e2 X.env) :: starEach [e3] X.env := by rfl) (s3 : starEach [e3] X.env = [(false, eval e3 X.env)] := by rfl) :
    ED X G (.Tuple [e1, e2, e3] k pos) (lift3 T3.mk oa ob oc) := fun t ht => by
  obtain ⟨x, h1, ht⟩ := bind_get ht
  obtain ⟨y, h2, ht⟩ := bind_get ht
  obtain ⟨z, h3, ht⟩ := bind_get ht
  cases ht
  exact tup_of (ad_cons ha (ad_cons hb (ad_cons hc ad_nil s3) s2) s1 _ (by rw [h1, h2, h3]; rfl)) (small_line (by show 3 ≤ 8; decide)) rfl
theorem ed_t4 {δ : Type} [Enc δ] {e1 e2 e3 e4 : Expr} {k : Nat} {pos : Pos} {oa : Option α} {ob : Option β} {oc : Option γ} {od : Option δ} (ha : ED X G e1 oa) (hb : ED X G e2 ob) (hc : ED X G e3 oc) (hd : ED X G e4 od)
    (s1 : starEach [e1, e2, e3, e4] X.env = (false, eval e1 X.env) :: starEach [e2, e3, e4] X.env := by rfl) (s2 : starEach [e2, e3, e4] X.env = (false, eval e2 X.env) :: starEach [e3, e4] X.env := by rfl) (s3 : starEach [e3, e4] X.env = (false, eval e3 X.env) :: starEach [e4] X.env := by rfl) (s4 : starEach [e4] X.env = [(false, eval e4 X.env)] := by rfl) :
    ED X G (.Tuple [e1, e2, e3, e4] k pos) (lift4 T4.mk oa ob oc od) := fun t ht => by
  obtain ⟨x, h1, ht⟩ := bind_get ht
  obtain ⟨y, h2, ht⟩ := bind_get ht
  obtain ⟨z, h3, ht⟩ := bind_get ht
  obtain ⟨w, h4, ht⟩ := bind_get ht
  cases ht
  exact tup_of (ad_cons ha (ad_cons hb (ad_cons hc (ad_cons hd ad_nil s4) s3) s2) s1 _ (by rw [h1, h2, h3, h4]; rfl)) (small_line (by show 4 ≤ 8; decide)) rfl

/-! ### the call of a def -/
/-- behind a call: the state -/
theorem RS.called {K : PySem.W.Frag} {F H I H' I' : Hp} {σ : L2.St} {ps : Nat → Option Addr} (R : RS K F G σ H I ps) (s : Same H H') (g : Grow H I I') (si : Same I' H') : Grow F I I' ∧ RS K F G σ H' I' ps := by
  refine ⟨⟨g.same, fun a h => (g.out a h).imp_right R.sf.free⟩, R.grow s si g.same fun i a ha => ?_⟩
  obtain ⟨n, _, xs, q⟩ := R.own_at ha
  cases z : I' a with
  | none => rfl
  | some o =>
    rcases g.out a (by rw [z]; simp) with h | h
    · exact absurd n h
    · rw [q] at h; cases h
section
variable {N : List Str} {sc : Scope} {fs : Option Scope} {k j : Nat} {x : Str} {prm : List Str} {g : List PyData → PyData → Prop} {e : Expr} {es : List Expr} {p pos : Pos} {ods : Option (List PyData)}
theorem ed_call {o : Option α} (C : Ctx X N sc fs k) (c : Cal X.prog X.w X.K X.mg X.base CX0 j x prm (spD X.K .dd g)) (hj : j ≤ k) (hg : glbB sc x = true) (ha : AD X G (e :: es) ods) (ho : ∀ r, o = some r → ∃ ds, ods = some ds ∧ g ds (enc r))
    (he : starEach (e :: es) X.env = (false, eval e X.env) :: starEach es X.env := by rfl) (hp : (backTo pos (starEach es X.env)).any (·.1) = false := by rfl) : ED X G (.Call (.Name x p) (e :: es) [] pos) o := fun r hr => by
  obtain ⟨ds, h1, h2⟩ := ho r hr
  refine (pe_callG (c.up hj) C.gd C.rm C.s hg (pass0 (X := X)) (ha ds h1) he hp).imp fun σ H Q ⟨F, I, ps, R, q⟩ => ⟨F, I, ps, R, fun vs H1 I1 g1 R1 d => ⟨ds, _, I1, h2, R1.si, d, fun v H' I' s g' si rr => ?_⟩⟩
  obtain ⟨g2, R2⟩ := R1.called s g' si
  exact q v H' I' (g1.trans g2) R2 rr
theorem eo_call {o : Option (List α)} (C : Ctx X N sc fs k) (c : Cal X.prog X.w X.K X.mg X.base CX0 j x prm (spD X.K .ow g)) (hj : j ≤ k) (hg : glbB sc x = true) (ha : AD X G (e :: es) ods) (ho : ∀ r, o = some r → ∃ ds, ods = some ds ∧ g ds (enc r))
    (he : starEach (e :: es) X.env = (false, eval e X.env) :: starEach es X.env := by rfl) (hp : (backTo pos (starEach es X.env)).any (·.1) = false := by rfl) : EO X G (.Call (.Name x p) (e :: es) [] pos) o := fun r hr => by
  obtain ⟨ds, h1, h2⟩ := ho r hr
  refine (pe_callG (c.up hj) C.gd C.rm C.s hg (pass0 (X := X)) (ha ds h1) he hp).imp fun σ H Q ⟨F, I, ps, R, q⟩ => ⟨F, I, ps, R, fun vs H1 I1 g1 R1 d => ⟨ds, _, I1, h2, R1.si, d, fun v H' I' s g' si rr => ?_⟩⟩
  obtain ⟨g2, R2⟩ := R1.called s g' si
  obtain ⟨p, xs, ds', e1, e2, n1, n2, hH, dd⟩ := rr
  subst e1
  cases e2
  exact q p xs H' I' (g1.trans g2) R2 n1 (R1.sf.free n2) (fun i c => by obtain ⟨_, _, _, z⟩ := R1.own_at c; rw [n2] at z; cases z) hH dd
end
end
def g1 {α ρ : Type} [Enc α] [Enc ρ] (m : α → Option ρ) : List PyData → PyData → Prop := fun ds r => ∃ a x, ds = [enc a] ∧ m a = some x ∧ r = enc x
def g2 {α β ρ : Type} [Enc α] [Enc β] [Enc ρ] (m : α → β → Option ρ) : List PyData → PyData → Prop := fun ds r => ∃ a b x, ds = [enc a, enc b] ∧ m a b = some x ∧ r = enc x
def g3 {α β γ ρ : Type} [Enc α] [Enc β] [Enc γ] [Enc ρ] (m : α → β → γ → Option ρ) : List PyData → PyData → Prop := fun ds r => ∃ a b c x, ds = [enc a, enc b, enc c] ∧ m a b c = some x ∧ r = enc x
def g4 {α β γ δ ρ : Type} [Enc α] [Enc β] [Enc γ] [Enc δ] [Enc ρ] (m : α → β → γ → δ → Option ρ) : List PyData → PyData → Prop := fun ds r => ∃ a b c d x, ds = [enc a, enc b, enc c, enc d] ∧ m a b c d = some x ∧ r = enc x
def g5 {α β γ δ ε ρ : Type} [Enc α] [Enc β] [Enc γ] [Enc δ] [Enc ε] [Enc ρ] (m : α → β → γ → δ → ε → Option ρ) : List PyData → PyData → Prop := fun ds r => ∃ a b c d e x, ds = [enc a, enc b, enc c, enc d, enc e] ∧ m a b c d e = some x ∧ r = enc x
def app1 {α ρ : Type} (m : α → Option ρ) (a : Option α) : Option ρ := a.bind m
def app2 {α β ρ : Type} (m : α → β → Option ρ) (a : Option α) (b : Option β) : Option ρ := a.bind fun x => b.bind fun y => m x y
def app3 {α β γ ρ : Type} (m : α → β → γ → Option ρ) (a : Option α) (b : Option β) (c : Option γ) : Option ρ := a.bind fun x => b.bind fun y => c.bind fun z => m x y z
def app4 {α β γ δ ρ : Type} (m : α → β → γ → δ → Option ρ) (a : Option α) (b : Option β) (c : Option γ) (d : Option δ) : Option ρ := a.bind fun x => b.bind fun y => c.bind fun z => d.bind fun w => m x y z w
def app5 {α β γ δ ε ρ : Type} (m : α → β → γ → δ → ε → Option ρ) (a : Option α) (b : Option β) (c : Option γ) (d : Option δ) (e : Option ε) : Option ρ := a.bind fun x => b.bind fun y => c.bind fun z => d.bind fun w => e.bind fun v => m x y z w v
@[simp] theorem app1_some {α ρ : Type} (m : α → Option ρ) (a : α) : app1 m (some a) = m a := rfl
@[simp] theorem app2_some {α β ρ : Type} (m : α → β → Option ρ) (a : α) (b : β) : app2 m (some a) (some b) = m a b := rfl
@[simp] theorem app3_some {α β γ ρ : Type} (m : α → β → γ → Option ρ) (a : α) (b : β) (c : γ) : app3 m (some a) (some b) (some c) = m a b c := rfl
@[simp] theorem app4_some {α β γ δ ρ : Type} (m : α → β → γ → δ → Option ρ) (a : α) (b : β) (c : γ) (d : δ) : app4 m (some a) (some b) (some c) (some d) = m a b c d := rfl
@[simp] theorem app5_some {α β γ δ ε ρ : Type} (m : α → β → γ → δ → ε → Option ρ) (a : α) (b : β) (c : γ) (d : δ) (e : ε) : app5 m (some a) (some b) (some c) (some d) (some e) = m a b c d e := rfl
section
variable {α β γ δ ε ρ : Type} [Enc α] [Enc β] [Enc γ] [Enc δ] [Enc ε] [Enc ρ] {oa : Option α} {ob : Option β} {oc : Option γ} {od : Option δ} {oe : Option ε}
theorem go1 {m : α → Option ρ} (r : ρ) (h : app1 m oa = some r) : ∃ ds, lift2 (fun x ds => enc x :: ds) oa (some []) = some ds ∧ g1 m ds (enc r) := by
  obtain ⟨x, h1, h⟩ := bind_get h
  exact ⟨_, by rw [h1]; rfl, x, r, rfl, h, rfl⟩
theorem go2 {m : α → β → Option ρ} (r : ρ) (h : app2 m oa ob = some r) : ∃ ds, lift2 (fun x ds => enc x :: ds) oa (lift2 (fun x ds => enc x :: ds) ob (some [])) = some ds ∧ g2 m ds (enc r) := by
  obtain ⟨x, h1, h⟩ := bind_get h
  obtain ⟨y, h2, h⟩ := bind_get h
  exact ⟨_, by rw [h1, h2]; rfl, x, y, r, rfl, h, rfl⟩
theorem go3 {m : α → β → γ → Option ρ} (r : ρ) (h : app3 m oa ob oc = some r) : ∃ ds, lift2 (fun x ds => enc x :: ds) oa (lift2 (fun x ds => enc x :: ds) ob (lift2 (fun x ds => enc x :: ds) oc (some []))) = some ds ∧ g3 m ds (enc r) := by
  obtain ⟨x, h1, h⟩ := bind_get h
  obtain ⟨y, h2, h⟩ := bind_get h
  obtain ⟨z, h3, h⟩ := bind_get h
  exact ⟨_, by rw [h1, h2, h3]; rfl, x, y, z, r, rfl, h, rfl⟩
theorem go4 {m : α → β → γ → δ → Option ρ} (r : ρ) (h : app4 m oa ob oc od = some r) : ∃ ds, lift2 (fun x ds => enc x :: ds) oa (lift2 (fun x ds => enc x :: ds) ob (lift2 (fun x ds => enc x :: ds) oc (lift2 (fun x ds => enc x :: ds) od (some [])))) = some ds ∧ g4 m ds (enc r) := by
  obtain ⟨x, h1, h⟩ := bind_get h
  obtain ⟨y, h2, h⟩ := bind_get h
  obtain ⟨z, h3, h⟩ := bind_get h
  obtain ⟨w, h4, h⟩ := bind_get h
  exact ⟨_, by rw [h1, h2, h3, h4]; rfl, x, y, z, w, r, rfl, h, rfl⟩
theorem go5 {m : α → β → γ → δ → ε → Option ρ} (r : ρ) (h : app5 m oa ob oc od oe = some r) : ∃ ds, lift2 (fun x ds => enc x :: ds) oa (lift2 (fun x ds => enc x :: ds) ob (lift2 (fun x ds => enc x :: ds) oc (lift2 (fun x ds => enc x :: ds) od (lift2 (fun x ds => enc x :: ds) oe (some []))))) = some ds ∧ g5 m ds (enc r) := by
  obtain ⟨x, h1, h⟩ := bind_get h
  obtain ⟨y, h2, h⟩ := bind_get h
  obtain ⟨z, h3, h⟩ := bind_get h
  obtain ⟨w, h4, h⟩ := bind_get h
  obtain ⟨v, h5, h⟩ := bind_get h
  exact ⟨_, by rw [h1, h2, h3, h4, h5]; rfl, x, y, z, w, v, r, rfl, h, rfl⟩
end

/-! ### statements -/
inductive Out (S B R : Type) where
  | nx (s : S)
  | bk (b : B)
  | ct (b : B)
  | rt (r : R)
def tS {S B R : Type} [Enc R] (K : PySem.W.Frag) (G : List Sl) (P : S → List Sl) (PB : B → List Sl) (own : Rk) (o : Out S B R) : TS := fun D σ H =>
  ∃ F I ps, RS K F G σ H I ps ∧ match o with
    | .nx s => ∀ σ' H' I' ps', GrowB own.m F I I' → RS K F (P s) σ' H' I' ps' → D.nx σ' H'
    | .bk b => ∀ σ' H' I' ps', GrowB own.m F I I' → RS K F (PB b) σ' H' I' ps' → D.bk σ' H'
    | .ct b => ∀ σ' H' I' ps', GrowB own.m F I I' → RS K F (PB b) σ' H' I' ps' → D.ct σ' H'
    | .rt r => ∀ v H' I', GrowB own.m F I I' → Same F H' → Same I' H' → RetR K own.k F I' H' v (enc r) → D.rt v H'
/-- the block, from slots G, ends as o says (if o is some) -/
def SV {S B R : Type} [Enc R] (X : Cx) (G : List Sl) (st : List Stmt) (P : S → List Sl) (PB : B → List Sl) (own : Rk) (o : Option (Out S B R)) : Prop := ∀ x, o = some x → PSs X st (tS X.K G P PB own x)
theorem _root_.L2.PSs.imp {X : Cx} {st : List Stmt} {t t' : TS} (h : PSs X st t) (w : ∀ D σ H, t' D σ H → t D σ H) : PSs X st t' := ⟨fun pins s σ H D I q => h.run pins s σ H D I (w D σ H q)⟩
theorem _root_.L2.PS.imp {X : Cx} {st : Stmt} {t t' : TS} (h : PS X st t) (w : ∀ D σ H, t' D σ H → t D σ H) : PS X st t' := ⟨fun pins s σ H D I q => h.run pins s σ H D I (w D σ H q)⟩

/-- slots forgotten, own lists made persistent -/
def WkR (G G' : List Sl) : Prop := ∀ (K : PySem.W.Frag) (F : Hp) (σ : L2.St) (H I : Hp) (ps : Nat → Option Addr), RS K F G σ H I ps → ∃ I' ps', Grow F I I' ∧ RS K F G' σ H I' ps'
inductive Wop where
  | un (i : Nat)
  | fz (i : Nat)
  | dt (i : Nat)
def datS : Sl → Sl
  | .old d => .dat d
  | .nw d => .dat d
  | s => s
theorem datS_rs {K : PySem.W.Frag} {F H I : Hp} {G : List Sl} {σ : L2.St} {ps : Nat → Option Addr} {i : Nat} (R : RS K F G σ H I ps) : RS K F (G.set i (datS (slAt G i))) σ H I ps where
  si := R.si
  sf := R.sf
  fo := R.fo
  len := by rw [List.length_set]; exact R.len
  sl := fun j hj => by
    rw [List.length_set] at hj
    obtain ⟨v, h1, h2⟩ := R.sl j hj
    refine ⟨v, h1, ?_⟩
    by_cases e : j = i
    · subst e
      rw [slAt_set_self hj]
      cases s : slAt G j with
      | un => rw [s] at h2; exact h2
      | dat d => rw [s] at h2; exact h2
      | own d => rw [s] at h2; exact h2
      | rd d => rw [s] at h2; exact h2
      | old d => rw [s] at h2; obtain ⟨e1, x, e2, q⟩ := h2; exact ⟨e1, x, e2, Dq_mono rgO_le _ _ q⟩
      | nw d => rw [s] at h2; obtain ⟨e1, x, e2, q⟩ := h2; exact ⟨e1, x, e2, Dq_mono rgN_le _ _ q⟩
    · rw [slAt_set_ne (Ne.symm e)]; exact h2
  out := fun j hj => R.out j (by rw [List.length_set] at hj; exact hj)
  dis := R.dis
def frzS : Sl → Sl
  | .own ds => .dat (.list ds)
  | s => s
def wkA : List Wop → List Sl → List Sl
  | [], G => G
  | .un i :: r, G => wkA r (G.set i .un)
  | .fz i :: r, G => wkA r (G.set i (frzS (slAt G i)))
  | .dt i :: r, G => wkA r (G.set i (datS (slAt G i)))
theorem wkR_refl {G : List Sl} : WkR G G := fun K F σ H I ps R => ⟨I, ps, Grow.refl, R⟩
theorem set_at {G : List Sl} {i : Nat} : G.set i (slAt G i) = G := by
  induction G generalizing i with
  | nil => rfl
  | cons s r ih => cases i with
    | zero => rfl
    | succ i => show s :: r.set i (slAt r i) = _; rw [ih]
theorem wkR_ops : ∀ (ops : List Wop) (G : List Sl), WkR G (wkA ops G)
  | [], _ => wkR_refl
  | .un i :: r, G => fun K F σ H I ps R => by
    have R1 := R.setUn (i := i) (v := (σ[i]?).getD none)
    have e : σ.set i ((σ[i]?).getD none) = σ := by
      by_cases h : i < σ.length
      · rw [List.getElem?_eq_getElem h]; simp
      · exact List.set_eq_of_length_le (by omega)
    rw [e] at R1
    exact wkR_ops r _ K F σ H I _ R1
  | .dt i :: r, G => fun K F σ H I ps R => wkR_ops r _ K F σ H I ps (datS_rs (i := i) R)
  | .fz i :: r, G => fun K F σ H I ps R => by
    cases h : slAt G i with
    | own ds =>
      obtain ⟨I', g, R1⟩ := R.frz h
      obtain ⟨I2, ps2, g2, R2⟩ := wkR_ops r (G.set i (.dat (.list ds))) K F σ H I' _ R1
      refine ⟨I2, ps2, g.trans g2, ?_⟩
      show RS K F (wkA r (G.set i (frzS (slAt G i)))) σ H I2 ps2
      rw [h]; exact R2
    | un =>
      have e : G.set i (frzS (slAt G i)) = G := by rw [h]; show G.set i .un = G; rw [← h]; exact set_at
      show ∃ I' ps', Grow F I I' ∧ RS K F (wkA r (G.set i (frzS (slAt G i)))) σ H I' ps'
      rw [e]; exact wkR_ops r G K F σ H I ps R
    | rd d =>
      have e : G.set i (frzS (slAt G i)) = G := by rw [h]; show G.set i (.rd d) = G; rw [← h]; exact set_at
      show ∃ I' ps', Grow F I I' ∧ RS K F (wkA r (G.set i (frzS (slAt G i)))) σ H I' ps'
      rw [e]; exact wkR_ops r G K F σ H I ps R
    | old d =>
      have e : G.set i (frzS (slAt G i)) = G := by rw [h]; show G.set i (.old d) = G; rw [← h]; exact set_at
      show ∃ I' ps', Grow F I I' ∧ RS K F (wkA r (G.set i (frzS (slAt G i)))) σ H I' ps'
      rw [e]; exact wkR_ops r G K F σ H I ps R
    | nw d =>
      have e : G.set i (frzS (slAt G i)) = G := by rw [h]; show G.set i (.nw d) = G; rw [← h]; exact set_at
      show ∃ I' ps', Grow F I I' ∧ RS K F (wkA r (G.set i (frzS (slAt G i)))) σ H I' ps'
      rw [e]; exact wkR_ops r G K F σ H I ps R
    | dat d =>
      have e : G.set i (frzS (slAt G i)) = G := by rw [h]; show G.set i (.dat d) = G; rw [← h]; exact set_at
      show ∃ I' ps', Grow F I I' ∧ RS K F (wkA r (G.set i (frzS (slAt G i)))) σ H I' ps'
      rw [e]; exact wkR_ops r G K F σ H I ps R
theorem wk_ops {G G' : List Sl} (ops : List Wop) (h : wkA ops G = G') : WkR G G' := h ▸ wkR_ops ops G

def bindOut {S S' B R : Type} (o : Option (Out S B R)) (k : S → Option (Out S' B R)) : Option (Out S' B R) := o.bind fun x => match x with
  | .nx s => k s
  | .bk b => some (.bk b)
  | .ct b => some (.ct b)
  | .rt r => some (.rt r)
@[simp] theorem bindOut_nx {S S' B R : Type} (s : S) (k : S → Option (Out S' B R)) : bindOut (some (.nx s)) k = k s := rfl
@[simp] theorem bindOut_rt {S S' B R : Type} (r : R) (k : S → Option (Out S' B R)) : bindOut (some (.rt r) : Option (Out S B R)) k = some (.rt r) := rfl
@[simp] theorem bindOut_bk {S S' B R : Type} (b : B) (k : S → Option (Out S' B R)) : bindOut (some (.bk b) : Option (Out S B R)) k = some (.bk b) := rfl
@[simp] theorem bindOut_ct {S S' B R : Type} (b : B) (k : S → Option (Out S' B R)) : bindOut (some (.ct b) : Option (Out S B R)) k = some (.ct b) := rfl
section
variable {X : Cx} {G G' : List Sl} {S S' B R : Type} [Enc R] {P : S → List Sl} {P' : S' → List Sl} {PB : B → List Sl} {own : Rk} {rest : List Stmt} {o : Option (Out S B R)}
theorem sv_wk (hw : WkR G G') (h : SV X G' rest P PB own o) : SV X G rest P PB own o := fun x hx => (h x hx).imp fun D σ H ⟨F, I, ps, R, q⟩ => by
  obtain ⟨I', ps', g, R'⟩ := hw _ _ _ _ _ _ R
  refine ⟨F, I', ps', R', ?_⟩
  cases x with
  | nx s => exact fun σ' H' I2 ps2 g2 R2 => q σ' H' I2 ps2 (g.transB g2) R2
  | bk s => exact fun σ' H' I2 ps2 g2 R2 => q σ' H' I2 ps2 (g.transB g2) R2
  | ct s => exact fun σ' H' I2 ps2 g2 R2 => q σ' H' I2 ps2 (g.transB g2) R2
  | rt r => exact fun v H' I2 g2 s1 s2 rr => q v H' I2 (g.transB g2) s1 s2 rr
theorem sv_none : SV X G rest P PB own (none : Option (Out S B R)) := fun x hx => by cases hx
theorem sv_nil {s : S} (hw : WkR G (P s)) : SV X G [] P PB own (some (.nx s) : Option (Out S B R)) := fun x hx => by
  cases hx
  refine pss_nil.imp fun D σ H ⟨F, I, ps, R, q⟩ => ?_
  obtain ⟨I', ps', g, R'⟩ := hw _ _ _ _ _ _ R
  exact q σ H I' ps' g.b R'
theorem sv_break {b : B} {pos : Pos} (hw : WkR G (PB b)) : SV X G (.Break pos :: rest) P PB own (some (.bk b) : Option (Out S B R)) := fun x hx => by
  cases hx
  refine (pss_cons ps_break pss_never).imp fun D σ H ⟨F, I, ps, R, q⟩ => ?_
  obtain ⟨I', ps', g, R'⟩ := hw _ _ _ _ _ _ R
  exact q σ H I' ps' g.b R'
theorem sv_continue {b : B} {pos : Pos} (hw : WkR G (PB b)) : SV X G (.Continue pos :: rest) P PB own (some (.ct b) : Option (Out S B R)) := fun x hx => by
  cases hx
  refine (pss_cons ps_continue pss_never).imp fun D σ H ⟨F, I, ps, R, q⟩ => ?_
  obtain ⟨I', ps', g, R'⟩ := hw _ _ _ _ _ _ R
  exact q σ H I' ps' g.b R'
theorem sv_pass {pos : Pos} (h : SV X G rest P PB own o) : SV X G (.Pass pos :: rest) P PB own o := fun x hx => (pss_cons ps_pass (h x hx)).imp fun D σ H t => t
/-- behind an expression: from the wish's point of view -/
theorem tS_afterB {K : PySem.W.Frag} {x : Out S B R} {D : Ends} {σ : L2.St} {F H I H1 I1 : Hp} {ps ps1 : Nat → Option Addr} {σ1 : L2.St} (g : GrowB own.m F I I1) (R1 : RS K F G' σ1 H1 I1 ps1)
    (q : match x with
      | .nx s => ∀ σ' H' I' ps', GrowB own.m F I I' → RS K F (P s) σ' H' I' ps' → D.nx σ' H'
      | .bk b => ∀ σ' H' I' ps', GrowB own.m F I I' → RS K F (PB b) σ' H' I' ps' → D.bk σ' H'
      | .ct b => ∀ σ' H' I' ps', GrowB own.m F I I' → RS K F (PB b) σ' H' I' ps' → D.ct σ' H'
      | .rt r => ∀ v H' I', GrowB own.m F I I' → Same F H' → Same I' H' → RetR K own.k F I' H' v (enc r) → D.rt v H') : tS K G' P PB own x D σ1 H1 := by
  refine ⟨F, I1, ps1, R1, ?_⟩
  cases x with
  | nx s => exact fun σ' H' I2 ps2 g2 R2 => q σ' H' I2 ps2 (g.trans g2) R2
  | bk s => exact fun σ' H' I2 ps2 g2 R2 => q σ' H' I2 ps2 (g.trans g2) R2
  | ct s => exact fun σ' H' I2 ps2 g2 R2 => q σ' H' I2 ps2 (g.trans g2) R2
  | rt r => exact fun v H' I2 g2 s1 s2 rr => q v H' I2 (g.trans g2) s1 s2 rr
theorem tS_after {K : PySem.W.Frag} {x : Out S B R} {D : Ends} {σ : L2.St} {F H I H1 I1 : Hp} {ps ps1 : Nat → Option Addr} {σ1 : L2.St} (g : Grow F I I1) (R1 : RS K F G' σ1 H1 I1 ps1)
    (q : match x with
      | .nx s => ∀ σ' H' I' ps', GrowB own.m F I I' → RS K F (P s) σ' H' I' ps' → D.nx σ' H'
      | .bk b => ∀ σ' H' I' ps', GrowB own.m F I I' → RS K F (PB b) σ' H' I' ps' → D.bk σ' H'
      | .ct b => ∀ σ' H' I' ps', GrowB own.m F I I' → RS K F (PB b) σ' H' I' ps' → D.ct σ' H'
      | .rt r => ∀ v H' I', GrowB own.m F I I' → Same F H' → Same I' H' → RetR K own.k F I' H' v (enc r) → D.rt v H') : tS K G' P PB own x D σ1 H1 := tS_afterB (H := H) (ps := ps) (σ := σ) g.b R1 q
variable {N : List Str} {sc : Scope} {fs : Option Scope} {k i : Nat} {x : Str} {α β : Type} [Enc α] [Enc β] {e : Expr} {pos p : Pos}
theorem locB_ok (C : Ctx X N sc fs k) (h : locB N sc fs i x = true) : X.N.Nodup ∧ X.N[i]? = some x ∧ L2.Loc X.env.scope x ∧ (X.fn x = true ∨ X.env.scope.names.lookup x = some .local) := by
  unfold locB at h
  simp only [Bool.and_eq_true, decide_eq_true_eq] at h
  obtain ⟨h1, h2⟩ := h
  rw [C.n, C.s, C.fn]
  refine ⟨C.nd, h1, ?_, ?_⟩
  · unfold L2.Loc; split at h2 <;> simp_all
  · split at h2 <;> simp_all
/-- name = data -/
theorem sv_set {oe : Option α} {kk : α → Option (Out S B R)} (C : Ctx X N sc fs k) (hl : locB N sc fs i x = true) (he : ED X G e oe) (hk : ∀ v, SV X (G.set i (.dat (enc v))) rest P PB own (kk v))
    (hs : swapsWith e (some (.Name x p)) pos.line X.env = pure false := by rfl) : SV X G (.Assign [.Name x p] e pos :: rest) P PB own (oe.bind kk) := fun y hy => by
  obtain ⟨v, h1, h2⟩ := bind_get hy
  obtain ⟨a1, a2, a3, a4⟩ := locB_ok C hl
  exact (pss_cons (ps_set a1 a2 a3 (he v h1) hs a4) (hk v y h2)).imp fun D σ H ⟨F, I, ps, Rr, q⟩ => ⟨F, I, ps, Rr, fun w H1 I1 g R1 d => tS_after (H := H) (ps := ps) (σ := σ) g (R1.setDat d) q⟩
/-- name = a new list, kept as the def's own -/
theorem sv_setO {oe : Option (List α)} {kk : List α → Option (Out S B R)} (C : Ctx X N sc fs k) (hl : locB N sc fs i x = true) (hi : i < G.length) (he : EO X G e oe) (hk : ∀ v : List α, SV X (G.set i (.own (v.map enc))) rest P PB own (kk v))
    (hs : swapsWith e (some (.Name x p)) pos.line X.env = pure false := by rfl) : SV X G (.Assign [.Name x p] e pos :: rest) P PB own (oe.bind kk) := fun y hy => by
  obtain ⟨v, h1, h2⟩ := bind_get hy
  obtain ⟨a1, a2, a3, a4⟩ := locB_ok C hl
  exact (pss_cons (ps_set a1 a2 a3 (he v h1) hs a4) (hk v y h2)).imp fun D σ H ⟨F, I, ps, Rr, q⟩ => ⟨F, I, ps, Rr, fun pa xs H1 I1 g R1 n1 n2 n3 hH d => tS_after (H := H) (ps := ps) (σ := σ) g (R1.setOwn hi n1 n2 n3 hH d) q⟩
/-- return -/
theorem sv_ret {m : Bool} {oe : Option R} (he : ED X G e oe) : SV X G (.Return (some e) pos :: rest) P PB ⟨.dd, m⟩ (oe.bind fun r => some (.rt r)) := fun y hy => by
  obtain ⟨v, h1, h2⟩ := bind_get hy
  cases h2
  exact (pss_cons (ps_ret (he v h1)) pss_never).imp fun D σ H ⟨F, I, ps, Rr, q⟩ => ⟨F, I, ps, Rr, fun w H1 I1 g R1 d => q w H1 I1 g.b R1.sf R1.si d⟩
theorem sv_retO {m : Bool} {oe : Option (List α)} {P : S → List Sl} {PB : B → List Sl} (he : EO X G e oe) : SV X G (.Return (some e) pos :: rest) P PB ⟨.ow, m⟩ (oe.bind fun r => some (.rt r)) := fun y hy => by
  obtain ⟨v, h1, h2⟩ := bind_get hy
  cases h2
  exact (pss_cons (ps_ret (he v h1)) pss_never).imp fun D σ H ⟨F, I, ps, Rr, q⟩ => ⟨F, I, ps, Rr, fun pa xs H1 I1 g R1 n1 n2 n3 hH d => q (.ref pa) H1 I1 g.b R1.sf R1.si ⟨pa, xs, _, rfl, rfl, n1, n2, hH, d⟩⟩
/-- an own list is returned -/
theorem sv_retOwn {m : Bool} {l : List α} {P : S → List Sl} {PB : B → List Sl} (C : Ctx X N sc fs k) (hv : visB N sc i x = true) (hs : slAt G i = .own (l.map enc)) : SV X G (.Return (some (.Name x p)) pos :: rest) P PB ⟨.ow, m⟩ (some (.rt l)) := fun y hy => by
  cases hy
  unfold visB at hv
  simp only [Bool.and_eq_true, decide_eq_true_eq, Bool.not_eq_true'] at hv
  obtain ⟨⟨⟨h1, h2⟩, h3⟩, h4⟩ := hv
  have hvis : Vis X.env.scope x := by
    rw [C.s]; unfold Vis
    split at h2 <;> simp_all
  refine (pss_cons (ps_ret (pe_var (by rw [C.n]; exact h1) hvis h3 h4)) pss_never).imp fun D σ H ⟨F, I, ps, Rr, q⟩ => ?_
  have hi : i < G.length := by
    by_cases c : i < G.length
    · exact c
    · rw [slAt_out (by omega)] at hs; cases hs
  obtain ⟨w, k1, k2⟩ := Rr.sl i hi
  rw [hs] at k2
  obtain ⟨a, xs, e1, e2, n, hH, d⟩ := k2
  subst e2
  exact ⟨_, k1, q _ H I Grow.refl.b Rr.sf Rr.si ⟨a, xs, _, rfl, rfl, n, Rr.fo _ _ e1, hH, d⟩⟩
/-- if -/
theorem sv_if {c : Expr} {a b : List Stmt} {oc : Option Bool} {oa ob : Option (Out S' B R)} {kk : S' → Option (Out S B R)} (hc : EB X G c oc) (ha : SV X G a P' PB own oa) (hb : SV X G b P' PB own ob) (hk : ∀ s, SV X (P' s) rest P PB own (kk s)) :
    SV X G (.If c a b pos :: rest) P PB own (oc.bind fun t => bindOut (bif t then oa else ob) kk) := fun y hy => by
  obtain ⟨t, h1, h2⟩ := bind_get hy
  -- one branch runs, then the rest
  have key : ∀ {br : List Stmt} {ox : Option (Out S' B R)}, SV X G br P' PB own ox → bindOut ox kk = some y → ∃ tb u, PSs X br tb ∧ PSs X rest u ∧ ∀ (D : Ends) (σ : L2.St) (H : Hp), tS X.K G P PB own y D σ H → tb { D with nx := u D } σ H := by
    intro br ox hbr hox
    unfold bindOut at hox
    obtain ⟨z, hz, hox⟩ := bind_get hox
    cases z with
    | nx s =>
      refine ⟨_, _, hbr _ hz, hk s y hox, fun D σ H ⟨F, I, ps, Rr, q⟩ => ⟨F, I, ps, Rr, fun σ1 H1 I1 ps1 g R1 => tS_afterB (H := H) (ps := ps) (σ := σ) g R1 q⟩⟩
    | bk w => cases hox; exact ⟨_, _, hbr _ hz, pss_never, fun D σ H t => t⟩
    | ct w => cases hox; exact ⟨_, _, hbr _ hz, pss_never, fun D σ H t => t⟩
    | rt w => cases hox; exact ⟨_, _, hbr _ hz, pss_never, fun D σ H t => t⟩
  cases t with
  | true =>
    obtain ⟨tb, u, p1, p2, w⟩ := key ha h2
    refine (pss_cons (ps_if (hc _ h1) p1 pss_never) p2).imp fun D σ H ⟨F, I, ps, Rr, q⟩ => ⟨F, I, ps, Rr, fun H1 I1 g R1 => iteT ?_⟩
    exact w D σ H1 (tS_after (H := H) (ps := ps) (σ := σ) g R1 q)
  | false =>
    obtain ⟨tb, u, p1, p2, w⟩ := key hb h2
    refine (pss_cons (ps_if (hc _ h1) pss_never p1) p2).imp fun D σ H ⟨F, I, ps, Rr, q⟩ => ⟨F, I, ps, Rr, fun H1 I1 g R1 => iteF ?_⟩
    exact w D σ H1 (tS_after (H := H) (ps := ps) (σ := σ) g R1 q)
/-- an expression whose value is dropped -/
theorem sv_expr {oe : Option α} {kk : Option (Out S B R)} (he : ED X G e oe) (hk : SV X G rest P PB own kk) (hs : swapsWith e none pos.line X.env = pure false := by rfl) : SV X G (.Expr e pos :: rest) P PB own (oe.bind fun _ => kk) := fun y hy => by
  obtain ⟨v, h1, h2⟩ := bind_get hy
  exact (pss_cons (ps_expr (he v h1) hs) (hk y h2)).imp fun D σ H ⟨F, I, ps, Rr, q⟩ => ⟨F, I, ps, Rr, fun w H1 I1 g R1 d => tS_after (H := H) (ps := ps) (σ := σ) g R1 q⟩
end
end Lay

set_option Elab.async false
set_option linter.all false
set_option maxRecDepth 100000
/-! Lay5: targets, what is walked, loops, comprehensions. -/
namespace Lay
open PySem PySem.Spec PyProof.Rows L2
open Lay.Enc (enc)

/-! ### targets -/
/-- nothing is known of these places -/
def unAt (G : List Sl) (js : List Nat) : Bool := js.all fun j => match slAt G j with | .un => true | _ => false
theorem unAt_ps {K : PySem.W.Frag} {F H I : Hp} {G : List Sl} {σ : L2.St} {ps : Nat → Option Addr} (R : RS K F G σ H I ps) {js : List Nat} (h : unAt G js = true) : ∀ j ∈ js, ps j = none := fun j hj => by
  have h1 := List.all_eq_true.mp h j hj
  by_cases c : j < G.length
  · obtain ⟨v, _, q⟩ := R.sl j c
    cases e : slAt G j with
    | un => rw [e] at q; exact q
    | dat d => rw [e] at h1; cases h1
    | own ds => rw [e] at h1; cases h1
    | rd ds => rw [e] at h1; cases h1
    | old ds => rw [e] at h1; cases h1
    | nw ds => rw [e] at h1; cases h1
  · exact R.out j (by omega)
/-- the store of data enc x by the target g: slots become f x G; it touches the places js alone, of which nothing was known -/
structure Tgt (K : PySem.W.Frag) (g : L2.TG) (js : List Nat) {α : Type} [Enc α] (f : α → List Sl → List Sl) : Prop where
  go : ∀ (x : α) (G : List Sl) (F : Hp) (σ : L2.St) (H I : Hp) (ps : Nat → Option Addr) (v : V) (Q : L2.St → Hp → Prop), RS K F G σ H I ps → (∀ j ∈ js, ps j = none) → Dq I v (enc x) →
    (∀ σ', RS K F (f x G) σ' H I ps → (∀ vs, (∀ j ∈ js, j ∈ vs) → wipe σ' vs = wipe σ vs) → (∀ i, i ∉ js → slAt (f x G) i = slAt G i) → Q σ' H) → g v σ H Q
def fName {α : Type} [Enc α] (i : Nat) : α → List Sl → List Sl := fun x G => G.set i (.dat (enc x))
def fT2 {α β : Type} (f : α → List Sl → List Sl) (g : β → List Sl → List Sl) : T2 α β → List Sl → List Sl := fun t G => g t.b (f t.a G)
def fT3 {α β γ : Type} (f : α → List Sl → List Sl) (g : β → List Sl → List Sl) (h : γ → List Sl → List Sl) : T3 α β γ → List Sl → List Sl := fun t G => h t.c (g t.b (f t.a G))
def fT4 {α β γ δ : Type} (f : α → List Sl → List Sl) (g : β → List Sl → List Sl) (h : γ → List Sl → List Sl) (l : δ → List Sl → List Sl) : T4 α β γ δ → List Sl → List Sl := fun t G => l t.d (h t.c (g t.b (f t.a G)))
theorem wipe_set {σ : L2.St} {w : Option V} : ∀ {vs : List Nat} {i : Nat}, i ∈ vs → wipe (σ.set i w) vs = wipe σ vs
  | [], i, h => by simp at h
  | v :: vs, i, h => by
    show (wipe (σ.set i w) vs).set v none = (wipe σ vs).set v none
    by_cases hm : i ∈ vs
    · rw [wipe_set hm]
    · have e : v = i := by
        rcases List.mem_cons.mp h with h | h
        · exact h.symm
        · exact absurd h hm
      subst e
      have : ∀ (us : List Nat), v ∉ us → wipe (σ.set v w) us = (wipe σ us).set v w := by
        intro us
        induction us with
        | nil => intro _; rfl
        | cons u us ih =>
          intro hu
          show (wipe (σ.set v w) us).set u none = ((wipe σ us).set u none).set v w
          rw [ih (fun z => hu (List.mem_cons_of_mem _ z)), List.set_comm _ _ (fun z : v = u => hu (by rw [z]; exact List.mem_cons_self))]
      rw [this vs hm, List.set_set]
theorem psDel_none {ps : Nat → Option Addr} {i : Nat} (h : ps i = none) : psDel ps i = ps := by
  funext j; unfold psDel; split
  · rename_i e; rw [e]; exact h.symm
  · rfl
theorem tgt_name {K : PySem.W.Frag} {α : Type} [Enc α] {i : Nat} : Tgt K (gName i) [i] (fName (α := α) i) := ⟨fun x G F σ H I ps v Q R hp d q => by
  have R1 := R.setDat (i := i) d
  rw [psDel_none (hp i (by simp))] at R1
  exact q _ R1 (fun vs hv => wipe_set (hv i (by simp))) fun j hj => slAt_set_ne (fun e => hj (by simp [e]))⟩
theorem tgt_t2 {K : PySem.W.Frag} {α β : Type} [Enc α] [Enc β] {ga gb : L2.TG} {ja jb : List Nat} {f : α → List Sl → List Sl} {g : β → List Sl → List Sl} (h1 : Tgt K ga ja f) (h2 : Tgt K gb jb g) :
    Tgt K (gTup K 2 (gCons ga (gCons gb gNil))) (ja ++ jb) (fT2 f g) := ⟨fun x G F σ H I ps v Q R hp d q => by
  cases d with
  | tup k1 k2 =>
    cases k2 with
    | cons d1 k2 => cases k2 with
      | cons d2 k2 =>
        cases k2
        exact ⟨_, _, rfl, (.inl (rd_mono R.si k1)), rfl, _, _, rfl, h1.go x.a G F σ H I ps _ _ R (fun j hj => hp j (by simp [hj])) d1 fun σ1 R1 w1 o1 => ⟨_, _, rfl, h2.go x.b _ F σ1 H I ps _ _ R1 (fun j hj => hp j (by simp [hj])) d2 fun σ2 R2 w2 o2 => ⟨rfl, q σ2 R2
          (fun vs hv => (w2 vs fun j hj => hv j (by simp [hj])).trans (w1 vs fun j hj => hv j (by simp [hj]))) fun i hi => (o2 i fun z => hi (by simp [z])).trans (o1 i fun z => hi (by simp [z]))⟩⟩⟩⟩
theorem tgt_t3 {K : PySem.W.Frag} {α β γ : Type} [Enc α] [Enc β] [Enc γ] {ga gb gc : L2.TG} {ja jb jc : List Nat} {f : α → List Sl → List Sl} {g : β → List Sl → List Sl} {h : γ → List Sl → List Sl} (h1 : Tgt K ga ja f) (h2 : Tgt K gb jb g) (h3 : Tgt K gc jc h) :
    Tgt K (gTup K 3 (gCons ga (gCons gb (gCons gc gNil)))) (ja ++ (jb ++ jc)) (fT3 f g h) := ⟨fun x G F σ H I ps v Q R hp d q => by
  cases d with
  | tup k1 k2 =>
    cases k2 with
    | cons d1 k2 => cases k2 with
      | cons d2 k2 => cases k2 with
        | cons d3 k2 =>
          cases k2
          exact ⟨_, _, rfl, (.inl (rd_mono R.si k1)), rfl, _, _, rfl, h1.go x.a G F σ H I ps _ _ R (fun j hj => hp j (by simp [hj])) d1 fun σ1 R1 w1 o1 => ⟨_, _, rfl, h2.go x.b _ F σ1 H I ps _ _ R1 (fun j hj => hp j (by simp [hj])) d2 fun σ2 R2 w2 o2 =>
            ⟨_, _, rfl, h3.go x.c _ F σ2 H I ps _ _ R2 (fun j hj => hp j (by simp [hj])) d3 fun σ3 R3 w3 o3 => ⟨rfl, q σ3 R3
            (fun vs hv => (w3 vs fun j hj => hv j (by simp [hj])).trans ((w2 vs fun j hj => hv j (by simp [hj])).trans (w1 vs fun j hj => hv j (by simp [hj]))))
            fun i hi => (o3 i fun z => hi (by simp [z])).trans ((o2 i fun z => hi (by simp [z])).trans (o1 i fun z => hi (by simp [z])))⟩⟩⟩⟩⟩
theorem tgt_t4 {K : PySem.W.Frag} {α β γ δ : Type} [Enc α] [Enc β] [Enc γ] [Enc δ] {ga gb gc gd : L2.TG} {ja jb jc jd : List Nat} {f : α → List Sl → List Sl} {g : β → List Sl → List Sl} {h : γ → List Sl → List Sl} {l : δ → List Sl → List Sl} (h1 : Tgt K ga ja f) (h2 : Tgt K gb jb g) (h3 : Tgt K gc jc h) (h4 : Tgt K gd jd l) :
    Tgt K (gTup K 4 (gCons ga (gCons gb (gCons gc (gCons gd gNil))))) (ja ++ (jb ++ (jc ++ jd))) (fT4 f g h l) := ⟨fun x G F σ H I ps v Q R hp d q => by
  cases d with
  | tup k1 k2 =>
    cases k2 with
    | cons d1 k2 => cases k2 with
      | cons d2 k2 => cases k2 with
        | cons d3 k2 => cases k2 with
          | cons d4 k2 =>
            cases k2
            exact ⟨_, _, rfl, (.inl (rd_mono R.si k1)), rfl, _, _, rfl, h1.go x.a G F σ H I ps _ _ R (fun j hj => hp j (by simp [hj])) d1 fun σ1 R1 w1 o1 => ⟨_, _, rfl, h2.go x.b _ F σ1 H I ps _ _ R1 (fun j hj => hp j (by simp [hj])) d2 fun σ2 R2 w2 o2 =>
              ⟨_, _, rfl, h3.go x.c _ F σ2 H I ps _ _ R2 (fun j hj => hp j (by simp [hj])) d3 fun σ3 R3 w3 o3 => ⟨_, _, rfl, h4.go x.d _ F σ3 H I ps _ _ R3 (fun j hj => hp j (by simp [hj])) d4 fun σ4 R4 w4 o4 => ⟨rfl, q σ4 R4
              (fun vs hv => (w4 vs fun j hj => hv j (by simp [hj])).trans ((w3 vs fun j hj => hv j (by simp [hj])).trans ((w2 vs fun j hj => hv j (by simp [hj])).trans (w1 vs fun j hj => hv j (by simp [hj])))))
              fun i hi => (o4 i fun z => hi (by simp [z])).trans ((o3 i fun z => hi (by simp [z])).trans ((o2 i fun z => hi (by simp [z])).trans (o1 i fun z => hi (by simp [z]))))⟩⟩⟩⟩⟩⟩
section
variable {X : Cx} {N : List Str} {sc : Scope} {fs : Option Scope} {k i : Nat} {x : Str} {pos : Pos}
theorem pgN (C : Ctx X N sc fs k) (h : locB N sc fs i x = true) : PG X (.Name x pos) (gName i) :=
  let ⟨a1, a2, a3, a4⟩ := locB_ok C h
  pg_name a1 a2 a3 a4
end

/-! ### what is walked -/
/-- the iterator J gives the data ds, one by one, while I stands -/
structure Wlk (K : PySem.W.Frag) (J : It) (I : Hp) (ds : List PyData) : Prop where
  go : ∀ (i : Nat) (d : PyData) (H : Hp), Same I H → ds[i]? = some d → J.go i H ∧ ∀ x H', J.yld i H x H' → (H' = H ∧ Dq I x d) ∨ ∃ T o, H T = none ∧ H' = upd H T o ∧ Dq (upd I T o) x d
  st : ∀ (H : Hp), Same I H → J.stop ds.length H
def tI (K : PySem.W.Frag) (G : List Sl) (ds : List PyData) (σ : L2.St) (H : Hp) (R : It → Hp → Prop) : Prop :=
  ∃ F I ps, RS K F G σ H I ps ∧ ∀ J H' I', Grow F I I' → RS K F G σ H' I' ps → Wlk K J I' ds → ds.length ≤ sizeLine → R J H'
def IT (X : Cx) (G : List Sl) (tg iter : Expr) {α : Type} [Enc α] (o : Option (List α)) : Prop := ∀ l, o = some l → PI X tg iter (tI X.K G (l.map enc))
theorem _root_.L2.PI.imp {X : Cx} {tg e : Expr} {t t' : TI} (h : PI X tg e t) (w : ∀ σ H R, t' σ H R → t σ H R) : PI X tg e t' := ⟨fun pins s σ H R I q => h.run pins s σ H R I (w σ H R q)⟩
/-- lists and tuples that stand are no longer than the line -/
def LenOk (K : PySem.W.Frag) (H : Hp) : Prop := ∀ a xs, (SqL K H a xs → xs.length ≤ sizeLine) ∧ (SqT K H a xs → xs.length ≤ sizeLine)
theorem lenOk {X : Cx} {pins : List (Addr × Obj)} {σ : L2.St} {H : Hp} {s : Shared} (I : Inv X pins σ H s) : LenOk X.K H := fun a xs => ⟨fun h => let ⟨_, _, _, z⟩ := I.list h; z, fun h => let ⟨_, _, _, z⟩ := I.tuple h; z⟩
theorem pi_len {X : Cx} {tg e : Expr} {t : TI} (h : PI X tg e t) (mono : ∀ σ H R R', (∀ J H, R J H → R' J H) → t σ H R → t σ H R') : PI X tg e (fun σ H R => t σ H fun J H' => LenOk X.K H' → R J H') := ⟨fun pins s σ H R I q =>
  thn (h.run pins s σ H _ I q) fun v s1 h1 => thn h1 fun itv s2 ⟨it, fp, tn, J, H', e, I2, T, st, f, r⟩ => ⟨it, fp, tn, J, H', e, I2, T, st, f, r (lenOk I2)⟩⟩
section
variable {X : Cx} {G : List Sl} {α β : Type} [Enc α] [Enc β] {tg e e2 : Expr}
theorem wlk_list {K : PySem.W.Frag} {I : Hp} {a : Addr} {xs : List V} {ds : List PyData} (h1 : Rd I a (.lst xs)) (h2 : DqAll I xs ds) (inj : ∀ H, Same I H → ∀ ys, SqL K H a ys → ys.length ≤ sizeLine → True) : Wlk K (Itl K a) I ds := by
  refine ⟨fun i d H s hd => ?_, fun H s => ⟨xs, (.inl (rd_mono s h1)), by rw [h2.len]; exact Nat.le_refl _⟩⟩
  obtain ⟨v, hv, dv⟩ := h2.at hd
  refine ⟨⟨xs, v, (.inl (rd_mono s h1)), hv⟩, fun x H' y => ?_⟩
  obtain ⟨e, y⟩ := y
  subst e
  have e2 := y xs (.inl (rd_mono s h1))
  rw [hv] at e2; cases e2
  exact .inl ⟨rfl, dv⟩
theorem it_list {o : Option (List α)} (h : ED X G e o) : IT X G tg e o := fun l hl =>
  (pi_len (pi_list (h l hl)) fun σ H R R' w ⟨F, I, ps, r, q⟩ => ⟨F, I, ps, r, fun v H' I' g r' d => by obtain ⟨a, e, z, q⟩ := q v H' I' g r' d; exact ⟨a, e, z, w _ _ q⟩⟩).imp
  fun σ H R ⟨F, I, ps, r, q⟩ => ⟨F, I, ps, r, fun v H' I' g r' d => by
    cases d with
    | lst h1 h2 =>
      exact ⟨_, rfl, ⟨_, (.inl (rd_mono r'.si h1))⟩, fun lo => q _ _ I' g r' (wlk_list h1 h2 fun _ _ _ _ _ => trivial) (by rw [← h2.len]; exact (lo _ _).1 (.inl (rd_mono r'.si h1)))⟩⟩
theorem it_tup {o : Option (Tup α)} (h : ED X G e o) : IT X G tg e (lift1 Tup.l o) := fun l hl => by
  obtain ⟨t, h1, h2⟩ := lift1_get hl
  subst h2
  refine (pi_len (pi_tup (h t h1)) fun σ H R R' w ⟨F, I, ps, r, q⟩ => ⟨F, I, ps, r, fun v H' I' g r' d => by obtain ⟨a, e, z, q⟩ := q v H' I' g r' d; exact ⟨a, e, z, w _ _ q⟩⟩).imp
    fun σ H R ⟨F, I, ps, r, q⟩ => ⟨F, I, ps, r, fun v H' I' g r' d => ?_⟩
  cases d with
  | tup k1 k2 =>
    refine ⟨_, rfl, ⟨_, (.inl (rd_mono r'.si k1))⟩, fun lo => q _ _ I' g r' ⟨fun i d H s hd => ?_, fun H s => ⟨_, (.inl (rd_mono s k1)), by rw [k2.len]; exact Nat.le_refl _⟩⟩ (by rw [← k2.len]; exact (lo _ _).2 (.inl (rd_mono r'.si k1)))⟩
    obtain ⟨v, hv, dv⟩ := k2.at hd
    refine ⟨⟨_, v, (.inl (rd_mono s k1)), hv⟩, fun x H' y => ?_⟩
    obtain ⟨e, y⟩ := y
    subst e
    have e2 := y _ (.inl (rd_mono s k1))
    rw [hv] at e2; cases e2
    exact .inl ⟨rfl, dv⟩
/-- lo, lo + 1, .. (n of them) -/
def rngL (lo : Int) (n : Nat) : List Int := (List.range n).map fun i => lo + (i : Nat)
def rng1 (j : Int) : Option (List Int) := if j ≤ (sizeLine : Int) ∧ -(sizeLine : Int) ≤ j then some (rngL 0 j.toNat) else none
def rng2 (i j : Int) : Option (List Int) := if (j ≤ (sizeLine : Int) ∧ -(sizeLine : Int) ≤ j) ∧ (i ≤ (sizeLine : Int) ∧ 0 ≤ i) then some (rngL i (j - i).toNat) else none
theorem rngL_length (lo : Int) (n : Nat) : (rngL lo n).length = n := by simp [rngL]
theorem wlk_rng {K : PySem.W.Frag} {I : Hp} {lo : Int} {n : Nat} : Wlk K (Itr lo n) I ((rngL lo n).map enc) := by
  refine ⟨fun i d H s hd => ?_, fun H s => by rw [List.length_map, rngL_length]; exact Nat.le_refl _⟩
  have hi : i < n := by
    have := (List.getElem?_eq_some_iff.mp hd).1
    rw [List.length_map, rngL_length] at this; exact this
  refine ⟨hi, fun x H' y => ?_⟩
  obtain ⟨e, y⟩ := y
  subst e y
  have : d = .int (lo + (i : Nat)) := by
    unfold rngL at hd
    rw [List.map_map, List.getElem?_map, List.getElem?_range hi] at hd
    exact (Option.some.inj hd).symm
  subst this
  exact .inl ⟨rfl, .int _⟩
theorem sline62 : (sizeLine : Int) < 2 ^ 62 := by rw [sizeLine_eq]; decide
theorem it_rng1 {N : List Str} {sc : Scope} {fs : Option Scope} {k : Nat} {p pos : Pos} {o : Option Int} (C : Ctx X N sc fs k) (hg : glbB sc "range" = true) (hm : X.mg "range" = none) (h : ED X G e o) (hs : starEach [e] X.env = [(false, eval e X.env)] := by rfl) :
    IT X G tg (.Call (.Name "range" p) [e] [] pos) (o.bind rng1) := fun l hl => by
  obtain ⟨j, h1, h2⟩ := bind_get hl
  obtain ⟨hc, h2⟩ := ite_get h2
  subst h2
  refine (pi_range1 (glbB_gl C.s hg).1 hm (ad_cons h ad_nil hs _ (by rw [h1]; rfl)) hs).imp fun σ H R ⟨F, I, ps, r, q⟩ => ⟨F, I, ps, r, fun vs H' I' g r' d => ?_⟩
  cases d with
  | cons d1 d2 =>
    cases d2; cases d1
    have := sline62
    refine ⟨j, rfl, by omega, by omega, q _ _ I' g r' wlk_rng (by rw [List.length_map, rngL_length]; omega)⟩
theorem it_rng2 {N : List Str} {sc : Scope} {fs : Option Scope} {k : Nat} {p pos : Pos} {o o2 : Option Int} (C : Ctx X N sc fs k) (hg : glbB sc "range" = true) (hm : X.mg "range" = none) (h : ED X G e o) (h' : ED X G e2 o2) (hs : starEach [e, e2] X.env = [(false, eval e X.env), (false, eval e2 X.env)] := by rfl) (hs2 : starEach [e2] X.env = [(false, eval e2 X.env)] := by rfl) :
    IT X G tg (.Call (.Name "range" p) [e, e2] [] pos) (bind2 rng2 o o2) := fun l hl => by
  obtain ⟨i, j, h1, h2, h3⟩ := bind2_get hl
  obtain ⟨hc, h3⟩ := ite_get h3
  subst h3
  refine (pi_range2 (glbB_gl C.s hg).1 hm (ad_cons h (ad_cons h' ad_nil hs2) (by rw [hs, hs2]) _ (by rw [h1, h2]; rfl)) hs hs2).imp fun σ H R ⟨F, I, ps, r, q⟩ => ⟨F, I, ps, r, fun vs H' I' g r' d => ?_⟩
  cases d with
  | cons d1 d2 =>
    cases d2 with
    | cons d2 d3 =>
      cases d3; cases d1; cases d2
      have := sline62
      refine ⟨i, j, rfl, ⟨by omega, by omega, by omega, by omega⟩, q _ _ I' g r' wlk_rng (by rw [List.length_map, rngL_length]; omega)⟩
def enumL {α : Type} (l : List α) : List (T2 Int α) := (List.range l.length).zipWith (fun (i : Nat) x => T2.mk (i : Int) x) l
theorem enumL_get {α : Type} {l : List α} {i : Nat} {x : α} (h : l[i]? = some x) : (enumL l)[i]? = some ⟨(i : Nat), x⟩ := by
  unfold enumL
  have hi := (List.getElem?_eq_some_iff.mp h).1
  rw [List.getElem?_zipWith, List.getElem?_range hi, h]
theorem enumL_length {α : Type} (l : List α) : (enumL l).length = l.length := by unfold enumL; rw [List.length_zipWith, List.length_range]; omega
theorem it_enum {N : List Str} {sc : Scope} {fs : Option Scope} {k : Nat} {p pos tpos : Pos} {elts : List Expr} {kk : Nat} {o : Option (List α)} (C : Ctx X N sc fs k) (hg : glbB sc "enumerate" = true) (hm : X.mg "enumerate" = none) (h : ED X G e o) (hs : starEach [e] X.env = [(false, eval e X.env)] := by rfl) :
    IT X G (.Tuple elts kk tpos) (.Call (.Name "enumerate" p) [e] [] pos) (lift1 enumL o) := fun l hl => by
  obtain ⟨t, h1, h2⟩ := lift1_get hl
  subst h2
  have pa : PA X [e] (tA X.K G [enc t]) := ad_cons h ad_nil hs _ (by rw [h1]; rfl)
  refine (pi_len (pi_enum (glbB_gl C.s hg).1 hm pa hs) fun σ H R R' w ⟨F, I, ps, r, q⟩ => ⟨F, I, ps, r, fun v H' I' g r' d => by obtain ⟨a, xs, e, z, q⟩ := q v H' I' g r' d; exact ⟨a, xs, e, z, w _ _ q⟩⟩).imp
    fun σ H R ⟨F, I, ps, r, q⟩ => ⟨F, I, ps, r, fun vs H' I' g r' d => ?_⟩
  cases d with
  | cons d1 d2 =>
    cases d2
    cases d1 with
    | lst k1 k2 =>
      refine ⟨_, _, rfl, (.inl (rd_mono r'.si k1)), fun lo => q _ _ I' g r' ⟨fun i d H s hd => ?_, fun H s => ⟨_, (.inl (rd_mono s k1)), ?_⟩⟩ ?_⟩
      · have hi : i < t.length := by
          have := (List.getElem?_eq_some_iff.mp hd).1
          rw [List.length_map, enumL_length] at this; exact this
        have hx := List.getElem?_eq_getElem hi
        rw [List.getElem?_map, enumL_get hx] at hd
        have hd := Option.some.inj hd
        subst hd
        obtain ⟨v, hv, dv⟩ := k2.at (show (t.map enc)[i]? = some (enc t[i]) by rw [List.getElem?_map, hx]; rfl)
        refine ⟨⟨_, v, (.inl (rd_mono s k1)), hv⟩, fun x H' y => ?_⟩
        obtain ⟨T, z, e1, e2, e3, e4⟩ := y
        have e5 := e4 _ (.inl (rd_mono s k1))
        rw [hv] at e5; cases e5
        subst e1
        refine .inr ⟨T, _, e2, e3, .tup (.inl upd_same) (.cons (.int _) (.cons (Dq_mono (same_upd (s.free e2)) _ _ dv) .nil))⟩
      · rw [k2.len, List.length_map, List.length_map, enumL_length]; exact Nat.le_refl _
      · rw [List.length_map, enumL_length]; have := (lo _ _).1 (.inl (rd_mono r'.si k1)); rw [k2.len, List.length_map] at this; exact this
def zipL {α β : Type} (l : List α) (m : List β) : List (T2 α β) := l.zipWith T2.mk m
theorem it_zip {N : List Str} {sc : Scope} {fs : Option Scope} {k : Nat} {p pos tpos : Pos} {elts : List Expr} {kk : Nat} {o : Option (List α)} {o2 : Option (List β)} (C : Ctx X N sc fs k) (hg : glbB sc "zip" = true) (hm : X.mg "zip" = none) (h : ED X G e o) (h' : ED X G e2 o2)
    (hs : starEach [e, e2] X.env = (false, eval e X.env) :: starEach [e2] X.env := by rfl) (hs2 : starEach [e2] X.env = [(false, eval e2 X.env)] := by rfl) (hpl : (backTo pos (starEach [e2] X.env)).any (·.1) = false := by rfl) :
    IT X G (.Tuple elts kk tpos) (.Call (.Name "zip" p) [e, e2] [] pos) (lift2 zipL o o2) := fun l hl => by
  obtain ⟨t, u, h1, h2, h3⟩ := lift2_get hl
  subst h3
  have pa : PA X [e, e2] (tA X.K G [enc t, enc u]) := ad_cons h (ad_cons h' ad_nil hs2) hs _ (by rw [h1, h2]; rfl)
  refine (pi_len (pi_zip (glbB_gl C.s hg).1 hm pa hs hpl) fun σ H R R' w ⟨F, I, ps, r, q⟩ => ⟨F, I, ps, r, fun v H' I' g r' d => by obtain ⟨a, b, xs, ys, e, z1, z2, q⟩ := q v H' I' g r' d; exact ⟨a, b, xs, ys, e, z1, z2, w _ _ q⟩⟩).imp
    fun σ H R ⟨F, I, ps, r, q⟩ => ⟨F, I, ps, r, fun vs H' I' g r' d => ?_⟩
  cases d with
  | cons d1 d2 =>
    cases d2 with
    | cons d2 d3 =>
      cases d3
      cases d1 with
      | lst k1 k2 =>
        cases d2 with
        | lst k3 k4 =>
          have ln : (zipL t u).length = min t.length u.length := by unfold zipL; rw [List.length_zipWith]
          refine ⟨_, _, _, _, rfl, (.inl (rd_mono r'.si k1)), (.inl (rd_mono r'.si k3)), fun lo => q _ _ I' g r' ⟨fun i d H s hd => ?_, fun H s => ⟨_, _, (.inl (rd_mono s k1)), (.inl (rd_mono s k3)), ?_⟩⟩ ?_⟩
          · have hi : i < min t.length u.length := by
              have := (List.getElem?_eq_some_iff.mp hd).1
              rw [List.length_map, ln] at this; exact this
            have hx : t[i]? = some t[i] := List.getElem?_eq_getElem (by omega)
            have hy : u[i]? = some u[i] := List.getElem?_eq_getElem (by omega)
            unfold zipL at hd
            rw [List.getElem?_map, List.getElem?_zipWith, hx, hy] at hd
            have hd := Option.some.inj hd
            subst hd
            obtain ⟨v, hv, dv⟩ := k2.at (show (t.map enc)[i]? = some (enc t[i]) by rw [List.getElem?_map, hx]; rfl)
            obtain ⟨w, hw, dw⟩ := k4.at (show (u.map enc)[i]? = some (enc u[i]) by rw [List.getElem?_map, hy]; rfl)
            refine ⟨⟨_, _, v, w, (.inl (rd_mono s k1)), (.inl (rd_mono s k3)), hv, hw⟩, fun x H' y => ?_⟩
            obtain ⟨T, z, z', e1, e2, e3, e4, e5⟩ := y
            have e4 := e4 _ (.inl (rd_mono s k1))
            have e5 := e5 _ (.inl (rd_mono s k3))
            rw [hv] at e4; cases e4
            rw [hw] at e5; cases e5
            subst e1
            have m := same_upd (o := HO.tup [v, w]) (s.free e2)
            refine .inr ⟨T, _, e2, e3, .tup (.inl upd_same) (.cons (Dq_mono m _ _ dv) (.cons (Dq_mono m _ _ dw) .nil))⟩
          · rw [k2.len, k4.len, List.length_map, List.length_map, List.length_map, ln]; omega
          · rw [List.length_map, ln]; have := (lo _ _).1 (.inl (rd_mono r'.si k1)); rw [k2.len, List.length_map] at this; omega
end

/-! ### for -/
def forL {S B R α : Type} (step : S → α → Option (Out S S R)) : S → List α → Option (Out S B R)
  | s, [] => some (.nx s)
  | s, x :: xs => (step s x).bind fun o => match o with
    | .nx s' => forL step s' xs
    | .ct s' => forL step s' xs
    | .bk s' => some (.nx s')
    | .rt r => some (.rt r)
theorem forL_at {S B R α : Type} {step : S → α → Option (Out S S R)} {s : S} {l : List α} {i : Nat} {x : α} {z : Out S B R} (h : l[i]? = some x) (e : forL step s (l.drop i) = some z) :
    ∃ o, step s x = some o ∧ (match o with
    | .nx s' => forL step s' (l.drop (i + 1)) = some z
    | .ct s' => forL step s' (l.drop (i + 1)) = some z
    | .bk s' => z = .nx s'
    | .rt r => z = .rt r) := by
  obtain ⟨hi, hx⟩ := List.getElem?_eq_some_iff.mp h
  rw [List.drop_eq_getElem_cons hi, hx] at e
  unfold forL at e
  obtain ⟨o, h1, h2⟩ := bind_get e
  refine ⟨o, h1, ?_⟩
  cases o with
  | nx s => exact h2
  | ct s => exact h2
  | bk s => exact (Option.some.inj h2).symm
  | rt r => exact (Option.some.inj h2).symm
theorem forL_end {S B R α : Type} {step : S → α → Option (Out S S R)} {s : S} {l : List α} {i : Nat} {z : Out S B R} (h : l.length ≤ i) (e : forL step s (l.drop i) = some z) : z = .nx s := by
  rw [List.drop_eq_nil_of_le h] at e
  exact (Option.some.inj e).symm
section
variable {X : Cx} {G : List Sl} {S S1 B R : Type} [Enc R] {P : S → List Sl} {P1 : S1 → List Sl} {PB : B → List Sl} {own : Rk} {rest body : List Stmt} {α : Type} [Enc α] {N : List Str} {sc : Scope} {fs : Option Scope} {k : Nat} {tg iter : Expr} {g : L2.TG} {js : List Nat} {f : α → List Sl → List Sl} {pos : Pos}
theorem sv_for {step : S1 → α → Option (Out S1 S1 R)} {s0 : S1} {ol : Option (List α)} {kk : S1 → Option (Out S B R)} (C : Ctx X N sc fs k) (hi : IT X G tg iter ol) (hg : PG X tg g) (ht : Tgt X.K g js f) (hu : ∀ s, unAt (P1 s) js = true) (hw : WkR G (P1 s0))
    (hb : ∀ s x, SV X (f x (P1 s)) body P1 P1 own.s (step s x)) (hk : ∀ s, SV X (P1 s) rest P PB own (kk s)) (hs : ∀ x, foldedSetIterable iter X.env x = pure x := by intro _; rfl) :
    SV X G (.For tg iter body [] pos :: rest) P PB own (ol.bind fun l => bindOut (forL step s0 l) kk) := fun y hy => by
  obtain ⟨l, h1, h2⟩ := bind_get hy
  unfold bindOut at h2
  obtain ⟨z, hz, h2⟩ := bind_get h2
  have pb : PSs X body (fun D σ H => ∃ s x o, step s x = some o ∧ tS X.K (f x (P1 s)) P1 P1 own.s o D σ H) := ⟨fun pins st σ H D I ⟨s, x, o, e, t⟩ => (hb s x o e).run pins st σ H D I t⟩
  have pf := ps_for (pos := pos) C.px C.calm (hi l h1) hg pb hs
  -- the loop, for any end wished
  have key : ∀ (D : Ends) (σ : L2.St) (H F I : Hp) (ps : Nat → Option Addr), RS X.K F G σ H I ps →
      (match z with
        | .nx s => ∀ σ' H' I' ps', Grow F I I' → RS X.K F (P1 s) σ' H' I' ps' → D.nx σ' H'
        | .rt r => ∀ v H' I', Grow F I I' → Same F H' → Same I' H' → RetR X.K own.k F I' H' v (enc r) → D.rt v H'
        | _ => True) → tFor (tI X.K G (l.map enc)) g (fun D σ H => ∃ s x o, step s x = some o ∧ tS X.K (f x (P1 s)) P1 P1 own.s o D σ H) D σ H := by
    intro D σ H F I ps r q
    refine ⟨F, I, ps, r, fun J H1 I1 g1 r1 wl lenl => ?_⟩
    obtain ⟨I2, ps2, g2, r2⟩ := hw _ _ _ _ _ _ r1
    have gI : Grow F I I2 := g1.trans g2
    refine ⟨fun i m σ H => m = l.length - i ∧ i ≤ l.length ∧ ∃ s I' ps', forL step s (l.drop i) = some z ∧ Grow F I2 I' ∧ RS X.K F (P1 s) σ H I' ps', ⟨_, rfl, Nat.zero_le _, s0, I2, ps2, hz, Grow.refl, r2⟩, ?_⟩
    rintro i m σ3 H3 ⟨rfl, hi, s, I3, ps3, ez, g3, r3⟩
    have sI : Same I1 H3 := (g2.same.trans g3.same).trans r3.si
    by_cases hlt : i < l.length
    · have hx : l[i]? = some l[i] := List.getElem?_eq_getElem hlt
      obtain ⟨o, ho, hm⟩ := forL_at hx ez
      obtain ⟨go, yl⟩ := wl.go i (enc l[i]) H3 sI (by rw [List.getElem?_map, hx]; rfl)
      refine .inr ⟨go, fun σ' H' => ∃ s I' ps', forL step s (l.drop (i + 1)) = some z ∧ Grow F I2 I' ∧ RS X.K F (P1 s) σ' H' I' ps', fun σ' H' hN => ⟨l.length - (i + 1), by omega, rfl, hlt, hN⟩, fun x H4 y4 => ?_⟩
      -- the item's data in a persistent part
      have item : ∃ I4, Grow F I3 I4 ∧ RS X.K F (P1 s) σ3 H4 I4 ps3 ∧ Dq I4 x (enc l[i]) := by
        rcases yl x H4 y4 with ⟨e, d⟩ | ⟨T, o, n, e, d⟩
        · subst e; exact ⟨I3, Grow.refl, r3, Dq_mono (g2.same.trans g3.same) _ _ d⟩
        · subst e
          refine ⟨upd I3 T o, r3.grow_new n, r3.new n, Dq_mono (fun b u q => ?_) _ _ d⟩
          by_cases c : b = T
          · subst c; rw [upd_same] at q ⊢; exact q
          · rw [upd_ne c] at q ⊢; exact (g2.same.trans g3.same) _ _ q
      obtain ⟨I4, g4, r4, d4⟩ := item
      refine ht.go l[i] (P1 s) F σ3 H4 I4 ps3 x _ r4 (unAt_ps r4 (hu s)) d4 fun σ5 r5 _ _ => ?_
      refine ⟨s, l[i], o, ho, F, I4, ps3, r5, ?_⟩
      cases o with
      | nx s' => exact fun σ' H' I' ps' g' r' => ⟨s', I', ps', hm, g3.trans (g4.trans g'), r'⟩
      | ct s' => exact fun σ' H' I' ps' g' r' => ⟨s', I', ps', hm, g3.trans (g4.trans g'), r'⟩
      | bk s' =>
        have hm : z = .nx s' := hm
        subst hm
        exact fun σ' H' I' ps' g' r' => q σ' H' I' ps' (gI.trans (g3.trans (g4.trans g'))) r'
      | rt w =>
        have hm : z = .rt w := hm
        subst hm
        exact fun v H' I' g' s1 s2 rr => q v H' I' (gI.trans (g3.trans (g4.trans g'))) s1 s2 rr
    · have e := forL_end (by omega) ez
      subst e
      have wst := wl.st H3 sI
      rw [List.length_map, show l.length = i by omega] at wst
      exact .inl ⟨wst, q σ3 H3 I3 ps3 (gI.trans g3) r3⟩
  cases z with
  | nx s => exact (pss_cons pf (hk s y h2)).imp fun D σ H ⟨F, I, ps, r, q⟩ => key _ σ H F I ps r fun σ1 H1 I1 ps1 g1 r1 => tS_after (H := H) (ps := ps) (σ := σ) g1 r1 q
  | rt w => cases h2; exact (pss_cons pf pss_never).imp fun D σ H ⟨F, I, ps, r, q⟩ => key _ σ H F I ps r fun v H' I' g s1 s2 rr => q v H' I' g.b s1 s2 rr
  | bk b => cases h2; exact (pss_cons pf pss_never).imp fun D σ H ⟨F, I, ps, r, q⟩ => False.elim (by
      have : ∀ (s : S1) (l : List α) (b : B), forL step s l ≠ some (Out.bk b) := by
        intro s l b
        induction l generalizing s with
        | nil => intro h; cases h
        | cons x xs ih =>
          intro h
          unfold forL at h
          obtain ⟨o, _, h⟩ := bind_get h
          cases o with
          | nx s => exact ih s h
          | ct s => exact ih s h
          | bk s => cases h
          | rt r => cases h
      exact this s0 l b hz)
  | ct b => cases h2; exact (pss_cons pf pss_never).imp fun D σ H ⟨F, I, ps, r, q⟩ => False.elim (by
      have : ∀ (s : S1) (l : List α) (b : B), forL step s l ≠ some (Out.ct b) := by
        intro s l b
        induction l generalizing s with
        | nil => intro h; cases h
        | cons x xs ih =>
          intro h
          unfold forL at h
          obtain ⟨o, _, h⟩ := bind_get h
          cases o with
          | nx s => exact ih s h
          | ct s => exact ih s h
          | bk s => cases h
          | rt r => cases h
      exact this s0 l b hz)

/-! ### while -/
def whileF {S B R : Type} (c : S → Option Bool) (b : S → Option (Out S S R)) : Nat → S → Option (Out S B R)
  | 0, _ => none
  | n + 1, s => (c s).bind fun t => bif t then (b s).bind (fun o => match o with
      | .nx s' => whileF c b n s'
      | .ct s' => whileF c b n s'
      | .bk s' => some (.nx s')
      | .rt r => some (.rt r)) else some (.nx s)
theorem sv_while {c : Expr} {oc : S1 → Option Bool} {ob : S1 → Option (Out S1 S1 R)} {n : Nat} {s0 : S1} {kk : S1 → Option (Out S B R)} (C : Ctx X N sc fs k) (hw : WkR G (P1 s0)) (hc : ∀ s, EB X (P1 s) c (oc s)) (hb : ∀ s, SV X (P1 s) body P1 P1 own.s (ob s)) (hk : ∀ s, SV X (P1 s) rest P PB own (kk s)) :
    SV X G (.While c body [] pos :: rest) P PB own (bindOut (whileF oc ob n s0) kk) := fun y hy => by
  unfold bindOut at hy
  obtain ⟨z, hz, h2⟩ := bind_get hy
  have pc : PT X c (fun σ H Q => ∃ s t, oc s = some t ∧ tB X.K (P1 s) t σ H Q) := ⟨fun pins st σ H Q I ⟨s, t, e, q⟩ => (hc s t e).run pins st σ H Q I q⟩
  have pb : PSs X body (fun D σ H => ∃ s o, ob s = some o ∧ tS X.K (P1 s) P1 P1 own.s o D σ H) := ⟨fun pins st σ H D I ⟨s, o, e, t⟩ => (hb s o e).run pins st σ H D I t⟩
  have pf := ps_while (pos := pos) C.px pc pb
  have key : ∀ (D : Ends) (σ : L2.St) (H F I : Hp) (ps : Nat → Option Addr), RS X.K F G σ H I ps →
      (match z with
        | .nx s => ∀ σ' H' I' ps', Grow F I I' → RS X.K F (P1 s) σ' H' I' ps' → D.nx σ' H'
        | .rt r => ∀ v H' I', Grow F I I' → Same F H' → Same I' H' → RetR X.K own.k F I' H' v (enc r) → D.rt v H'
        | _ => True) → tWhile (fun σ H Q => ∃ s t, oc s = some t ∧ tB X.K (P1 s) t σ H Q) (fun D σ H => ∃ s o, ob s = some o ∧ tS X.K (P1 s) P1 P1 own.s o D σ H) D σ H := by
    intro D σ H F I ps r q
    obtain ⟨I2, ps2, g2, r2⟩ := hw _ _ _ _ _ _ r
    refine ⟨fun m σ H => ∃ s I' ps', whileF oc ob m s = some z ∧ Grow F I I' ∧ RS X.K F (P1 s) σ H I' ps', ⟨n, s0, I2, ps2, hz, g2, r2⟩, ?_⟩
    rintro m σ3 H3 ⟨s, I3, ps3, ez, g3, r3⟩
    cases m with
    | zero => cases ez
    | succ m =>
      unfold whileF at ez
      obtain ⟨t, ht, ez⟩ := bind_get ez
      refine ⟨s, t, ht, F, I3, ps3, r3, fun H4 I4 g4 r4 => ?_⟩
      cases t with
      | false =>
        rw [cond_false] at ez
        have ez := Option.some.inj ez
        subst ez
        exact iteF (q σ3 H4 I4 ps3 (g3.trans g4) r4)
      | true =>
        rw [cond_true] at ez
        obtain ⟨o, ho, ez⟩ := bind_get ez
        refine iteT ⟨fun σ' H' => ∃ s I' ps', whileF oc ob m s = some z ∧ Grow F I I' ∧ RS X.K F (P1 s) σ' H' I' ps', fun σ' H' hN => ⟨m, Nat.lt_succ_self _, hN⟩, s, o, ho, F, I4, ps3, r4, ?_⟩
        cases o with
        | nx s' => exact fun σ' H' I' ps' g' r' => ⟨s', I', ps', ez, g3.trans (g4.trans g'), r'⟩
        | ct s' => exact fun σ' H' I' ps' g' r' => ⟨s', I', ps', ez, g3.trans (g4.trans g'), r'⟩
        | bk s' =>
          have ez := Option.some.inj ez
          subst ez
          exact fun σ' H' I' ps' g' r' => q σ' H' I' ps' (g3.trans (g4.trans g')) r'
        | rt w =>
          have ez := Option.some.inj ez
          subst ez
          exact fun v H' I' g' s1 s2 rr => q v H' I' (g3.trans (g4.trans g')) s1 s2 rr
  have no : ∀ (n : Nat) (s : S1) (b : B), whileF oc ob n s ≠ some (Out.bk b) ∧ whileF oc ob n s ≠ some (Out.ct b) := by
    intro n
    induction n with
    | zero => intro s b; exact ⟨(fun h => by cases h), (fun h => by cases h)⟩
    | succ n ih =>
      intro s b
      constructor <;> (
        intro h
        unfold whileF at h
        obtain ⟨t, _, h⟩ := bind_get h
        cases t with
        | false => cases h
        | true =>
          rw [cond_true] at h
          obtain ⟨o, _, h⟩ := bind_get h
          cases o with
          | nx s => first | exact (ih s b).1 h | exact (ih s b).2 h
          | ct s => first | exact (ih s b).1 h | exact (ih s b).2 h
          | bk s => cases h
          | rt r => cases h)
  cases z with
  | nx s => exact (pss_cons pf (hk s y h2)).imp fun D σ H ⟨F, I, ps, r, q⟩ => key _ σ H F I ps r fun σ1 H1 I1 ps1 g1 r1 => tS_after (H := H) (ps := ps) (σ := σ) g1 r1 q
  | rt w => cases h2; exact (pss_cons pf pss_never).imp fun D σ H ⟨F, I, ps, r, q⟩ => key _ σ H F I ps r fun v H' I' g s1 s2 rr => q v H' I' g.b s1 s2 rr
  | bk b => exact absurd hz (no n s0 b).1
  | ct b => exact absurd hz (no n s0 b).2
end
end Lay

set_option Elab.async false
set_option linter.all false
set_option maxRecDepth 100000
/-! Lay6: list comprehensions, unpacking, stores to lists. -/
namespace Lay
open PySem PySem.Spec PyProof.Rows L2
open Lay.Enc (enc)

/-! ### comprehensions -/
def wipeG (G : List Sl) : List Nat → List Sl
  | [] => G
  | v :: vs => (wipeG G vs).set v .un
def ownFree (G : List Sl) (vs : List Nat) : Bool := vs.all fun j => match slAt G j with | .own _ => false | _ => true
theorem ownFree_ps {K : PySem.W.Frag} {F H I : Hp} {G : List Sl} {σ : L2.St} {ps : Nat → Option Addr} (R : RS K F G σ H I ps) {js : List Nat} (h : ownFree G js = true) : ∀ j ∈ js, ps j = none := fun j hj => by
  have h1 := List.all_eq_true.mp h j hj
  by_cases c : j < G.length
  · obtain ⟨v, _, q⟩ := R.sl j c
    cases e : slAt G j with
    | un => rw [e] at q; exact q
    | dat d => rw [e] at q; exact q.1
    | rd d => rw [e] at q; exact q.1
    | old d => rw [e] at q; exact q.1
    | nw d => rw [e] at q; exact q.1
    | own ds => rw [e] at h1; cases h1
  · exact R.out j (by omega)
theorem RS.wiped {K : PySem.W.Frag} {F H I : Hp} {G : List Sl} {σ : L2.St} {ps : Nat → Option Addr} (R : RS K F G σ H I ps) : ∀ (vs : List Nat), (∀ j ∈ vs, ps j = none) → RS K F (wipeG G vs) (wipe σ vs) H I ps
  | [], _ => R
  | v :: vs, h => by
    have R' := (RS.wiped R vs fun j hj => h j (List.mem_cons_of_mem _ hj)).setUn (i := v) (v := none)
    rw [psDel_none (h v List.mem_cons_self)] at R'
    exact R'
theorem wipeG_out {G : List Sl} {i : Nat} : ∀ {vs : List Nat}, i ∉ vs → slAt (wipeG G vs) i = slAt G i
  | [], _ => rfl
  | v :: vs, h => by
    show slAt ((wipeG G vs).set v .un) i = _
    rw [slAt_set_ne (fun e => h (by simp [e])), wipeG_out (fun z => h (List.mem_cons_of_mem _ z))]
theorem wipe_none : ∀ {vs : List Nat} {σ : L2.St} {i : Nat}, i ∈ vs → i < σ.length → (wipe σ vs)[i]? = some none
  | [], _, _, h, _ => by simp at h
  | v :: vs, σ, i, h, hl => by
    show ((wipe σ vs).set v none)[i]? = _
    by_cases e : v = i
    · subst e; rw [List.getElem?_set_self (by rw [wipe_length]; exact hl)]
    · rw [List.getElem?_set_ne e]
      exact wipe_none ((List.mem_cons.mp h).resolve_left fun z => e z.symm) hl
theorem wipe_other : ∀ {vs : List Nat} {σ : L2.St} {i : Nat}, i ∉ vs → (wipe σ vs)[i]? = σ[i]?
  | [], _, _, _ => rfl
  | v :: vs, σ, i, h => by
    show ((wipe σ vs).set v none)[i]? = _
    rw [List.getElem?_set_ne (fun e => h (by simp [e]))]
    exact wipe_other fun z => h (List.mem_cons_of_mem _ z)
theorem wipe_wipe {σ : L2.St} {vs : List Nat} : wipe (wipe σ vs) vs = wipe σ vs := by
  refine List.ext_getElem? fun i => ?_
  by_cases h : i ∈ vs
  · by_cases hl : i < σ.length
    · rw [wipe_none h (by rw [wipe_length]; exact hl), wipe_none h hl]
    · rw [List.getElem?_eq_none (by rw [wipe_length, wipe_length]; omega), List.getElem?_eq_none (by rw [wipe_length]; omega)]
  · rw [wipe_other h]
/-- behind what ran in another frame's words -/
theorem RS.back {K : PySem.W.Frag} {F F' H H' I I' : Hp} {G G' : List Sl} {σ σ' : L2.St} {ps : Nat → Option Addr} (R : RS K F G σ H I ps) (R' : RS K F' G' σ' H' I' ps) (sF : Same F F') (g : Same I I') (hG : ∀ i ds, slAt G i = .own ds → slAt G' i = .own ds ∧ i < G'.length) : RS K F G σ H' I' ps where
  si := R'.si
  sf := sF.trans R'.sf
  fo := R.fo
  len := R.len
  sl := fun i hi => by
    obtain ⟨v, h1, h2⟩ := R.sl i hi
    refine ⟨v, h1, ?_⟩
    cases e : slAt G i with
    | un => rw [e] at h2; exact h2
    | dat d => rw [e] at h2; obtain ⟨e1, x, e2, d⟩ := h2; exact ⟨e1, x, e2, Dq_mono g _ _ d⟩
    | rd ds => rw [e] at h2; obtain ⟨e1, a, xs, e2, q, d⟩ := h2; exact ⟨e1, a, xs, e2, Same.seq g q, DqAll_mono g _ _ d⟩
    | old d => rw [e] at h2; obtain ⟨e1, x, e2, d⟩ := h2; exact ⟨e1, x, e2, Dq_mono (rgO_mono g) _ _ d⟩
    | nw d => rw [e] at h2; obtain ⟨e1, x, e2, d⟩ := h2; exact ⟨e1, x, e2, Dq_mono (rgN_mono g) _ _ d⟩
    | own ds =>
      rw [e] at h2
      obtain ⟨a, xs, e1, e2, _⟩ := h2
      obtain ⟨e', hi'⟩ := hG i ds e
      obtain ⟨v', _, h3⟩ := R'.sl i hi'
      rw [e'] at h3
      obtain ⟨a', xs', e1', _, n', hH', d'⟩ := h3
      rw [e1] at e1'; cases e1'
      exact ⟨a, xs', e1, e2, n', hH', d'⟩
  out := R.out
  dis := R.dis
def lcL {α β : Type} (c : α → Option Bool) (e : α → Option β) : List α → Option (List β)
  | [] => some []
  | x :: xs => (c x).bind fun t => bif t then (e x).bind fun y => (lcL c e xs).bind fun r => some (y :: r) else lcL c e xs
theorem lcL_at {α β : Type} {c : α → Option Bool} {e : α → Option β} {l : List α} {i : Nat} {x : α} {r : List β} (h : l[i]? = some x) (h2 : lcL c e (l.drop i) = some r) :
    ∃ t, c x = some t ∧ ((t = true ∧ ∃ y r', e x = some y ∧ r = y :: r' ∧ lcL c e (l.drop (i + 1)) = some r') ∨ (t = false ∧ lcL c e (l.drop (i + 1)) = some r)) := by
  obtain ⟨hi, hx⟩ := List.getElem?_eq_some_iff.mp h
  rw [List.drop_eq_getElem_cons hi, hx] at h2
  unfold lcL at h2
  obtain ⟨t, h3, h4⟩ := bind_get h2
  refine ⟨t, h3, ?_⟩
  cases t with
  | true =>
    rw [cond_true] at h4
    obtain ⟨y, h5, h6⟩ := bind_get h4
    obtain ⟨r', h7, h8⟩ := bind_get h6
    exact .inl ⟨rfl, y, r', h5, (Option.some.inj h8).symm, h7⟩
  | false => exact .inr ⟨rfl, h4⟩
theorem lcL_len {α β : Type} {c : α → Option Bool} {e : α → Option β} : ∀ {l : List α} {r : List β}, lcL c e l = some r → r.length ≤ l.length
  | [], r, h => by cases h; simp
  | x :: xs, r, h => by
    unfold lcL at h
    obtain ⟨t, _, h⟩ := bind_get h
    cases t with
    | true =>
      rw [cond_true] at h
      obtain ⟨y, _, h⟩ := bind_get h
      obtain ⟨r', h1, h⟩ := bind_get h
      cases h
      have := lcL_len h1
      simpa using this
    | false => have := lcL_len (l := xs) h; simp; omega
/-- a block's tests -/
def ETs (X : Cx) (G : List Sl) (ifs : List Expr) (o : Option Bool) : Prop := ∀ b, o = some b → PTs X ifs (tB X.K G b)
theorem ets_nil {X : Cx} {G : List Sl} : ETs X G [] (some true) := fun b h => by
  cases h
  exact ⟨fun pins s σ H Q I ⟨F, I', ps, r, q⟩ => pts_nil.run pins s σ H Q I (q _ _ Grow.refl r)⟩
theorem ets_one {X : Cx} {G : List Sl} {c : Expr} {o : Option Bool} (h : EB X G c o) : ETs X G [c] o := fun b hb => pts_one (h b hb)
/-- a comprehension as a value, and as what is stored on its line -/
def LC (X : Cx) (G : List Sl) (e : Expr) {α : Type} [Enc α] (o : Option (List α)) : Prop := ∀ l, o = some l → ∃ t : TE, PE X e t ∧
  (∀ (i : Nat) (y : Str) (py sp : Pos), X.N[i]? = some y → X.env.scope.names.lookup y = some .local → swapsWith e (some (.Name y py)) sp.line X.env = pure true → PS X (.Assign [.Name y py] e sp) (tAsg t (gName i))) ∧
  ∀ σ H Q, tO X.K G (l.map enc) σ H Q → t σ H Q
section
variable {X : Cx} {G : List Sl} {N : List Str} {sc : Scope} {fs : Option Scope} {k : Nat} {α β : Type} [Enc α] [Enc β] {elt tg iter : Expr} {ifs : List Expr} {scope : Scope} {pos : Pos} {g : L2.TG} {js : List Nat} {f : α → List Sl → List Sl}
theorem lc_mk {own : List (Str × Nat)} {ol : Option (List α)} {oc : α → Option Bool} {oe : α → Option β} (C : Ctx X N sc fs k) (hi : IT X G tg iter ol) (ok : blkC N sc scope own = true)
    (hg : ∀ s H Ca cl fp, PG (X.blk s H scope (compEnvC scope cl Ca X.env) fp) tg g) (ht : Tgt X.K g js f) (hj : ∀ j ∈ js, j ∈ own.map (·.2)) (hf : ownFree G (own.map (·.2)) = true)
    (hc : ∀ s H Ca cl fp x, ETs (X.blk s H scope (compEnvC scope cl Ca X.env) fp) (f x (wipeG G (own.map (·.2)))) ifs (oc x))
    (he : ∀ s H Ca cl fp x, ED (X.blk s H scope (compEnvC scope cl Ca X.env) fp) (f x (wipeG G (own.map (·.2)))) elt (oe x)) (hs : ∀ x, foldedSetIterable iter X.env x = pure x := by intro _; rfl) :
    LC X G (.ListComp elt [⟨tg, iter, ifs, 0⟩] scope pos) (ol.bind (lcL oc oe)) := fun r hr => by
  obtain ⟨l, h1, h2⟩ := bind_get hr
  obtain ⟨vs, hvs⟩ : ∃ vs, own.map (·.2) = vs := ⟨_, rfl⟩
  rw [hvs] at hj hf
  simp only [hvs] at hc he
  let te : TE := fun σ H Q => ∃ x y, oe x = some y ∧ tD X.K (f x (wipeG G vs)) (enc y) σ H Q
  let tt : TT := fun σ H Q => ∃ x b, oc x = some b ∧ tB X.K (f x (wipeG G vs)) b σ H Q
  have pe : ∀ s H Ca cl fp, PE (X.blk s H scope (compEnvC scope cl Ca X.env) fp) elt te := fun s H Ca cl fp => ⟨fun pins st σ H' Q I ⟨x, y, e, q⟩ => (he s H Ca cl fp x y e).run pins st σ H' Q I q⟩
  have pt : ∀ s H Ca cl fp, PTs (X.blk s H scope (compEnvC scope cl Ca X.env) fp) ifs tt := fun s H Ca cl fp => ⟨fun pins st σ H' Q I ⟨x, b, e, q⟩ => (hc s H Ca cl fp x b e).run pins st σ H' Q I q⟩
  have nd : X.N.Nodup := by rw [C.n]; exact C.nd
  have bk : BlkOk X.N X.env.scope scope own := by rw [C.n, C.s]; exact blkOk_by ok
  refine ⟨_, pe_lc C.calm nd (hi l h1) bk hg pt pe hs, fun i y py sp a b c => ps_setLc C.calm nd a b c (hi l h1) bk hg pt pe hs, fun σ H Q ⟨F, I, ps, R, q⟩ => ?_⟩
  rw [hvs]
  refine ⟨F, I, ps, R, fun J H1 I1 gr1 R1 wl ll D hD => ?_⟩
  have ll : l.length ≤ sizeLine := by rw [List.length_map] at ll; exact ll
  have hD1 : I1 D = none := R1.si.free hD
  have hDF : F D = none := R1.sf.free hD
  have hDp : ∀ i, ps i ≠ some D := fun i c => by obtain ⟨_, _, xs, z⟩ := R1.own_at c; rw [hD] at z; cases z
  -- the state between turns: the list made so far at D, the rest to be made
  refine ⟨fun i m H => m = l.length - i ∧ i ≤ l.length ∧ ∃ I' xs done rst, Grow F I1 I' ∧ RS X.K F G σ H I' ps ∧ I' D = none ∧ H D = some (.lst xs) ∧ DqAll I' xs (done.map enc) ∧ done.length ≤ i ∧ lcL oc oe (l.drop i) = some rst ∧ r = done ++ rst,
    ⟨_, rfl, Nat.zero_le _, I1, [], [], r, Grow.refl, R1.newOwn hD, hD1, upd_same, .nil, Nat.le_refl _, h2, rfl⟩, ?_⟩
  rintro i m H3 ⟨rfl, hil, I3, xs, done, rst, gr3, R3, n3, hD3, d3, hlen, hr3, er⟩
  have sI : Same I1 H3 := gr3.same.trans R3.si
  by_cases hlt : i < l.length
  · have hx : l[i]? = some l[i] := List.getElem?_eq_getElem hlt
    obtain ⟨t, ht1, ht2⟩ := lcL_at hx hr3
    obtain ⟨go, yl⟩ := wl.go i (enc l[i]) H3 sI (by rw [List.getElem?_map, hx]; rfl)
    refine .inr ⟨go, fun H' => ∃ I' xs done rst, Grow F I1 I' ∧ RS X.K F G σ H' I' ps ∧ I' D = none ∧ H' D = some (.lst xs) ∧ DqAll I' xs (done.map enc) ∧ done.length ≤ i + 1 ∧ lcL oc oe (l.drop (i + 1)) = some rst ∧ r = done ++ rst,
      fun H' hN => ⟨l.length - (i + 1), by omega, rfl, hlt, hN⟩, fun x H4 y4 => ?_⟩
    have item : ∃ I4, Grow F I3 I4 ∧ RS X.K F G σ H4 I4 ps ∧ Dq I4 x (enc l[i]) ∧ I4 D = none ∧ H4 D = some (.lst xs) := by
      rcases yl x H4 y4 with ⟨e, d⟩ | ⟨T, o, n, e, d⟩
      · subst e; exact ⟨I3, Grow.refl, R3, Dq_mono gr3.same _ _ d, n3, hD3⟩
      · subst e
        have nT : D ≠ T := ne_of_none hD3 n
        refine ⟨upd I3 T o, R3.grow_new n, R3.new n, Dq_mono (fun b u q => ?_) _ _ d, by rw [upd_ne nT]; exact n3, by rw [upd_ne nT]; exact hD3⟩
        by_cases c : b = T
        · subst c; rw [upd_same] at q ⊢; exact q
        · rw [upd_ne c] at q ⊢; exact gr3.same _ _ q
    obtain ⟨I4, g4, R4, d4, n4, hD4⟩ := item
    -- within the turn the new list stands for others
    have inner : ∀ {H' I'}, RS X.K F G σ H' I' ps → I' D = none → H' D = some (.lst xs) → RS X.K (upd F D (.lst xs)) G σ H' I' ps := fun {H' I'} r n h => r.frame (fun b o z => by
      by_cases c : b = D
      · subst c; rw [upd_same] at z; cases z; exact h
      · rw [upd_ne c] at z; exact r.sf _ _ z) (fun i a ha => by rw [upd_ne (fun c : a = D => hDp i (by rw [← c]; exact ha))]; exact r.fo i a ha) (upd_iff n)
    have sF : Same F (upd F D (.lst xs)) := same_upd hDF
    have outer : ∀ {I' I''}, Grow (upd F D (.lst xs)) I' I'' → Grow F I' I'' := fun {I' I''} g => ⟨g.same, fun a h => (g.out a h).imp_right sF.free⟩
    have keepD : ∀ {I' I''}, Grow (upd F D (.lst xs)) I' I'' → I' D = none → I'' D = none := fun {I' I''} g n => by
      cases z : I'' D with
      | none => rfl
      | some o =>
        rcases g.out D (by rw [z]; simp) with h | h
        · exact absurd n h
        · rw [upd_same] at h; cases h
    have hpv := ownFree_ps R4 hf
    have Rw := (inner R4 n4 hD4).wiped vs hpv
    refine ht.go l[i] _ _ _ H4 I4 ps x _ Rw (fun j h => hpv j (hj j h)) d4 fun σ5 R5 w5 o5 => ⟨(w5 vs hj).trans wipe_wipe, ?_⟩
    -- what stands of the outer state behind
    have hG : ∀ (j : Nat) ds, slAt G j = .own ds → slAt (f (l[i]'hlt) (wipeG G vs)) j = .own ds ∧ j < (f (l[i]'hlt) (wipeG G vs)).length := fun j ds h => by
      have nv : j ∉ vs := fun z => by
        have q := List.all_eq_true.mp hf j z
        rw [h] at q; cases q
      have e : slAt (f (l[i]'hlt) (wipeG G vs)) j = .own ds := by rw [o5 j (fun z => nv (hj j z)), wipeG_out nv]; exact h
      refine ⟨e, ?_⟩
      by_cases c : j < (f (l[i]'hlt) (wipeG G vs)).length
      · exact c
      · rw [slAt_out (by omega)] at e; cases e
    refine ⟨l[i], t, ht1, upd F D (.lst xs), I4, ps, R5, fun H6 I6 g6 R6 => ?_⟩
    rcases ht2 with ⟨rfl, y, r', hy, er2, hr4⟩ | ⟨rfl, hr4⟩
    · refine iteT ⟨l[i], y, hy, upd F D (.lst xs), I6, ps, R6, fun v H7 I7 g7 R7 d7 => ?_⟩
      have g47 := outer (g6.trans g7)
      have hD7 : H7 D = some (.lst xs) := R7.sf _ _ upd_same
      have n7 : I7 D = none := keepD (g6.trans g7) n4
      have R8 := (R4.back R7 sF (g6.trans g7).same hG).wr (o := .lst (xs ++ [v])) n7 hDF hDp
      have lx : xs.length = done.length := by rw [d3.len, List.length_map]
      refine ⟨xs, hD7, by omega, I7, xs ++ [v], done ++ [y], r', gr3.trans (g4.trans g47), R8, n7, upd_same, ?_, by rw [List.length_append]; show done.length + 1 ≤ i + 1; omega, hr4, by rw [er, er2, List.append_assoc]; rfl⟩
      rw [List.map_append]
      exact (DqAll_mono (g4.trans g47).same _ _ d3).app (.cons d7 .nil)
    · have hD6 : H6 D = some (.lst xs) := R6.sf _ _ upd_same
      exact iteF ⟨I6, xs, done, rst, gr3.trans (g4.trans (outer g6)), R4.back R6 sF g6.same hG, keepD g6 n4, hD6, DqAll_mono (g4.trans (outer g6)).same _ _ d3, by omega, hr4, er⟩
  · have e : i = l.length := by omega
    subst e
    rw [List.drop_length] at hr3
    cases hr3
    rw [List.append_nil] at er
    subst er
    have wst := wl.st H3 sI
    rw [List.length_map] at wst
    exact .inl ⟨wst, q D xs H3 I3 (gr1.trans gr3) R3 n3 hDF hDp hD3 d3⟩
theorem eo_lc {e : Expr} {o : Option (List α)} (h : LC X G e o) : EO X G e o := fun l hl => let ⟨t, p, _, w⟩ := h l hl; p.imp w
end
/-! ### name = [..] -/
section
variable {X : Cx} {G : List Sl} {S B R : Type} [Enc R] {P : S → List Sl} {PB : B → List Sl} {own : Rk} {rest : List Stmt} {N : List Str} {sc : Scope} {fs : Option Scope} {k i : Nat} {x : Str} {α : Type} [Enc α] {elt : Expr} {gs : List Comprehension} {scope : Scope} {pos sp py : Pos}
/-- the name is the def's own local, no target of the comprehension, on one line -/
def swB (N : List Str) (sc scope : Scope) (i : Nat) (x : Str) : Bool := decide (N[i]? = some x) && (match sc.names.lookup x with | some .local => true | _ => false) && !(scope.names.any fun (n, k) => n == x && (k == .local || k == .cell))
theorem swB_ok (C : Ctx X N sc fs k) (h : swB N sc scope i x = true) (hl : (py.line == pos.line) = true) : X.N[i]? = some x ∧ X.env.scope.names.lookup x = some .local ∧ swapsWith (.ListComp elt gs scope pos) (some (.Name x py)) sp.line X.env = pure true := by
  unfold swB at h
  simp only [Bool.and_eq_true, decide_eq_true_eq, Bool.not_eq_true'] at h
  obtain ⟨⟨h1, h2⟩, h3⟩ := h
  have h4 : X.env.scope.names.lookup x = some .local := by
    rw [C.s]
    split at h2
    · assumption
    · cases h2
  refine ⟨by rw [C.n]; exact h1, h4, ?_⟩
  unfold swapsWith
  have hb : X.env.blockKind = .function := by
    unfold Env.blockKind; rw [C.s, C.fk]; rfl
  have ky : X.env.kindOf x = some .local := h4
  simp only [hb, ky, h3, Expr.pos, hl]
  rfl
/-- the name is a cell: stored as ever -/
theorem sw_cell (C : Ctx X N sc fs k) (h : sc.names.lookup x = some .cell) : swapsWith (.ListComp elt gs scope pos) (some (.Name x py)) sp.line X.env = pure false := by
  have ky : X.env.kindOf x = some .cell := by show X.env.scope.names.lookup x = _; rw [C.s]; exact h
  unfold swapsWith
  simp [ky, show (some NameKind.cell == some NameKind.local) = false from rfl]
theorem sv_setL {oe : Option (List α)} {kk : List α → Option (Out S B R)} (C : Ctx X N sc fs k) (hx : swB N sc scope i x = true) (hl : (py.line == pos.line) = true) (he : LC X G (.ListComp elt gs scope pos) oe) (hk : ∀ v : List α, SV X (G.set i (.dat (enc v))) rest P PB own (kk v)) :
    SV X G (.Assign [.Name x py] (.ListComp elt gs scope pos) sp :: rest) P PB own (oe.bind kk) := fun y hy => by
  obtain ⟨v, h1, h2⟩ := bind_get hy
  obtain ⟨t, _, st, w⟩ := he v h1
  obtain ⟨a1, a2, a3⟩ := swB_ok (sp := sp) C hx hl
  refine (pss_cons (st i x py sp a1 a2 a3) (hk v y h2)).imp fun D σ H ⟨F, I, ps, R, q⟩ => w σ H _ ⟨F, I, ps, R, fun p xs H1 I1 g R1 n1 n2 n3 hH d => ?_⟩
  obtain ⟨g', R2, d2⟩ := frz_new g R1 n1 n2 n3 hH d
  exact tS_after (H := H) (ps := ps) (σ := σ) g' (R2.setDat d2) q
theorem sv_setLO {oe : Option (List α)} {kk : List α → Option (Out S B R)} (C : Ctx X N sc fs k) (hx : swB N sc scope i x = true) (hl : (py.line == pos.line) = true) (hi : i < G.length) (he : LC X G (.ListComp elt gs scope pos) oe) (hk : ∀ v : List α, SV X (G.set i (.own (v.map enc))) rest P PB own (kk v)) :
    SV X G (.Assign [.Name x py] (.ListComp elt gs scope pos) sp :: rest) P PB own (oe.bind kk) := fun y hy => by
  obtain ⟨v, h1, h2⟩ := bind_get hy
  obtain ⟨t, _, st, w⟩ := he v h1
  obtain ⟨a1, a2, a3⟩ := swB_ok (sp := sp) C hx hl
  exact (pss_cons (st i x py sp a1 a2 a3) (hk v y h2)).imp fun D σ H ⟨F, I, ps, R, q⟩ => w σ H _ ⟨F, I, ps, R, fun p xs H1 I1 g R1 n1 n2 n3 hH d => tS_after (H := H) (ps := ps) (σ := σ) g (R1.setOwn hi n1 n2 n3 hH d) q⟩
/-- a, b = e -/
theorem sv_unpack {tg e : Expr} {g : L2.TG} {js : List Nat} {f : α → List Sl → List Sl} {oe : Option α} {kk : α → Option (Out S B R)} (hg : PG X tg g) (ht : Tgt X.K g js f) (hu : unAt G js = true) (he : ED X G e oe) (hk : ∀ v : α, SV X (f v G) rest P PB own (kk v))
    (hs : swapsWithSole [tg] e sp.line X.env = pure false := by rfl) (hw : swappedStores [tg] e X.env = pure none := by rfl) (h1 : (assignEach [tg] X.env).map (·.2) = [assign tg X.env] := by rfl) :
    SV X G (.Assign [tg] e sp :: rest) P PB own (oe.bind kk) := fun y hy => by
  obtain ⟨v, h2, h3⟩ := bind_get hy
  refine (pss_cons (ps_asg (he v h2) hg hs hw h1) (hk v y h3)).imp fun D σ H ⟨F, I, ps, R, q⟩ => ⟨F, I, ps, R, fun w H1 I1 g R1 d => ?_⟩
  exact ht.go v G F σ H1 I1 ps w _ R1 (unAt_ps R1 hu) d fun σ' R2 _ _ => tS_after (H := H) (ps := ps) (σ := σ) g R2 q
end
end Lay

set_option Elab.async false
set_option linter.all false
set_option maxRecDepth 100000
/-! Lay7: subscripts, slices, builtins, stores to own lists. -/
namespace Lay
open PySem PySem.Spec PyProof.Rows L2
open Lay.Enc (enc)

section
variable {X : Cx} {G : List Sl} {α β γ δ : Type} [Enc α] [Enc β] [Enc γ] [Enc δ] {a b e : Expr} {pos : Pos}
theorem atI_map {γ : Type} {l : List α} {f : α → γ} {i : Int} {x : α} (h : atI l i = some x) : atI (l.map f) i = some (f x) := by
  unfold atI at h ⊢
  rw [List.length_map]
  cases q : ixN l.length i with
  | none => rw [q] at h; cases h
  | some j =>
    rw [q] at h
    show (l.map f)[j]? = some (f x)
    rw [List.getElem?_map, show l[j]? = some x from h]; rfl
theorem _root_.Lay.DqAll.atI {H : Hp} {vs : List V} {ds : List PyData} {i : Int} {d : PyData} (h : DqAll H vs ds) (e : L2.atI ds i = some d) : ∃ v, L2.atI vs i = some v ∧ Dq H v d := by
  unfold L2.atI at e ⊢
  rw [h.len]
  cases q : ixN ds.length i with
  | none => rw [q] at e; cases e
  | some j =>
    rw [q] at e
    exact h.at e
/-- xs[i] -/
theorem ed_ix {ol : Option (List α)} {oi : Option Int} (ha : ED X G a ol) (hb : ED X G b oi) (hs : PlainIx b := by intro _ _; rfl) : ED X G (.Subscript a b pos) (bind2 atI ol oi) := fun z hz => by
  obtain ⟨l, i, h1, h2, h3⟩ := bind2_get hz
  refine (pe_ix ix_list (ha l h1) (hb i h2) hs).imp (tD_op ?_)
  intro F G σ H I ps v w Q R hv hw q
  cases hw
  cases hv with
  | lst k1 k2 =>
    obtain ⟨u, hu, du⟩ := k2.atI (atI_map h3)
    exact ⟨_, _, i, u, rfl, rfl, .inl (rd_mono R.si k1), hu, q u H I Grow.refl R du⟩
theorem ed_ixT {ol : Option (Tup α)} {oi : Option Int} (ha : ED X G a ol) (hb : ED X G b oi) (hs : PlainIx b := by intro _ _; rfl) : ED X G (.Subscript a b pos) (bind2 (fun t i => atI t.l i) ol oi) := fun z hz => by
  obtain ⟨l, i, h1, h2, h3⟩ := bind2_get hz
  refine (pe_ix ix_tup (ha l h1) (hb i h2) hs).imp (tD_op ?_)
  intro F G σ H I ps v w Q R hv hw q
  cases hw
  cases hv with
  | tup k1 k2 =>
    obtain ⟨u, hu, du⟩ := k2.atI (atI_map h3)
    exact ⟨_, _, i, u, rfl, rfl, .inl (rd_mono R.si k1), hu, q u H I Grow.refl R du⟩
/-- the item of a tuple of known length at a written index -/
theorem ed_proj {o : Option α} {i : Int} {j : Nat} {p : Pos} {f : α → β} (ha : ED X G a o) (hf : ∀ x, ∃ ds, enc x = .tuple ds ∧ atI ds i = some (enc (f x))) : ED X G (.Subscript a (.Constant (.int i) j p) pos) (lift1 f o) := fun z hz => by
  obtain ⟨x, h1, h2⟩ := lift1_get hz
  subst h2
  obtain ⟨ds, e1, e2⟩ := hf x
  refine (pe_ix ix_tup (ha x h1) (ed_num (G := G) i rfl) (fun _ _ => rfl)).imp (tD_op ?_)
  intro F G σ H I ps v w Q R hv hw q
  rw [e1] at hv
  cases hw
  cases hv with
  | tup k1 k2 =>
    obtain ⟨u, hu, du⟩ := k2.atI e2
    exact ⟨_, _, i, u, rfl, rfl, .inl (rd_mono R.si k1), hu, q u H I Grow.refl R du⟩
theorem ed_20 {o : Option (T2 α β)} {j : Nat} {p : Pos} (h : ED X G a o) : ED X G (.Subscript a (.Constant (.int 0) j p) pos) (lift1 T2.a o) := ed_proj h fun x => ⟨_, rfl, rfl⟩
theorem ed_21 {o : Option (T2 α β)} {j : Nat} {p : Pos} (h : ED X G a o) : ED X G (.Subscript a (.Constant (.int 1) j p) pos) (lift1 T2.b o) := ed_proj h fun x => ⟨_, rfl, rfl⟩
theorem ed_30 {o : Option (T3 α β γ)} {j : Nat} {p : Pos} (h : ED X G a o) : ED X G (.Subscript a (.Constant (.int 0) j p) pos) (lift1 T3.a o) := ed_proj h fun x => ⟨_, rfl, rfl⟩
theorem ed_31 {o : Option (T3 α β γ)} {j : Nat} {p : Pos} (h : ED X G a o) : ED X G (.Subscript a (.Constant (.int 1) j p) pos) (lift1 T3.b o) := ed_proj h fun x => ⟨_, rfl, rfl⟩
theorem ed_32 {o : Option (T3 α β γ)} {j : Nat} {p : Pos} (h : ED X G a o) : ED X G (.Subscript a (.Constant (.int 2) j p) pos) (lift1 T3.c o) := ed_proj h fun x => ⟨_, rfl, rfl⟩
theorem ed_40 {o : Option (T4 α β γ δ)} {j : Nat} {p : Pos} (h : ED X G a o) : ED X G (.Subscript a (.Constant (.int 0) j p) pos) (lift1 T4.a o) := ed_proj h fun x => ⟨_, rfl, rfl⟩
theorem ed_41 {o : Option (T4 α β γ δ)} {j : Nat} {p : Pos} (h : ED X G a o) : ED X G (.Subscript a (.Constant (.int 1) j p) pos) (lift1 T4.b o) := ed_proj h fun x => ⟨_, rfl, rfl⟩
theorem ed_42 {o : Option (T4 α β γ δ)} {j : Nat} {p : Pos} (h : ED X G a o) : ED X G (.Subscript a (.Constant (.int 2) j p) pos) (lift1 T4.c o) := ed_proj h fun x => ⟨_, rfl, rfl⟩
theorem ed_43 {o : Option (T4 α β γ δ)} {j : Nat} {p : Pos} (h : ED X G a o) : ED X G (.Subscript a (.Constant (.int 3) j p) pos) (lift1 T4.d o) := ed_proj h fun x => ⟨_, rfl, rfl⟩
/-- x[i], x an own list -/
theorem ed_ixO {N : List Str} {sc : Scope} {fs : Option Scope} {k i : Nat} {x : Str} {l : List α} {p : Pos} {oi : Option Int} (C : Ctx X N sc fs k) (hv : visB N sc i x = true) (hsl : slAt G i = .own (l.map enc)) (hb : ED X G b oi) (hs : PlainIx b := by intro _ _; rfl) :
    ED X G (.Subscript (.Name x p) b pos) (oi.bind fun j => atI l j) := fun z hz => by
  obtain ⟨j, h2, h3⟩ := bind_get hz
  unfold visB at hv
  simp only [Bool.and_eq_true, decide_eq_true_eq, Bool.not_eq_true'] at hv
  obtain ⟨⟨⟨h1, hv⟩, hd⟩, hcd⟩ := hv
  have hvis : Vis X.env.scope x := by
    rw [C.s]; unfold Vis
    split at hv <;> simp_all
  refine (pe_ix ix_list (pe_var (by rw [C.n]; exact h1) hvis hd hcd) (hb j h2) hs).imp fun σ H Q ⟨F, I, ps, R, q⟩ => ?_
  have hi : i < G.length := by
    by_cases c : i < G.length
    · exact c
    · rw [slAt_out (by omega)] at hsl; cases hsl
  obtain ⟨w, k1, k2⟩ := R.sl i hi
  rw [hsl] at k2
  obtain ⟨ad, xs, e1, e2, n, hH, d⟩ := k2
  subst e2
  refine ⟨_, k1, F, I, ps, R, fun w H1 I1 g1 R1 dw => ?_⟩
  cases dw
  obtain ⟨w1, m1, m2⟩ := R1.sl i hi
  rw [hsl] at m2
  obtain ⟨a1, xs1, f1, f2, n1, hH1, d1⟩ := m2
  rw [e1] at f1; cases f1
  obtain ⟨u, hu, du⟩ := d1.atI (atI_map h3)
  exact ⟨_, _, j, u, rfl, rfl, .inl (.inl hH1), hu, q u H1 I1 g1 R1 du⟩

/-! ### slices -/
/-- the part that a slice takes -/
def cutL {α : Type} (l : List α) (lo hi : Option Int) : List α := (l.drop (HT.sIx l.length 0 lo)).take (HT.sIx l.length l.length hi - HT.sIx l.length 0 lo)
def EP (X : Cx) (G : List Sl) (e : Option Expr) (o : Option (Option Int)) : Prop := ∀ i, o = some i → ∃ t, PO X e t ∧ ∀ (σ : L2.St) (H : Hp) (Q : Option Int → Hp → Prop), (∃ F I ps, RS X.K F G σ H I ps ∧ ∀ H' I', Grow F I I' → RS X.K F G σ H' I' ps → Q i H') → t σ H Q
theorem ep_none : EP X G none (some none) := fun i h => by
  cases h
  exact ⟨_, po_none, fun σ H Q ⟨F, I, ps, R, q⟩ => q _ _ Grow.refl R⟩
theorem ep_some {o : Option Int} (h : ED X G e o) : EP X G (some e) (lift1 some o) := fun i hi => by
  obtain ⟨x, h1, h2⟩ := lift1_get hi
  subst h2
  exact ⟨_, po_some (h x h1), fun σ H Q ⟨F, I, ps, R, q⟩ => ⟨F, I, ps, R, fun v H' I' g R' d => by cases d; exact ⟨x, rfl, q _ _ g R'⟩⟩⟩
theorem DqAll.cut {H : Hp} {vs : List V} {l : List α} {lo hi : Option Int} (h : DqAll H vs (l.map enc)) : DqAll H (cutV vs lo hi) ((cutL l lo hi).map enc) := by
  have e : vs.length = l.length := by rw [h.len, List.length_map]
  unfold cutV cutL
  rw [e, List.map_take, List.map_drop]
  exact (h.drop _).take _
theorem eo_slice {lo hi : Option Expr} {ol : Option (List α)} {oo oh : Option (Option Int)} {p2 : Pos} (ha : ED X G a ol) (h1 : EP X G lo oo) (h2 : EP X G hi oh) : EO X G (.Subscript a (.Slice lo hi none p2) pos) (lift3 cutL ol oo oh) := fun r hr => by
  obtain ⟨l, e1, hr⟩ := bind_get hr
  obtain ⟨i, e2, hr⟩ := bind_get hr
  obtain ⟨j, e3, hr⟩ := bind_get hr
  cases hr
  obtain ⟨t1, p1, w1⟩ := h1 i e2
  obtain ⟨t2, p2, w2⟩ := h2 j e3
  refine (pe_slice sl_list (ha l e1) p1 p2).imp fun σ H Q ⟨F, I, ps, R, q⟩ => ⟨F, I, ps, R, fun v H1 I1 g1 R1 d => w1 σ H1 _ ⟨F, I1, ps, R1, fun H2 I2 g2 R2 => w2 σ H2 _ ⟨F, I2, ps, R2, fun H3 I3 g3 R3 => ?_⟩⟩⟩
  cases d with
  | lst k1 k2 =>
    have s13 : Same I1 I3 := g2.same.trans g3.same
    refine ⟨_, _, rfl, .inl (rd_mono (s13.trans R3.si) k1), fun p hp => q p _ _ I3 (g1.trans (g2.trans g3)) (R3.newOwn hp) (R3.si.free hp) (R3.sf.free hp) (fun i c => by obtain ⟨_, _, _, z⟩ := R3.own_at c; rw [hp] at z; cases z) upd_same ?_⟩
    exact DqAll.cut (DqAll_mono s13 _ _ k2)
theorem ed_sliceT {lo hi : Option Expr} {ol : Option (Tup α)} {oo oh : Option (Option Int)} {p2 : Pos} (ha : ED X G a ol) (h1 : EP X G lo oo) (h2 : EP X G hi oh) : ED X G (.Subscript a (.Slice lo hi none p2) pos) (lift3 (fun t i j => Tup.mk (cutL t.l i j)) ol oo oh) := fun r hr => by
  obtain ⟨l, e1, hr⟩ := bind_get hr
  obtain ⟨i, e2, hr⟩ := bind_get hr
  obtain ⟨j, e3, hr⟩ := bind_get hr
  cases hr
  obtain ⟨t1, p1, w1⟩ := h1 i e2
  obtain ⟨t2, p2, w2⟩ := h2 j e3
  refine (pe_slice sl_tupA (ha l e1) p1 p2).imp fun σ H Q ⟨F, I, ps, R, q⟩ => ⟨F, I, ps, R, fun v H1 I1 g1 R1 d => w1 σ H1 _ ⟨F, I1, ps, R1, fun H2 I2 g2 R2 => w2 σ H2 _ ⟨F, I2, ps, R2, fun H3 I3 g3 R3 => ?_⟩⟩⟩
  cases d with
  | tup k1 k2 =>
    have s13 : Same I1 I3 := g2.same.trans g3.same
    have e : PyData.tuple ((cutL l.l i j).map enc) = enc (Tup.mk (cutL l.l i j)) := rfl
    have lx : ∀ {xs : List V}, DqAll I1 xs (l.l.map enc) → xs.length = l.l.length := fun h => by rw [h.len, List.length_map]
    refine ⟨_, _, rfl, .inl (rd_mono (s13.trans R3.si) k1), fun hw => q _ _ I3 (g1.trans (g2.trans g3)) R3 ?_, fun _ p hp => q _ _ _ (g1.trans (g2.trans (g3.trans (R3.grow_new hp)))) (R3.new hp) (.tup (.inl upd_same) (DqAll.cut (DqAll_mono (s13.trans (R3.grow_new (o := .tup _) hp).same) _ _ k2)))⟩
    rw [lx k2] at hw
    have e2 : cutL l.l i j = l.l := by
      unfold cutL
      rw [hw.1, hw.2]; simp
    show Dq I3 _ (PyData.tuple ((cutL l.l i j).map enc))
    rw [e2]
    exact .tup (rd_mono s13 k1) (DqAll_mono s13 _ _ k2)
end

/-! ### builtins by name -/
section
variable {X : Cx} {G : List Sl} {α β γ δ : Type} [Enc α] [Enc β] [Enc γ] [Enc δ] {a b e : Expr} {pos p : Pos} {N : List Str} {sc : Scope} {fs : Option Scope} {k : Nat}
/-- a builtin of one argument -/
theorem b1 {id x : Str} {bid : String} {te : TE} {r : List V → Hp → VK → Prop} (C : Ctx X N sc fs k) (hg : glbB sc x = true) (hm : X.mg x = none) (hv : bootBuiltins x = some (.builtin bid)) (hc : CallR X (.builtin bid) r) (h : PE X e te) (hn : x ≠ "__name__")
    (hs : starEach [e] X.env = (false, eval e X.env) :: starEach [] X.env) : PE X (.Call (.Name x p) [e] [] pos) (tCB r (tCons te tNil)) := by
  obtain ⟨gl, db⟩ := glbB_gl C.s hg
  exact pe_callB hc gl hm hv (pa_cons h pa_nil hs) hn db hs rfl
theorem bT {x : Str} {T : String} {te : TE} {r : List V → Hp → VK → Prop} (C : Ctx X N sc fs k) (hg : glbB sc x = true) (hm : X.mg x = none) (hv : bootBuiltins x = some (.type T)) (hc : CallR X (.type T) r) (h : PE X e te) (hn : x ≠ "__name__")
    (hs : starEach [e] X.env = (false, eval e X.env) :: starEach [] X.env) : PE X (.Call (.Name x p) [e] [] pos) (tCB r (tCons te tNil)) := by
  obtain ⟨gl, db⟩ := glbB_gl C.s hg
  exact pe_callTy hc gl hm hv (pa_cons h pa_nil hs) hn db hs rfl
/-- a rule of one value on data: the answer is scalar -/
theorem tD_b1 {K : PySem.W.Frag} {r : List V → Hp → VK → Prop} {d1 d : PyData} (h : ∀ (F : Hp) (G : List Sl) (σ : L2.St) (H I : Hp) (ps : Nat → Option Addr) (v : V) (Q : VK), RS K F G σ H I ps → Dq I v d1 → (∀ u H' I', Grow F I I' → RS K F G σ H' I' ps → Dq I' u d → Q u H') → r [v] H Q)
    (σ : L2.St) (H : Hp) (Q : VK) (t : tD K G d σ H Q) : tCB r (tCons (tD K G d1) tNil) σ H Q := by
  obtain ⟨F, I, ps, R, q⟩ := t
  exact ⟨F, I, ps, R, fun v H1 I1 g1 R1 dv => h F G σ H1 I1 ps v Q R1 dv fun u H3 I3 g3 R3 du => q u H3 I3 (g1.trans g3) R3 du⟩
/-- .. of a list that is read -/
theorem tR_b1 {K : PySem.W.Frag} {r : List V → Hp → VK → Prop} {ds : List PyData} {d : PyData} (h : ∀ (F : Hp) (G : List Sl) (σ : L2.St) (H I : Hp) (ps : Nat → Option Addr) (ad : Addr) (xs : List V) (Q : VK), RS K F G σ H I ps → SqL K H ad xs → DqAll I xs ds → (∀ u H' I', Grow F I I' → RS K F G σ H' I' ps → Dq I' u d → Q u H') → r [.ref ad] H Q)
    (σ : L2.St) (H : Hp) (Q : VK) (t : tD K G d σ H Q) : tCB r (tCons (tR K G ds) tNil) σ H Q := by
  obtain ⟨F, I, ps, R, q⟩ := t
  exact ⟨F, I, ps, R, fun ad xs H1 I1 g1 R1 s dv => h F G σ H1 I1 ps ad xs Q R1 s dv fun u H3 I3 g3 R3 du => q u H3 I3 (g1.trans g3) R3 du⟩
theorem tR_bO {K : PySem.W.Frag} {r : List V → Hp → VK → Prop} {ds es : List PyData} (h : ∀ (F : Hp) (G : List Sl) (σ : L2.St) (H I : Hp) (ps : Nat → Option Addr) (ad : Addr) (xs : List V) (Q : VK), RS K F G σ H I ps → SqL K H ad xs → DqAll I xs ds → (∀ p ys, H p = none → DqAll I ys es → Q (.ref p) (upd H p (.lst ys))) → r [.ref ad] H Q)
    (σ : L2.St) (H : Hp) (Q : VK) (t : tO K G es σ H Q) : tCB r (tCons (tR K G ds) tNil) σ H Q := by
  obtain ⟨F, I, ps, R, q⟩ := t
  refine ⟨F, I, ps, R, fun ad xs H1 I1 g1 R1 s dv => h F G σ H1 I1 ps ad xs Q R1 s dv fun p ys hp dy => ?_⟩
  exact q p ys _ I1 g1 (R1.newOwn hp) (R1.si.free hp) (R1.sf.free hp) (fun i c => by obtain ⟨_, _, _, z⟩ := R1.own_at c; rw [hp] at z; cases z) upd_same dy
theorem ed_len {ol : Option (List α)} (C : Ctx X N sc fs k) (hg : glbB sc "len" = true) (hm : X.mg "len" = none) (h : ER X G e ol) (hs : starEach [e] X.env = (false, eval e X.env) :: starEach [] X.env := by rfl) : ED X G (.Call (.Name "len" p) [e] [] pos) (lift1 (fun l => (l.length : Int)) ol) := fun z hz => by
  obtain ⟨l, h1, h2⟩ := lift1_get hz
  subst h2
  refine (b1 (id := "len") C hg hm PySem.boot_len call_len_seq (h l h1) (by decide) hs).imp (tR_b1 fun F G σ H I ps ad xs Q R s d q => ⟨ad, xs, rfl, .inl s, ?_⟩)
  rw [d.len, List.length_map]
  exact q _ _ _ Grow.refl R (.int _)
theorem ed_lenT {ol : Option (Tup α)} (C : Ctx X N sc fs k) (hg : glbB sc "len" = true) (hm : X.mg "len" = none) (h : ED X G e ol) (hs : starEach [e] X.env = (false, eval e X.env) :: starEach [] X.env := by rfl) : ED X G (.Call (.Name "len" p) [e] [] pos) (lift1 (fun t => (t.l.length : Int)) ol) := fun z hz => by
  obtain ⟨l, h1, h2⟩ := lift1_get hz
  subst h2
  refine (b1 (id := "len") C hg hm PySem.boot_len call_len_seq (h l h1) (by decide) hs).imp (tD_b1 fun F G σ H I ps v Q R d q => ?_)
  cases d with
  | tup k1 k2 =>
    refine ⟨_, _, rfl, .inr (.inl (rd_mono R.si k1)), ?_⟩
    rw [k2.len, List.length_map]
    exact q _ _ _ Grow.refl R (.int _)
theorem ints_of {I : Hp} : ∀ {xs : List V} {ns : List Int}, DqAll I xs (ns.map enc) → xs = ns.map V.int
  | _, [], h => by cases h; rfl
  | _, n :: ns, h => by
    cases h with
    | cons h1 h2 =>
      cases h1
      rw [ints_of h2]; rfl
theorem of_ints {I : Hp} : ∀ (ns : List Int), DqAll I (ns.map V.int) (ns.map enc)
  | [] => .nil
  | n :: ns => .cons (.int n) (of_ints ns)
theorem bools_of {I : Hp} : ∀ {xs : List V} {ns : List Bool}, DqAll I xs (ns.map enc) → xs = ns.map V.bl
  | _, [], h => by cases h; rfl
  | _, n :: ns, h => by
    cases h with
    | cons h1 h2 =>
      cases h1
      rw [bools_of h2]; rfl
theorem ed_sum {ol : Option (List Int)} (C : Ctx X N sc fs k) (hg : glbB sc "sum" = true) (hm : X.mg "sum" = none) (h : ER X G e ol) (hs : starEach [e] X.env = (false, eval e X.env) :: starEach [] X.env := by rfl) : ED X G (.Call (.Name "sum" p) [e] [] pos) (lift1 List.sum ol) := fun z hz => by
  obtain ⟨l, h1, h2⟩ := lift1_get hz
  subst h2
  refine (b1 (id := "sum") C hg hm (by decide +kernel) (cr_sum C.calm) (h l h1) (by decide) hs).imp (tR_b1 fun F G σ H I ps ad xs Q R s d q => ?_)
  rw [ints_of d] at s
  exact ⟨ad, l, rfl, s, q _ _ _ Grow.refl R (.int _)⟩
/-- the greatest (least) of a list that is not empty -/
def maxL : List Int → Option Int
  | [] => none
  | x :: xs => some (xs.foldl (fun m y => if y > m then y else m) x)
def minL : List Int → Option Int
  | [] => none
  | x :: xs => some (xs.foldl (fun m y => if y < m then y else m) x)
theorem maxL_fold (xs : List Int) (x : Int) : xs.foldl (fun m y => if y > m then y else m) x ∈ x :: xs ∧ ∀ y ∈ x :: xs, y ≤ xs.foldl (fun m y => if y > m then y else m) x := by
  induction xs generalizing x with
  | nil => simp
  | cons z zs ih =>
    rw [List.foldl_cons]
    obtain ⟨h1, h2⟩ := ih (if z > x then z else x)
    refine ⟨?_, fun y hy => ?_⟩
    · rcases List.mem_cons.mp h1 with e | e
      · rw [e]; split <;> simp
      · simp [e]
    · have h3 := h2 (if z > x then z else x) (by simp)
      rcases List.mem_cons.mp hy with e | e
      · subst e; revert h3; split <;> omega
      · rcases List.mem_cons.mp e with e | e
        · subst e; revert h3; split <;> omega
        · exact h2 y (by simp [e])
theorem minL_fold (xs : List Int) (x : Int) : xs.foldl (fun m y => if y < m then y else m) x ∈ x :: xs ∧ ∀ y ∈ x :: xs, xs.foldl (fun m y => if y < m then y else m) x ≤ y := by
  induction xs generalizing x with
  | nil => simp
  | cons z zs ih =>
    rw [List.foldl_cons]
    obtain ⟨h1, h2⟩ := ih (if z < x then z else x)
    refine ⟨?_, fun y hy => ?_⟩
    · rcases List.mem_cons.mp h1 with e | e
      · rw [e]; split <;> simp
      · simp [e]
    · have h3 := h2 (if z < x then z else x) (by simp)
      rcases List.mem_cons.mp hy with e | e
      · subst e; revert h3; split <;> omega
      · rcases List.mem_cons.mp e with e | e
        · subst e; revert h3; split <;> omega
        · exact h2 y (by simp [e])
theorem maxL_spec {l : List Int} {m : Int} (h : maxL l = some m) : m ∈ l ∧ ∀ y ∈ l, y ≤ m := by
  cases l with
  | nil => cases h
  | cons x xs => have h := Option.some.inj h; subst h; exact maxL_fold xs x
theorem minL_spec {l : List Int} {m : Int} (h : minL l = some m) : m ∈ l ∧ ∀ y ∈ l, m ≤ y := by
  cases l with
  | nil => cases h
  | cons x xs => have h := Option.some.inj h; subst h; exact minL_fold xs x
theorem ed_maxL {ol : Option (List Int)} (C : Ctx X N sc fs k) (hg : glbB sc "max" = true) (hm : X.mg "max" = none) (h : ER X G e ol) (hs : starEach [e] X.env = (false, eval e X.env) :: starEach [] X.env := by rfl) : ED X G (.Call (.Name "max" p) [e] [] pos) (ol.bind maxL) := fun z hz => by
  obtain ⟨l, h1, h2⟩ := bind_get hz
  obtain ⟨m1, m2⟩ := maxL_spec h2
  refine (b1 (id := "max") C hg hm (by decide +kernel) (cr_max C.calm) (h l h1) (by decide) hs).imp (tR_b1 fun F G σ H I ps ad xs Q R s d q => ?_)
  rw [ints_of d] at s
  refine ⟨ad, l, rfl, s, List.length_pos_of_mem m1, fun m hm hle => ?_⟩
  have e : m = z := Int.le_antisymm (m2 m hm) (hle z m1)
  subst e
  exact q _ _ _ Grow.refl R (.int _)
theorem ed_minL {ol : Option (List Int)} (C : Ctx X N sc fs k) (hg : glbB sc "min" = true) (hm : X.mg "min" = none) (h : ER X G e ol) (hs : starEach [e] X.env = (false, eval e X.env) :: starEach [] X.env := by rfl) : ED X G (.Call (.Name "min" p) [e] [] pos) (ol.bind minL) := fun z hz => by
  obtain ⟨l, h1, h2⟩ := bind_get hz
  obtain ⟨m1, m2⟩ := minL_spec h2
  refine (b1 (id := "min") C hg hm (by decide +kernel) (cr_min C.calm) (h l h1) (by decide) hs).imp (tR_b1 fun F G σ H I ps ad xs Q R s d q => ?_)
  rw [ints_of d] at s
  refine ⟨ad, l, rfl, s, List.length_pos_of_mem m1, fun m hm hle => ?_⟩
  have e : m = z := Int.le_antisymm (hle z m1) (m2 m hm)
  subst e
  exact q _ _ _ Grow.refl R (.int _)
theorem ed_abs {o : Option Int} (C : Ctx X N sc fs k) (hg : glbB sc "abs" = true) (hm : X.mg "abs" = none) (h : ED X G e o) (hs : starEach [e] X.env = (false, eval e X.env) :: starEach [] X.env := by rfl) : ED X G (.Call (.Name "abs" p) [e] [] pos) (lift1 (fun i => if i < 0 then -i else i) o) := fun z hz => by
  obtain ⟨i, h1, h2⟩ := lift1_get hz
  subst h2
  refine (b1 (id := "abs") C hg hm (by decide +kernel) call_abs (h i h1) (by decide) hs).imp (tD_b1 fun F G σ H I ps v Q R d q => ?_)
  cases d
  exact ⟨i, rfl, q _ _ _ Grow.refl R (.int _)⟩
theorem ed_int {o : Option Int} (C : Ctx X N sc fs k) (hg : glbB sc "int" = true) (hm : X.mg "int" = none) (h : ED X G e o) (hs : starEach [e] X.env = (false, eval e X.env) :: starEach [] X.env := by rfl) : ED X G (.Call (.Name "int" p) [e] [] pos) o := fun i h1 => by
  refine (bT C hg hm (by decide +kernel) call_int1 (h i h1) (by decide) hs).imp (tD_b1 fun F G σ H I ps v Q R d q => ?_)
  cases d
  exact .inl ⟨i, rfl, q _ _ _ Grow.refl R (.int _)⟩
theorem ed_intB {o : Option Bool} (C : Ctx X N sc fs k) (hg : glbB sc "int" = true) (hm : X.mg "int" = none) (h : ED X G e o) (hs : starEach [e] X.env = (false, eval e X.env) :: starEach [] X.env := by rfl) : ED X G (.Call (.Name "int" p) [e] [] pos) (lift1 (fun b => if b = true then (1 : Int) else 0) o) := fun z hz => by
  obtain ⟨i, h1, h2⟩ := lift1_get hz
  subst h2
  refine (bT C hg hm (by decide +kernel) call_int1 (h i h1) (by decide) hs).imp (tD_b1 fun F G σ H I ps v Q R d q => ?_)
  cases d
  exact .inr ⟨i, rfl, q _ _ _ Grow.refl R (.int _)⟩
theorem ed_all {ol : Option (List Bool)} (C : Ctx X N sc fs k) (hg : glbB sc "all" = true) (hm : X.mg "all" = none) (h : ER X G e ol) (hs : starEach [e] X.env = (false, eval e X.env) :: starEach [] X.env := by rfl) : ED X G (.Call (.Name "all" p) [e] [] pos) (lift1 (fun l => l.all id) ol) := fun z hz => by
  obtain ⟨l, h1, h2⟩ := lift1_get hz
  subst h2
  refine (b1 (id := "all") C hg hm (by decide +kernel) (cr_all C.calm) (h l h1) (by decide) hs).imp (tR_b1 fun F G σ H I ps ad xs Q R s d q => ?_)
  rw [bools_of d] at s
  exact ⟨ad, l, rfl, s, q _ _ _ Grow.refl R (.bl _)⟩
theorem ed_any {ol : Option (List Bool)} (C : Ctx X N sc fs k) (hg : glbB sc "any" = true) (hm : X.mg "any" = none) (h : ER X G e ol) (hs : starEach [e] X.env = (false, eval e X.env) :: starEach [] X.env := by rfl) : ED X G (.Call (.Name "any" p) [e] [] pos) (lift1 (fun l => l.any id) ol) := fun z hz => by
  obtain ⟨l, h1, h2⟩ := lift1_get hz
  subst h2
  refine (b1 (id := "any") C hg hm (by decide +kernel) (cr_any C.calm) (h l h1) (by decide) hs).imp (tR_b1 fun F G σ H I ps ad xs Q R s d q => ?_)
  rw [bools_of d] at s
  exact ⟨ad, l, rfl, s, q _ _ _ Grow.refl R (.bl _)⟩
/-- min(a, b), max(a, b) -/
theorem b2 {x : Str} {bid : String} {d1 d2 d : PyData} {r : List V → Hp → VK → Prop} (C : Ctx X N sc fs k) (hg : glbB sc x = true) (hm : X.mg x = none) (hv : bootBuiltins x = some (.builtin bid)) (hc : CallR X (.builtin bid) r) (h1 : PE X a (tD X.K G d1)) (h2 : PE X b (tD X.K G d2)) (hn : x ≠ "__name__")
    (w : ∀ (F : Hp) (G : List Sl) (σ : L2.St) (H I : Hp) (ps : Nat → Option Addr) (v w : V) (Q : VK), RS X.K F G σ H I ps → Dq I v d1 → Dq I w d2 → (∀ u H' I', Grow F I I' → RS X.K F G σ H' I' ps → Dq I' u d → Q u H') → r [v, w] H Q)
    (hs : starEach [a, b] X.env = (false, eval a X.env) :: starEach [b] X.env) (hs2 : starEach [b] X.env = (false, eval b X.env) :: starEach [] X.env) (hp : (backTo pos (starEach [b] X.env)).any (·.1) = false) : PE X (.Call (.Name x p) [a, b] [] pos) (tD X.K G d) := by
  obtain ⟨gl, db⟩ := glbB_gl C.s hg
  refine (pe_callB hc gl hm hv (pa_cons h1 (pa_cons h2 pa_nil hs2) hs) hn db hs hp).imp fun σ H Q ⟨F, I, ps, R, q⟩ => ⟨F, I, ps, R, fun v H1 I1 g1 R1 d1 => ⟨F, I1, ps, R1, fun u H2 I2 g2 R2 d2 => ?_⟩⟩
  exact w F G σ H2 I2 ps v u Q R2 (Dq_mono g2.same _ _ d1) d2 fun z H3 I3 g3 R3 d3 => q z H3 I3 (g1.trans (g2.trans g3)) R3 d3
theorem ed_max2 {oa ob : Option Int} (C : Ctx X N sc fs k) (hg : glbB sc "max" = true) (hm : X.mg "max" = none) (ha : ED X G a oa) (hb : ED X G b ob)
    (hs : starEach [a, b] X.env = (false, eval a X.env) :: starEach [b] X.env := by rfl) (hs2 : starEach [b] X.env = (false, eval b X.env) :: starEach [] X.env := by rfl) (hp : (backTo pos (starEach [b] X.env)).any (·.1) = false := by rfl) :
    ED X G (.Call (.Name "max" p) [a, b] [] pos) (lift2 (fun i j => if j > i then j else i) oa ob) := fun z hz => by
  obtain ⟨i, j, h1, h2, h3⟩ := lift2_get hz
  subst h3
  exact b2 C hg hm (by decide +kernel) (call_max2 C.calm) (ha i h1) (hb j h2) (by decide) (fun F G σ H I ps v w Q R d1 d2 q => by cases d1; cases d2; exact ⟨i, j, rfl, q _ _ _ Grow.refl R (.int _)⟩) hs hs2 hp
theorem ed_min2 {oa ob : Option Int} (C : Ctx X N sc fs k) (hg : glbB sc "min" = true) (hm : X.mg "min" = none) (ha : ED X G a oa) (hb : ED X G b ob)
    (hs : starEach [a, b] X.env = (false, eval a X.env) :: starEach [b] X.env := by rfl) (hs2 : starEach [b] X.env = (false, eval b X.env) :: starEach [] X.env := by rfl) (hp : (backTo pos (starEach [b] X.env)).any (·.1) = false := by rfl) :
    ED X G (.Call (.Name "min" p) [a, b] [] pos) (lift2 (fun i j => if j < i then j else i) oa ob) := fun z hz => by
  obtain ⟨i, j, h1, h2, h3⟩ := lift2_get hz
  subst h3
  exact b2 C hg hm (by decide +kernel) (call_min2 C.calm) (ha i h1) (hb j h2) (by decide) (fun F G σ H I ps v w Q R d1 d2 q => by cases d1; cases d2; exact ⟨i, j, rfl, q _ _ _ Grow.refl R (.int _)⟩) hs hs2 hp

/-! ### lists from lists -/
def sortI (l : List Int) : List Int := l.mergeSort (fun a b => decide (a ≤ b))
theorem sortI_perm (l : List Int) : (sortI l).Perm l := List.mergeSort_perm ..
theorem sortI_sorted (l : List Int) : (sortI l).Pairwise (· ≤ ·) := by
  have h := List.pairwise_mergeSort (le := fun a b : Int => decide (a ≤ b)) (fun a b c h1 h2 => by simp only [decide_eq_true_eq] at *; omega) (fun a b => by simp only [Bool.or_eq_true, decide_eq_true_eq]; omega) l
  exact h.imp fun h => of_decide_eq_true h
theorem sorted_unique : ∀ {l m : List Int}, l.Perm m → l.Pairwise (· ≤ ·) → m.Pairwise (· ≤ ·) → l = m := fun h h1 h2 => h.eq_of_pairwise (fun a b _ _ h3 h4 => Int.le_antisymm h3 h4) h1 h2
theorem eo_sorted {ol : Option (List Int)} (C : Ctx X N sc fs k) (hg : glbB sc "sorted" = true) (hm : X.mg "sorted" = none) (h : ER X G e ol) (hs : starEach [e] X.env = (false, eval e X.env) :: starEach [] X.env := by rfl) : EO X G (.Call (.Name "sorted" p) [e] [] pos) (lift1 sortI ol) := fun z hz => by
  obtain ⟨l, h1, h2⟩ := lift1_get hz
  subst h2
  refine (b1 (id := "sorted") C hg hm (by decide +kernel) cr_sortedI (h l h1) (by decide) hs).imp (tR_bO fun F G σ H I ps ad xs Q R s d q => ?_)
  rw [ints_of d] at s
  refine ⟨ad, l, rfl, s, fun ns' p hp1 hp2 hp => ?_⟩
  have e : ns' = sortI l := sorted_unique (hp1.trans (sortI_perm l).symm) hp2 (sortI_sorted l)
  subst e
  exact q p _ hp (of_ints _)
theorem eo_listL {ol : Option (List α)} (C : Ctx X N sc fs k) (hg : glbB sc "list" = true) (hm : X.mg "list" = none) (h : ER X G e ol) (hs : starEach [e] X.env = (false, eval e X.env) :: starEach [] X.env := by rfl) : EO X G (.Call (.Name "list" p) [e] [] pos) ol := fun l h1 => by
  refine (bT C hg hm (by decide +kernel) call_list_of (h l h1) (by decide) hs).imp (tR_bO fun F G σ H I ps ad xs Q R s d q => ?_)
  exact ⟨ad, xs, rfl, .inl s, fun l hl => q l xs hl d⟩
theorem eo_listT {ol : Option (Tup α)} (C : Ctx X N sc fs k) (hg : glbB sc "list" = true) (hm : X.mg "list" = none) (h : ED X G e ol) (hs : starEach [e] X.env = (false, eval e X.env) :: starEach [] X.env := by rfl) : EO X G (.Call (.Name "list" p) [e] [] pos) (lift1 Tup.l ol) := fun z hz => by
  obtain ⟨t, h1, h2⟩ := lift1_get hz
  subst h2
  refine (bT C hg hm (by decide +kernel) call_list_of (h t h1) (by decide) hs).imp fun σ H Q ⟨F, I, ps, R, q⟩ => ⟨F, I, ps, R, fun v H1 I1 g1 R1 d => ?_⟩
  cases d with
  | tup k1 k2 =>
    exact ⟨_, _, rfl, .inr (.inl (rd_mono R1.si k1)), fun p hp => q p _ _ I1 g1 (R1.newOwn hp) (R1.si.free hp) (R1.sf.free hp) (fun i c => by obtain ⟨_, _, _, z⟩ := R1.own_at c; rw [hp] at z; cases z) upd_same k2⟩
theorem ed_tupL {ol : Option (List α)} (C : Ctx X N sc fs k) (hg : glbB sc "tuple" = true) (hm : X.mg "tuple" = none) (h : ER X G e ol) (hs : starEach [e] X.env = (false, eval e X.env) :: starEach [] X.env := by rfl) : ED X G (.Call (.Name "tuple" p) [e] [] pos) (lift1 Tup.mk ol) := fun z hz => by
  obtain ⟨l, h1, h2⟩ := lift1_get hz
  subst h2
  refine (bT C hg hm (by decide +kernel) call_tuple_of (h l h1) (by decide) hs).imp fun σ H Q ⟨F, I, ps, R, q⟩ => ⟨F, I, ps, R, fun ad xs H1 I1 g1 R1 s d => ?_⟩
  refine ⟨ad, xs, rfl, .inl ⟨s, fun p hp => q _ _ _ (g1.trans (R1.grow_new hp)) (R1.new hp) (.tup (.inl upd_same) (DqAll_mono (R1.grow_new (o := .tup xs) hp).same _ _ d))⟩⟩
/-- list(range(..)) -/
theorem op_catR {X : Cx} : OpR X (binaryOp .Add) (fun x y H Q => ∃ l b xs zs, x = .ref l ∧ y = .ref b ∧ Rd H l (.lst xs) ∧ Rd H b (.lst zs) ∧ xs.length + zs.length ≤ sizeLine ∧ ∀ p, H p = none → Q (.ref p) (upd H p (.lst (xs ++ zs)))) := by
  intro pins s σ H x y v u Q I rx ry h
  obtain ⟨l, b, xs, zs, e1, e2, hl, hb, hz, q⟩ := h
  subst e1 e2
  have e1 : v = .ref l := rx
  have e2 : u = .ref b := ry
  subst e1 e2
  obtain ⟨z1, its, n, r1, o1⟩ := hl.ok I.hok
  obtain ⟨z2, its2, n2, r2, o2⟩ := hb.ok I.hok
  refine PySem.P.add_list o1 o2 ?_ (by rw [List.size_toArray, List.size_toArray, ← r1.length, ← r2.length]; exact hz)
  rw [show its.toArray ++ its2.toArray = (its ++ its2).toArray by simp]
  exact ⟨.ref _, _, I.lnew (t' := s.toks) (r1.append r2) (by rw [List.length_append]; exact hz), rfl, q _ I.fresh⟩
def catG {α : Type} (l m : List α) : Option (List α) := if l.length + m.length ≤ sizeLine then some (l ++ m) else none
theorem eo_cat {oa ob : Option (List α)} (ha : ED X G a oa) (hb : ED X G b ob) : EO X G (.BinOp a .Add b pos) (bind2 catG oa ob) := fun z hz => by
  obtain ⟨l, m, h1, h2, h3⟩ := bind2_get hz
  obtain ⟨hc, h3⟩ := ite_get h3
  subst h3
  refine (pe_op op_catR (ha l h1) (hb m h2)).imp fun σ H Q ⟨F, I, ps, R, q⟩ => ⟨F, I, ps, R, fun v H1 I1 g1 R1 d1 => ⟨F, I1, ps, R1, fun w H2 I2 g2 R2 d2 => ?_⟩⟩
  have d1 := Dq_mono g2.same _ _ d1
  cases d1 with
  | lst k1 k2 =>
    cases d2 with
    | lst k3 k4 =>
      refine ⟨_, _, _, _, rfl, rfl, rd_mono R2.si k1, rd_mono R2.si k3, by rw [k2.len, k4.len, List.length_map, List.length_map]; exact hc, fun p hp => q p _ _ I2 (g1.trans g2) (R2.newOwn hp) (R2.si.free hp) (R2.sf.free hp) (fun i c => by obtain ⟨_, _, _, z⟩ := R2.own_at c; rw [hp] at z; cases z) upd_same (by rw [List.map_append]; exact k2.app k4)⟩
theorem ed_catT {oa ob : Option (Tup α)} (ha : ED X G a oa) (hb : ED X G b ob) : ED X G (.BinOp a .Add b pos) (bind2 (fun s t => lift1 Tup.mk (catG s.l t.l)) oa ob) := fun z hz => by
  obtain ⟨l, m, h1, h2, h3⟩ := bind2_get hz
  obtain ⟨y, h3, h4⟩ := lift1_get h3
  obtain ⟨hc, h3⟩ := ite_get h3
  subst h3 h4
  refine (pe_op op_catA (ha l h1) (hb m h2)).imp fun σ H Q ⟨F, I, ps, R, q⟩ => ⟨F, I, ps, R, fun v H1 I1 g1 R1 d1 => ⟨F, I1, ps, R1, fun w H2 I2 g2 R2 d2 => ?_⟩⟩
  have d1 := Dq_mono g2.same _ _ d1
  cases d1 with
  | tup k1 k2 =>
    cases d2 with
    | tup k3 k4 =>
      refine ⟨_, _, _, _, rfl, rfl, .inl (rd_mono R2.si k1), .inl (rd_mono R2.si k3), by rw [k2.len, k4.len, List.length_map, List.length_map]; exact hc, fun e => ?_, fun _ e => ?_, fun _ _ p hp => ?_⟩
      · refine q _ _ I2 (g1.trans g2) R2 (.tup k3 ?_)
        have : l.l = [] := by
          have := k2.len; rw [e, List.length_map] at this
          exact List.eq_nil_of_length_eq_zero this.symm
        rw [this]; exact k4
      · refine q _ _ I2 (g1.trans g2) R2 (.tup k1 ?_)
        have : m.l = [] := by
          have := k4.len; rw [e, List.length_map] at this
          exact List.eq_nil_of_length_eq_zero this.symm
        rw [this, List.append_nil]; exact k2
      · refine q _ _ _ (g1.trans (g2.trans (R2.grow_new hp))) (R2.new hp) (.tup (.inl upd_same) (DqAll_mono (R2.grow_new (o := .tup _) hp).same _ _ ?_))
        rw [List.map_append]; exact k2.app k4
theorem op_repR {X : Cx} : OpR X (binaryOp .Mult) (fun x y H Q => ∃ l k xs, x = .ref l ∧ y = .int k ∧ H l = some (.lst xs) ∧ -(2 ^ 63) ≤ k ∧ k < 2 ^ 63 ∧ xs.length * k.toNat ≤ sizeLine ∧ ∀ p, H p = none → Q (.ref p) (upd H p (.lst (List.replicate k.toNat xs).flatten))) := op_rep
def repG {α : Type} (l : List α) (k : Int) : Option (List α) := if (l.length ≤ 64 ∧ k ≤ 262144) ∧ -262144 ≤ k then some (List.replicate k.toNat l).flatten else none
theorem DqAll.rep {I : Hp} {xs : List V} {ds : List PyData} (h : DqAll I xs ds) : ∀ k : Nat, DqAll I (List.replicate k xs).flatten (List.replicate k ds).flatten
  | 0 => .nil
  | k + 1 => by rw [List.replicate_succ, List.replicate_succ, List.flatten_cons, List.flatten_cons]; exact h.app (DqAll.rep h k)
/-- [..] * n, of a new list -/
theorem eo_rep {oa : Option (List α)} {ob : Option Int} (ha : EO X G a oa) (hb : ED X G b ob) : EO X G (.BinOp a .Mult b pos) (bind2 repG oa ob) := fun z hz => by
  obtain ⟨l, m, h1, h2, h3⟩ := bind2_get hz
  obtain ⟨⟨⟨hc, hc2⟩, hc3⟩, h3⟩ := ite_get h3
  subst h3
  refine (pe_op op_repR (ha l h1) (hb m h2)).imp fun σ H Q ⟨F, I, ps, R, q⟩ => ⟨F, I, ps, R, fun pa xs H1 I1 g1 R1 n1 n2 n3 hH d1 => ?_⟩
  -- the new list stands for others while the number is reckoned
  have R1' : RS X.K (upd F pa (.lst xs)) G σ H1 I1 ps := R1.frame (fun b o z => by
    by_cases c : b = pa
    · subst c; rw [upd_same] at z; cases z; exact hH
    · rw [upd_ne c] at z; exact R1.sf _ _ z) (fun i a ha => by rw [upd_ne (fun c : a = pa => n3 i (by rw [← c]; exact ha))]; exact R1.fo i a ha) (upd_iff n1)
  have sF : Same F (upd F pa (.lst xs)) := same_upd n2
  refine ⟨upd F pa (.lst xs), I1, ps, R1', fun w H2 I2 g2 R2 d2 => ?_⟩
  cases d2
  have hH2 : H2 pa = some (.lst xs) := R2.sf _ _ upd_same
  have g2' : Grow F I1 I2 := ⟨g2.same, fun a h => (g2.out a h).imp_right sF.free⟩
  have R2' : RS X.K F G σ H2 I2 ps := R2.frame (sF.trans R2.sf) R1.fo fun a z => (upd_iff (by
    cases w : I2 pa with
    | none => rfl
    | some o =>
      rcases g2.out pa (by rw [w]; simp) with h | h
      · exact absurd n1 h
      · rw [upd_same] at h; cases h) a z).symm
  have lx : xs.length = l.length := by rw [d1.len, List.length_map]
  refine ⟨pa, m, xs, rfl, rfl, hH2, by omega, by omega, ?_, fun p hp => q p _ _ I2 (g1.trans g2') (R2'.newOwn hp) (R2'.si.free hp) (R2'.sf.free hp) (fun i c => by obtain ⟨_, _, _, z⟩ := R2'.own_at c; rw [hp] at z; cases z) upd_same ?_⟩
  · have e1 : xs.length * m.toNat ≤ 64 * 262144 := Nat.mul_le_mul (by omega) (by omega)
    rw [sizeLine_eq]; omega
  · have := (DqAll_mono g2.same _ _ d1).rep m.toNat
    rw [show (List.replicate m.toNat (l.map enc)).flatten = ((List.replicate m.toNat l).flatten).map enc by rw [List.map_flatten, List.map_replicate]] at this
    exact this
end
end Lay

set_option Elab.async false
set_option linter.all false
set_option maxRecDepth 100000
/-! LayZ: zip of two lists, two tuples, or one of both, over the library's iterators of any kind (KE.GoesZip). -/
namespace Lay
open PySem PySem.Spec PyProof.Rows L2
open Lay.Enc (enc)

/-- true: a tuple, false: a list -/
def SqB (K : PySem.W.Frag) (b : Bool) (H : Hp) (a : Addr) (xs : List V) : Prop := match b with
  | true => SqT K H a xs
  | false => SqL K H a xs
def IterB (b : Bool) (h : Heap) (it l : Addr) (i : Nat) : Prop := match b with
  | true => h.IsTupleIter it l i
  | false => h.IsListIter it l i
def ObjB (b : Bool) (h : Heap) (l : Addr) (its : Array Value) : Prop := match b with
  | true => h.IsTuple l its
  | false => h.IsList l its
theorem IterB.at {b : Bool} {h h' : Heap} {it l : Addr} {i : Nat} (x : IterB b h it l i) (e : ∀ o, h.get? it = some o → h'.get? it = some o) : IterB b h' it l i := by
  cases b with
  | true => exact Heap.IsTupleIter.at x e
  | false => exact Heap.IsListIter.at x e
theorem IterB.obj {b : Bool} {h : Heap} {it l : Addr} {i : Nat} (x : IterB b h it l i) : ∃ o, h.get? it = some o ∧ ∀ v, o.data ≠ .cell v := by
  cases b with
  | true => obtain ⟨o, e, _, d⟩ := x; exact ⟨o, e, fun v z => by rw [d] at z; cases z⟩
  | false => obtain ⟨o, e, _, d⟩ := x; exact ⟨o, e, fun v z => by rw [d] at z; cases z⟩
theorem draws_b {prog : Program} {w : World} {A : Around} (hh : A.handled = none) (b : Bool) (it l : Addr) (ne : l ≠ it) (its : Array Value) :
    Draws prog w A it [it, l] its.size (fun i v => its[i]? = some v) (fun i h => IterB b h it l i ∧ ObjB b h l its) := by
  cases b with
  | true => exact Draws.tuple hh it l ne its
  | false => exact Draws.list hh it l ne its
section
variable {X : Cx} {pins : List (Addr × Obj)} {σ : L2.St} {H : Hp} {s : Shared} {a : Addr} {xs ys : List V} {b : Bool}
theorem sqB_items (I : Inv X pins σ H s) (h : SqB X.K b H a xs) : ∃ its : List Value, Vals xs its ∧ ObjB b s.heap a its.toArray := by
  cases b with
  | true => obtain ⟨its, r, p, _⟩ := I.tuple h; exact ⟨its, r, p⟩
  | false => obtain ⟨its, r, p, _⟩ := I.list h; exact ⟨its, r, p.isList⟩
theorem sqB_inj (I : Inv X pins σ H s) (h : SqB X.K b H a xs) (h' : SqB X.K b H a ys) : xs = ys := by
  cases b with
  | true => exact I.tuple_inj h h'
  | false => exact I.list_inj h h'
theorem objB_lt {h : Heap} {l : Addr} {its : Array Value} (x : ObjB b h l its) : l < h.objs.size := by
  cases b with
  | true => obtain ⟨o, e, _⟩ := x; exact Heap.lt_size e
  | false => obtain ⟨o, e, _⟩ := x; exact Heap.lt_size e
end
/-- the two at a and at c as they stand, item by item, in new pairs -/
def ItzB (K : PySem.W.Frag) (ba bc : Bool) (a c : Addr) : It where
  go i H := ∃ (xs ys : List V) (x y : V), SqB K ba H a xs ∧ SqB K bc H c ys ∧ xs[i]? = some x ∧ ys[i]? = some y
  yld i H v H' := ∃ T x y, v = .ref T ∧ H T = none ∧ H' = upd H T (.tup [x, y]) ∧ (∀ xs, SqB K ba H a xs → xs[i]? = some x) ∧ ∀ ys, SqB K bc H c ys → ys[i]? = some y
  stop i H := ∃ xs ys : List V, SqB K ba H a xs ∧ SqB K bc H c ys ∧ i ≤ xs.length ∧ i ≤ ys.length ∧ (i = xs.length ∨ i = ys.length)
/-- the five objects of a zip that was made at n -/
abbrev zipFp (n : Nat) : List Addr := [n + 4, n + 2, n + 3, n, n + 1]
def zipSt (n : Nat) (ba bc : Bool) (a c : Addr) (i : Nat) (h : Heap) : Prop :=
  IsZip h (n + 4) (n + 2) (n + 3) .none ∧ IsTupOf2 h (n + 2) (.ref n) (.ref (n + 1)) ∧ (∃ u v, IsTupOf2 h (n + 3) u v) ∧ IterB ba h n a i ∧ IterB bc h (n + 1) c i
theorem turn_zipB {P : Program} {w : World} {K : PySem.W.Frag} {es : List Expr} {kk : Nat} {tp : Pos} {ba bc : Bool} {a c n : Addr} (ha : a < n) (hc : c < n) :
    Turn P w K (.Tuple es kk tp) (ItzB K ba bc a c) (zipFp n) (n + 4) (zipSt n ba bc a c) := by
  have sep : ZipSep2 (n + 4) (n + 2) (n + 3) n (n + 1) [n, a] [n + 1, c] := zip_sep2 (N := n) (fp1 := [a]) (fp2 := [c]) (fun b h => by rw [List.mem_singleton.mp h]; exact ha) (fun b h => by rw [List.mem_singleton.mp h]; exact hc)
  have five : ∀ {b : Addr}, b ∈ zipFp n → b = n + 4 ∨ b = n + 2 ∨ b = n + 3 ∨ b = n ∨ b = n + 1 := fun h => by simpa [zipFp] using h
  refine { mem := by simp [zipFp], obj := ?_, keep := ?_, item := ?_, done := ?_, self := ?_ }
  · rintro i h ⟨z1, z2, ⟨u, v, z3⟩, z4, z5⟩ b hb
    rcases five hb with e | e | e | e | e <;> subst e
    · exact ⟨_, z1, fun _ z => nomatch z⟩
    · exact ⟨_, z2, fun _ z => nomatch z⟩
    · exact ⟨_, z3, fun _ z => nomatch z⟩
    · exact z4.obj
    · exact z5.obj
  · rintro i h h' ⟨z1, z2, ⟨u, v, z3⟩, z4, z5⟩ kp
    exact ⟨kp _ (by simp [zipFp]) _ z1, kp _ (by simp [zipFp]) _ z2, ⟨u, v, kp _ (by simp [zipFp]) _ z3⟩, z4.at (kp _ (by simp [zipFp])), z5.at (kp _ (by simp [zipFp]))⟩
  · intro X e1 e2 e3 calm i pins s σ H E I hf st hg
    subst e1 e2 e3
    obtain ⟨z1, z2, ⟨u, v, z3⟩, z4, z5⟩ := st
    obtain ⟨xs, ys, x, y, qa, qc, hx, hy⟩ := hg
    obtain ⟨ia, ra, pa⟩ := sqB_items I qa
    obtain ⟨ic, rc, pc⟩ := sqB_items I qc
    have hd : X.A.in1.handled = none := I.ok.hd calm
    have la : i < ia.toArray.size := by rw [List.size_toArray, ← ra.length]; exact (List.getElem?_eq_some_iff.mp hx).1
    have lc : i < ic.toArray.size := by rw [List.size_toArray, ← rc.length]; exact (List.getElem?_eq_some_iff.mp hy).1
    refine wpAny_pyNext_zipD2_item sep (draws_b hd ba n a (Nat.ne_of_lt ha) ia.toArray) (draws_b hd bc (n + 1) c (Nat.ne_of_lt (Nat.lt_succ_of_lt hc)) ic.toArray) z1 z2 z3 ⟨z4, pa⟩ ⟨z5, pc⟩ la lc
      fun u1 u2 h1 tk p1 p2 y1 y2 y4 y5 hT hsz kp => ?_
    have zlt : n + 4 < s.heap.objs.size := Heap.lt_size z1
    refine ⟨_, rfl, wpAny_letOwnedTupleGo_zip (s := { s with heap := h1, toks := tk }) y1 fun h2 y1' sb => ?_⟩
    -- the new pair
    obtain ⟨w1, hw1, r1⟩ := ra.get hx
    obtain ⟨w2, hw2, r2⟩ := rc.get hy
    have q1 : u1 = w1 := by
      have := p1; simp only [List.getElem?_toArray] at this; rw [hw1] at this; exact (Option.some.inj this).symm
    have q2 : u2 = w2 := by
      have := p2; simp only [List.getElem?_toArray] at this; rw [hw2] at this; exact (Option.some.inj this).symm
    subst q1 q2
    have hT2 : h2.get? s.heap.objs.size = some { cls := .type "tuple", data := .seq #[u1, u2] } := (sb.2 _ (Nat.ne_of_gt zlt)).trans hT
    have ok : ObjOk X.prog X.w (upd H s.heap.objs.size (.tup [x, y])) h2 s.heap.objs.size (.tup [x, y]) := ⟨small_line (by show 2 ≤ 8; decide), [u1, u2], .cons r1 (.cons r2 .nil), ⟨_, hT2, rfl, _, rfl⟩⟩
    have kp2 : ∀ b o, b ∉ zipFp n → s.heap.get? b = some o → h2.get? b = some o := fun b o hb e => by
      simp only [zipFp, List.mem_cons, List.not_mem_nil, or_false, not_or] at hb
      exact (sb.2 b hb.1).trans (kp b o hb.1 hb.2.2.1 hb.2.2.2.1 hb.2.2.2.2 e)
    have I1 : Inv X pins σ (upd H s.heap.objs.size (.tup [x, y])) { s with heap := h2, toks := tk } := I.turnedNew (t' := tk) (ch := zipFp n) kp2 hf (Nat.le_refl _) ok
    refine ⟨.ref s.heap.objs.size, _, I1, rfl, ⟨_, x, y, rfl, I.hok.fresh (Nat.le_refl _), rfl, fun l hl => ?_, fun l hl => ?_⟩, ⟨y1', ?_, ⟨u1, u2, ?_⟩, ?_, ?_⟩, fun b hb => ?_⟩
    · rw [sqB_inj I hl qa]; exact hx
    · rw [sqB_inj I hl qc]; exact hy
    · exact (sb.2 _ sep.TIz).trans (kp _ _ sep.TIz sep.TITO sep.TIi1 sep.TIi2 z2)
    · exact (sb.2 _ sep.TOz).trans y2
    · exact y4.1.at fun o e => (sb.2 _ sep.zi1.symm).trans e
    · exact y5.1.at fun o e => (sb.2 _ sep.zi2.symm).trans e
    · have lt : b < s.heap.objs.size := by
        rcases five hb with e | e | e | e | e <;> subst e
        · exact zlt
        · exact Heap.lt_size z2
        · exact Heap.lt_size z3
        · obtain ⟨o, e, _⟩ := z4.obj; exact Heap.lt_size e
        · obtain ⟨o, e, _⟩ := z5.obj; exact Heap.lt_size e
      rw [upd_ne (Nat.ne_of_lt lt)]
      exact (hf b hb).1
  · intro X e1 e2 e3 calm i pins s σ H E I hf st hg
    subst e1 e2 e3
    obtain ⟨z1, z2, ⟨u, v, z3⟩, z4, z5⟩ := st
    obtain ⟨xs, ys, qa, qc, l1, l2, hend⟩ := hg
    obtain ⟨ia, ra, pa⟩ := sqB_items I qa
    obtain ⟨ic, rc, pc⟩ := sqB_items I qc
    have hd : X.A.in1.handled = none := I.ok.hd calm
    have ea : ia.toArray.size = xs.length := by rw [List.size_toArray, ra.length]
    have ec : ic.toArray.size = ys.length := by rw [List.size_toArray, rc.length]
    refine wpAny_pyNext_zipD2_end sep (draws_b hd ba n a (Nat.ne_of_lt ha) ia.toArray) (draws_b hd bc (n + 1) c (Nat.ne_of_lt (Nat.lt_succ_of_lt hc)) ic.toArray) z1 z2 z3 ⟨z4, pa⟩ ⟨z5, pc⟩ (by omega) (by omega) (by rw [ea, ec]; exact hend)
      fun h1 tk kp => ⟨rfl, I.turnedL (t' := tk) (ch := zipFp n) (fun b o hb e => ?_) hf⟩
    simp only [zipFp, List.mem_cons, List.not_mem_nil, or_false, not_or] at hb
    exact kp b o hb.1 hb.2.2.1 hb.2.2.2.1 hb.2.2.2.2 e
  · exact fun A i s Q E st h => wpAny_pyIter_zip st.1 h

theorem begins_b (b : Bool) (l : Addr) (its : Array Value) : ∃ o, Begins (.ref l) o (fun h => ObjB b h l its) ∧ ∀ (h : Heap) (it : Addr), h.get? it = some o → IterB b h it l 0 := by
  cases b with
  | true => exact ⟨_, begins_tuple l its, fun h it e => ⟨_, e, rfl, rfl⟩⟩
  | false => exact ⟨_, begins_list l its, fun h it e => ⟨_, e, rfl, rfl⟩⟩
def iZipB (K : PySem.W.Frag) (ba bc : Bool) (ta : TA) : TI := fun σ H R => ta σ H fun vs H1 => ∃ a c xs ys, vs = [.ref a, .ref c] ∧ SqB K ba H1 a xs ∧ SqB K bc H1 c ys ∧ R (ItzB K ba bc a c) H1
theorem pi_zipB {X : Cx} {e e2 : Expr} {ta : TA} {p pos tp : Pos} {es : List Expr} {kk : Nat} (ba bc : Bool) (gl : Gl X "zip") (hm : X.mg "zip" = none) (hA : PA X [e, e2] ta)
    (s1 : starEach [e, e2] X.env = (false, eval e X.env) :: starEach [e2] X.env) (s2 : (backTo pos (starEach [e2] X.env)).any (·.1) = false) : PI X (.Tuple es kk tp) (.Call (.Name "zip" p) [e, e2] [] pos) (iZipB X.K ba bc ta) := ⟨fun pins s σ H R I h => by
  refine Call_ (ld_blt I gl hm PyProof.Rows.boot_zip (PyProof.Rows.callWith_type1 (thn (hA.run pos pins s σ H _ I h) fun us st q => ?_) s1 s2))
  obtain ⟨vs, H1, I1, rv, a, c, xs, ys, ev, qa, qc, q⟩ := q
  subst ev
  obtain ⟨u1, u2, eu, r1, r2⟩ := Vals.two rv
  subst eu
  have r1 : u1 = .ref a := r1
  have r2 : u2 = .ref c := r2
  subst r1 r2
  obtain ⟨ia, ra, pa⟩ := sqB_items I1 qa
  obtain ⟨ic, rc, pc⟩ := sqB_items I1 qc
  obtain ⟨o1, B1, w1⟩ := begins_b ba a ia.toArray
  obtain ⟨o2, B2, w2⟩ := begins_b bc c ic.toArray
  refine zip_begins2 B1 B2 pa pc fun h' z1 z2 z3 z4 z5 hz kp => wpAny_pyIter_zip z1 ?_
  exact ⟨_, zipFp st.heap.objs.size, _, _, H1, rfl, I1.kept (t' := st.toks) kp, turn_zipB (objB_lt pa) (objB_lt pc), ⟨z1, z2, ⟨_, _, z3⟩, w1 _ _ z4, w2 _ _ z5⟩, fun b hb => by
    have le : st.heap.objs.size ≤ b := by
      simp only [zipFp, List.mem_cons, List.not_mem_nil, or_false] at hb
      rcases hb with e | e | e | e | e <;> (rw [e]; first | exact Nat.le_refl _ | exact Nat.le_add_right _ _)
    exact I1.fpOk le (I1.hok.fresh le), q⟩⟩

/-! ### over data -/
/-- a list or a tuple of data -/
class SeqD (σ : Type) (α : outParam Type) [Enc α] [Enc σ] where
  kd : Bool
  ls : σ → List α
  ok : ∀ x, enc x = if kd then PyData.tuple ((ls x).map enc) else PyData.list ((ls x).map enc)
instance {α : Type} [Enc α] : SeqD (List α) α := ⟨false, id, fun _ => rfl⟩
instance {α : Type} [Enc α] : SeqD (Tup α) α := ⟨true, Tup.l, fun _ => rfl⟩
theorem SeqD.sq {σ α : Type} [Enc α] [Enc σ] [S : SeqD σ α] {K : PySem.W.Frag} {H : Hp} {v : V} {x : σ} (d : Dq H v (enc x)) : ∃ a xs, v = .ref a ∧ (∀ H', Same H H' → SqB K S.kd H' a xs) ∧ DqAll H xs ((S.ls x).map enc) := by
  rw [S.ok x] at d
  cases h : S.kd with
  | true =>
    rw [h, if_pos rfl] at d
    cases d with | tup k1 k2 => exact ⟨_, _, rfl, fun H' s => .inl (rd_mono s k1), k2⟩
  | false =>
    rw [h, if_neg (by decide)] at d
    cases d with | lst k1 k2 => exact ⟨_, _, rfl, fun H' s => .inl (rd_mono s k1), k2⟩
theorem it_zipS {X : Cx} {G : List Sl} {σ τ α β : Type} [Enc α] [Enc β] [Enc σ] [Enc τ] [S : SeqD σ α] [T : SeqD τ β] {e e2 : Expr} {N : List Str} {sc : Scope} {fs : Option Scope} {k : Nat} {p pos tpos : Pos} {elts : List Expr} {kk : Nat} {o : Option σ} {o2 : Option τ}
    (C : Ctx X N sc fs k) (hg : glbB sc "zip" = true) (hm : X.mg "zip" = none) (h : ED X G e o) (h' : ED X G e2 o2)
    (hs : starEach [e, e2] X.env = (false, eval e X.env) :: starEach [e2] X.env := by rfl) (hs2 : starEach [e2] X.env = [(false, eval e2 X.env)] := by rfl) (hpl : (backTo pos (starEach [e2] X.env)).any (·.1) = false := by rfl) :
    IT X G (.Tuple elts kk tpos) (.Call (.Name "zip" p) [e, e2] [] pos) (lift2 (fun x y => zipL (S.ls x) (T.ls y)) o o2) := fun l hl => by
  obtain ⟨t, u, h1, h2, h3⟩ := lift2_get hl
  subst h3
  have pa : PA X [e, e2] (tA X.K G [enc t, enc u]) := ad_cons h (ad_cons h' ad_nil hs2) hs _ (by rw [h1, h2]; rfl)
  refine (pi_len (pi_zipB S.kd T.kd (glbB_gl C.s hg).1 hm pa hs hpl) fun σ H R R' w ⟨F, I, ps, r, q⟩ => ⟨F, I, ps, r, fun v H' I' g r' d => by obtain ⟨a, b, xs, ys, e, z1, z2, q⟩ := q v H' I' g r' d; exact ⟨a, b, xs, ys, e, z1, z2, w _ _ q⟩⟩).imp
    fun σ H R ⟨F, I, ps, r, q⟩ => ⟨F, I, ps, r, fun vs H' I' g r' d => ?_⟩
  cases d with
  | cons d1 d2 =>
    cases d2 with
    | cons d2 d3 =>
      cases d3
      obtain ⟨a1, xs, e1, k1, k2⟩ := SeqD.sq (K := X.K) d1
      obtain ⟨a2, ys, e2, k3, k4⟩ := SeqD.sq (K := X.K) d2
      subst e1 e2
      have lx : xs.length = (S.ls t).length := by rw [k2.len, List.length_map]
      have ly : ys.length = (T.ls u).length := by rw [k4.len, List.length_map]
      have ln : (zipL (S.ls t) (T.ls u)).length = min (S.ls t).length (T.ls u).length := by unfold zipL; rw [List.length_zipWith]
      refine ⟨_, _, _, _, rfl, k1 _ r'.si, k3 _ r'.si, fun lo => q _ _ I' g r' ⟨fun i d H s hd => ?_, fun H s => ?_⟩ ?_⟩
      · have hi : i < min (S.ls t).length (T.ls u).length := by
          have := (List.getElem?_eq_some_iff.mp hd).1
          rw [List.length_map, ln] at this; exact this
        have hx : (S.ls t)[i]? = some ((S.ls t)[i]'(by omega)) := List.getElem?_eq_getElem (by omega)
        have hy : (T.ls u)[i]? = some ((T.ls u)[i]'(by omega)) := List.getElem?_eq_getElem (by omega)
        unfold zipL at hd
        rw [List.getElem?_map, List.getElem?_zipWith, hx, hy] at hd
        have hd := Option.some.inj hd
        subst hd
        obtain ⟨v, hv, dv⟩ := k2.at (show ((S.ls t).map enc)[i]? = some (enc ((S.ls t)[i]'(by omega))) by rw [List.getElem?_map, hx]; rfl)
        obtain ⟨w, hw, dw⟩ := k4.at (show ((T.ls u).map enc)[i]? = some (enc ((T.ls u)[i]'(by omega))) by rw [List.getElem?_map, hy]; rfl)
        refine ⟨⟨_, _, v, w, k1 _ s, k3 _ s, hv, hw⟩, fun x H' y => ?_⟩
        obtain ⟨T, z, z', e1, e2, e3, e4, e5⟩ := y
        have e4 := e4 _ (k1 _ s)
        have e5 := e5 _ (k3 _ s)
        rw [hv] at e4; cases e4
        rw [hw] at e5; cases e5
        subst e1
        have m := same_upd (o := HO.tup [v, w]) (s.free e2)
        exact .inr ⟨T, _, e2, e3, .tup (.inl upd_same) (.cons (Dq_mono m _ _ dv) (.cons (Dq_mono m _ _ dw) .nil))⟩
      · rw [List.length_map, ln]
        exact ⟨_, _, k1 _ s, k3 _ s, by omega, by omega, by omega⟩
      · rw [List.length_map, ln]
        have : xs.length ≤ sizeLine := by
          have := k1 _ r'.si
          cases hk : S.kd with
          | true => rw [hk] at this; exact (lo _ _).2 this
          | false => rw [hk] at this; exact (lo _ _).1 this
        omega
end Lay

set_option Elab.async false
set_option linter.all false
set_option maxRecDepth 100000
/-! Lay8: equality, in, repr, stores to own lists, list(range), gcd, raise. -/
namespace Lay
open PySem PySem.Spec PyProof.Rows L2
open Lay.Enc (enc)

/-! ### data of bounded depth that == and repr read -/
class Sh (α : Type) [Enc α] where
  dp : Nat
  lay : ∀ x : α, (enc x).canLay0 = true
  dep : ∀ x : α, (enc x).depth ≤ dp
instance : Sh Int := ⟨0, fun _ => rfl, fun _ => Nat.le_refl _⟩
instance : Sh Bool := ⟨0, fun _ => rfl, fun _ => Nat.le_refl _⟩
instance : Sh Unit := ⟨0, fun _ => rfl, fun _ => Nat.le_refl _⟩
theorem layAll {α : Type} [Enc α] [S : Sh α] : ∀ l : List α, PyData.canLayAll0 (l.map enc) = true
  | [] => rfl
  | x :: xs => by
    show (PyData.canLay0 (enc x) && PyData.canLayAll0 (xs.map enc)) = true
    rw [S.lay x, layAll xs]; rfl
theorem depAll {α : Type} [Enc α] [S : Sh α] : ∀ l : List α, PyData.depthAll (l.map enc) ≤ S.dp
  | [] => Nat.zero_le _
  | x :: xs => by
    show max (PyData.depth (enc x)) (PyData.depthAll (xs.map enc)) ≤ _
    have h1 := S.dep x
    have h2 := depAll xs
    omega
instance {α : Type} [Enc α] [S : Sh α] : Sh (List α) := ⟨S.dp + 1, fun l => layAll l, fun l => Nat.succ_le_succ (depAll l)⟩
instance {α : Type} [Enc α] [S : Sh α] : Sh (Tup α) := ⟨S.dp + 1, fun t => layAll t.l, fun t => Nat.succ_le_succ (depAll t.l)⟩
instance {α : Type} [Enc α] [S : Sh α] : Sh (Option α) := ⟨S.dp, fun o => by cases o with | none => rfl | some x => exact S.lay x, fun o => by cases o with | none => exact Nat.zero_le _ | some x => exact S.dep x⟩
instance {α β : Type} [Enc α] [Enc β] [S : Sh α] [T : Sh β] : Sh (T2 α β) := ⟨max S.dp T.dp + 1, fun t => by
  show (PyData.canLay0 (enc t.a) && (PyData.canLay0 (enc t.b) && true)) = true
  rw [S.lay, T.lay]; rfl, fun t => by
  show max (PyData.depth (enc t.a)) (max (PyData.depth (enc t.b)) 0) + 1 ≤ _
  have := S.dep t.a; have := T.dep t.b; omega⟩
instance {α β γ : Type} [Enc α] [Enc β] [Enc γ] [S : Sh α] [T : Sh β] [U : Sh γ] : Sh (T3 α β γ) := ⟨max S.dp (max T.dp U.dp) + 1, fun t => by
  show (PyData.canLay0 (enc t.a) && (PyData.canLay0 (enc t.b) && (PyData.canLay0 (enc t.c) && true))) = true
  rw [S.lay, T.lay, U.lay]; rfl, fun t => by
  show max (PyData.depth (enc t.a)) (max (PyData.depth (enc t.b)) (max (PyData.depth (enc t.c)) 0)) + 1 ≤ _
  have := S.dep t.a; have := T.dep t.b; have := U.dep t.c; omega⟩
instance {α β γ δ : Type} [Enc α] [Enc β] [Enc γ] [Enc δ] [S : Sh α] [T : Sh β] [U : Sh γ] [W : Sh δ] : Sh (T4 α β γ δ) := ⟨max S.dp (max T.dp (max U.dp W.dp)) + 1, fun t => by
  show (PyData.canLay0 (enc t.a) && (PyData.canLay0 (enc t.b) && (PyData.canLay0 (enc t.c) && (PyData.canLay0 (enc t.d) && true)))) = true
  rw [S.lay, T.lay, U.lay, W.lay]; rfl, fun t => by
  show max (PyData.depth (enc t.a)) (max (PyData.depth (enc t.b)) (max (PyData.depth (enc t.c)) (max (PyData.depth (enc t.d)) 0))) + 1 ≤ _
  have := S.dep t.a; have := T.dep t.b; have := U.dep t.c; have := W.dep t.d; omega⟩
/-- == on data is equality -/
class EqL (α : Type) [Enc α] [DecidableEq α] : Prop where
  eqv : ∀ x y : α, PyData.eqv (enc x) (enc y) = decide (x = y)
instance : EqL Int := ⟨fun x y => by show (x == y) = _; by_cases h : x = y <;> simp [h]⟩
instance : EqL Bool := ⟨fun x y => by cases x <;> cases y <;> rfl⟩
instance : EqL Unit := ⟨fun x y => rfl⟩
theorem eqvAll_eq {α : Type} [Enc α] [DecidableEq α] [S : EqL α] : ∀ l m : List α, PyData.eqvAll (l.map enc) (m.map enc) = decide (l = m)
  | [], [] => rfl
  | [], y :: ys => rfl
  | x :: xs, [] => rfl
  | x :: xs, y :: ys => by
    show (PyData.eqv (enc x) (enc y) && PyData.eqvAll (xs.map enc) (ys.map enc)) = _
    rw [S.eqv, eqvAll_eq xs ys]
    by_cases h1 : x = y <;> by_cases h2 : xs = ys <;> simp [h1, h2]
instance {α : Type} [Enc α] [DecidableEq α] [EqL α] : EqL (List α) := ⟨fun l m => eqvAll_eq l m⟩
instance {α : Type} [Enc α] [DecidableEq α] [EqL α] : EqL (Tup α) := ⟨fun ⟨l⟩ ⟨m⟩ => by
  show PyData.eqvAll (l.map enc) (m.map enc) = _
  rw [eqvAll_eq]; simp⟩
theorem eqv_none {d : PyData} (h : d ≠ .none) : PyData.eqv .none d = false ∧ PyData.eqv d .none = false := by
  cases d <;> first | exact absurd rfl h | exact ⟨rfl, rfl⟩
instance {α : Type} [Enc α] [DecidableEq α] [S : EqL α] [N : NonNone α] : EqL (Option α) := ⟨fun x y => by
  cases x with
  | none => cases y with
    | none => rfl
    | some y => exact (eqv_none (N.ne y)).1
  | some x => cases y with
    | none => exact (eqv_none (N.ne x)).2
    | some y => show PyData.eqv (enc x) (enc y) = _; rw [S.eqv]; simp⟩
instance {α β : Type} [Enc α] [Enc β] [DecidableEq α] [DecidableEq β] [S : EqL α] [T : EqL β] : EqL (T2 α β) := ⟨fun ⟨a, b⟩ ⟨c, d⟩ => by
  show (PyData.eqv (enc a) (enc c) && (PyData.eqv (enc b) (enc d) && true)) = _
  rw [S.eqv, T.eqv]; by_cases h1 : a = c <;> by_cases h2 : b = d <;> simp [h1, h2]⟩
instance {α β γ : Type} [Enc α] [Enc β] [Enc γ] [DecidableEq α] [DecidableEq β] [DecidableEq γ] [S : EqL α] [T : EqL β] [U : EqL γ] : EqL (T3 α β γ) := ⟨fun ⟨a, b, c⟩ ⟨d, e, f⟩ => by
  show (PyData.eqv (enc a) (enc d) && (PyData.eqv (enc b) (enc e) && (PyData.eqv (enc c) (enc f) && true))) = _
  rw [S.eqv, T.eqv, U.eqv]; by_cases h1 : a = d <;> by_cases h2 : b = e <;> by_cases h3 : c = f <;> simp [h1, h2, h3]⟩
instance {α β γ δ : Type} [Enc α] [Enc β] [Enc γ] [Enc δ] [DecidableEq α] [DecidableEq β] [DecidableEq γ] [DecidableEq δ] [S : EqL α] [T : EqL β] [U : EqL γ] [W : EqL δ] : EqL (T4 α β γ δ) := ⟨fun ⟨a, b, c, x⟩ ⟨d, e, f, y⟩ => by
  show (PyData.eqv (enc a) (enc d) && (PyData.eqv (enc b) (enc e) && (PyData.eqv (enc c) (enc f) && (PyData.eqv (enc x) (enc y) && true)))) = _
  rw [S.eqv, T.eqv, U.eqv, W.eqv]; by_cases h1 : a = d <;> by_cases h2 : b = e <;> by_cases h3 : c = f <;> by_cases h4 : x = y <;> simp [h1, h2, h3, h4]⟩
theorem shaped_of {α : Type} [Enc α] [S : Sh α] (h : S.dp ≤ 60) (x : α) : SeqAt.shaped (enc x) = true := by
  unfold SeqAt.shaped
  have h2 : PyData.depth (enc x) ≤ 64 := Nat.le_trans (Nat.le_trans (S.dep x) h) (by decide)
  rw [S.lay x, decide_eq_true h2]; rfl

section
variable {X : Cx} {G : List Sl} {α β : Type} [Enc α] [Enc β] {a b e : Expr} {pos p : Pos} {N : List Str} {sc : Scope} {fs : Option Scope} {k : Nat}
theorem ec_eqD [DecidableEq α] [EqL α] [S : Sh α] {oa ob : Option α} (C : Ctx X N sc fs k) (ha : ED X G a oa) (hb : ED X G b ob) (hd : S.dp ≤ 60 := by decide) : EC X G .Eq a b (lift2 (fun x y => decide (x = y)) oa ob) :=
  ec_of (op_eqD C.rm.units) (fun x y F G σ H I ps v w Q R dv dw q => ⟨_, _, Dq_dp _ _ (Dq_mono R.si _ _ dv), Dq_dp _ _ (Dq_mono R.si _ _ dw), shaped_of hd x, shaped_of hd y, by rw [EqL.eqv]; exact q _ _ _ Grow.refl R (.bl _)⟩) (nomark _) ha hb
theorem ec_neD [DecidableEq α] [EqL α] [S : Sh α] {oa ob : Option α} (C : Ctx X N sc fs k) (ha : ED X G a oa) (hb : ED X G b ob) (hd : S.dp ≤ 60 := by decide) : EC X G .NotEq a b (lift2 (fun x y => !decide (x = y)) oa ob) :=
  ec_of (op_neD C.rm.units) (fun x y F G σ H I ps v w Q R dv dw q => ⟨_, _, Dq_dp _ _ (Dq_mono R.si _ _ dv), Dq_dp _ _ (Dq_mono R.si _ _ dw), shaped_of hd x, shaped_of hd y, by rw [EqL.eqv]; exact q _ _ _ Grow.refl R (.bl _)⟩) (nomark _) ha hb
theorem DqAll_toDp {K : PySem.W.Frag} {H I : Hp} {xs : List V} {ds : List PyData} (s : Same I H) (h : DqAll I xs ds) : DpAll K H xs ds := DqAll_dp _ _ (DqAll_mono s _ _ h)
theorem any_mem [DecidableEq α] [EqL α] (l : List α) (x : α) : ((l.map enc).any fun z => PyData.eqv z (enc x)) = decide (x ∈ l) := by
  induction l with
  | nil => simp
  | cons y ys ih =>
    rw [List.map_cons, List.any_cons, ih, EqL.eqv]
    by_cases h1 : y = x
    · simp [h1]
    · have h2 : ¬ x = y := fun h => h1 h.symm
      simp [h1, h2]
theorem tOp_in {K : PySem.W.Frag} {r : R2} {d : PyData} {ds : List PyData} {c : Bool} (h : ∀ (F : Hp) (G : List Sl) (σ : L2.St) (H I : Hp) (ps : Nat → Option Addr) (v : V) (ad : Addr) (xs : List V) (Q : VK), RS K F G σ H I ps → Dq I v d → SqL K H ad xs → DqAll I xs ds → Q (.bl c) H → r v (.ref ad) H Q)
    (σ : L2.St) (H : Hp) (Q : VK) (t : tD K G (.bool c) σ H Q) : tOp r (tD K G d) (tR K G ds) σ H Q := by
  obtain ⟨F, I, ps, R, q⟩ := t
  exact ⟨F, I, ps, R, fun v H1 I1 g1 R1 dv => ⟨F, I1, ps, R1, fun ad xs H2 I2 g2 R2 s dx => h F G σ H2 I2 ps v ad xs Q R2 (Dq_mono g2.same _ _ dv) s dx (q _ _ _ (g1.trans g2) R2 (.bl _))⟩⟩
theorem ec_in [DecidableEq α] [EqL α] [S : Sh α] {oa : Option α} {ob : Option (List α)} (C : Ctx X N sc fs k) (ha : ED X G a oa) (hb : ER X G b ob) (hm : behindInMarks .In b = false := by rfl) (hd : S.dp ≤ 59 := by decide) : EC X G .In a b (lift2 (fun x l => decide (x ∈ l)) oa ob) := fun c hc => by
  obtain ⟨x, l, h1, h2, h3⟩ := lift2_get hc
  subst h3
  refine ⟨_, _, _, op_inD (by have := C.rm.un; omega), ha x h1, hb l h2, hm, tOp_in fun F G σ H I ps v ad xs Q R dv s dx q => ?_⟩
  refine ⟨_, _, Dq_dp _ _ (Dq_mono R.si _ _ dv), .lst s (DqAll_toDp R.si dx), shaped_of (Nat.le_trans hd (by decide)) x, shaped_of (α := List α) (Nat.succ_le_succ hd) l, ?_⟩
  rw [any_mem]; exact q
theorem ec_notIn [DecidableEq α] [EqL α] [S : Sh α] {oa : Option α} {ob : Option (List α)} (C : Ctx X N sc fs k) (ha : ED X G a oa) (hb : ER X G b ob) (hm : behindInMarks .NotIn b = false := by rfl) (hd : S.dp ≤ 59 := by decide) : EC X G .NotIn a b (lift2 (fun x l => !decide (x ∈ l)) oa ob) := fun c hc => by
  obtain ⟨x, l, h1, h2, h3⟩ := lift2_get hc
  subst h3
  refine ⟨_, _, _, op_notInD (by have := C.rm.un; omega), ha x h1, hb l h2, hm, tOp_in fun F G σ H I ps v ad xs Q R dv s dx q => ?_⟩
  refine ⟨_, _, Dq_dp _ _ (Dq_mono R.si _ _ dv), .lst s (DqAll_toDp R.si dx), shaped_of (Nat.le_trans hd (by decide)) x, shaped_of (α := List α) (Nat.succ_le_succ hd) l, ?_⟩
  rw [any_mem]; exact q

/-! ### repr -/
def reprD (d : PyData) : Option Str := if d.showable = true ∧ d.shown.length ≤ sizeLine then some d.shown else none
theorem cr_repr (C : Ctx X N sc fs k) : CallR X (.builtin "repr") (fun vs H Q => ∃ v d, vs = [v] ∧ Dp X.K H v d ∧ d.canLay0 = true ∧ d.depth ≤ 60 ∧ d.showable = true ∧ d.shown.length ≤ sizeLine ∧ Q (.str d.shown) H) := by
  intro pins s σ H vs us Q I r h
  obtain ⟨v, d, e, dv, lay, dep, shw, len, q⟩ := h
  subst e
  obtain ⟨u, eu, ru⟩ := vals1 r
  subst eu
  have nd := PyData.hasDict_of_canLay d lay
  have un := C.rm.un
  cases dv with
  | non => cases ru; exact PySem.P.repr_of_none ⟨.str _, H, I.tok _, ⟨_, rfl⟩, q⟩
  | bl b => cases ru; exact PySem.P.repr_of_bool ⟨.str _, H, I.tok _, ⟨_, rfl⟩, q⟩
  | int i => obtain ⟨t, rfl⟩ := ru; exact PySem.P.repr_of_int (of_decide_eq_true shw) ⟨.str _, H, I.tok _, ⟨_, rfl⟩, q⟩
  | str x => obtain ⟨t, rfl⟩ := ru; exact PySem.P.repr_of_str ⟨.str _, H, I.tok _, ⟨_, rfl⟩, q⟩ len
  | lst h1 h2 =>
    have dv : Dp X.K H _ _ := .lst h1 h2
    obtain ⟨as, rd⟩ := Dp.reads I _ _ _ dv ru
    cases ru
    exact repr_of_reads' rd shw (PyData.noDict_hsm nd) C.gd (by omega) (fun _ _ e => e) (fun h' u tk hk => ⟨.str _, H, I.kept hk, ⟨_, rfl⟩, q⟩) len
  | tup h1 h2 =>
    have dv : Dp X.K H _ _ := .tup h1 h2
    obtain ⟨as, rd⟩ := Dp.reads I _ _ _ dv ru
    cases ru
    exact repr_of_reads' rd shw (PyData.noDict_hsm nd) C.gd (by omega) (fun _ _ e => e) (fun h' u tk hk => ⟨.str _, H, I.kept hk, ⟨_, rfl⟩, q⟩) len
theorem ed_repr [S : Sh α] {o : Option α} (C : Ctx X N sc fs k) (hg : glbB sc "repr" = true) (hm : X.mg "repr" = none) (h : ED X G e o) (hs : starEach [e] X.env = (false, eval e X.env) :: starEach [] X.env := by rfl) (hd : S.dp ≤ 60 := by decide) :
    ED X G (.Call (.Name "repr" p) [e] [] pos) (o.bind fun x => reprD (enc x)) := fun z hz => by
  obtain ⟨x, h1, h2⟩ := bind_get hz
  obtain ⟨⟨h3, h4⟩, h5⟩ := ite_get h2
  subst h5
  refine (b1 (id := "repr") C hg hm (by decide +kernel) (cr_repr C) (h x h1) (by decide) hs).imp (tD_b1 fun F G σ H I ps v Q R d q => ?_)
  exact ⟨v, _, rfl, Dq_dp _ _ (Dq_mono R.si _ _ d), S.lay x, Nat.le_trans (S.dep x) hd, h3, h4, q _ _ _ Grow.refl R (.str _)⟩

/-! ### math.gcd, list(range(..)) -/
def gcdI (i j : Int) : Int := ((Nat.gcd i.natAbs j.natAbs : Nat) : Int)
theorem ed_gcd {oa ob : Option Int} (C : Ctx X N sc fs k) (hg : glbB sc "gcd" = true) (hm : X.mg "gcd" = some (.builtin "math.gcd")) (ha : ED X G a oa) (hb : ED X G b ob)
    (hs : starEach [a, b] X.env = (false, eval a X.env) :: starEach [b] X.env := by rfl) (hs2 : starEach [b] X.env = (false, eval b X.env) :: starEach [] X.env := by rfl) (hp : (backTo pos (starEach [b] X.env)).any (·.1) = false := by rfl) :
    ED X G (.Call (.Name "gcd" p) [a, b] [] pos) (lift2 gcdI oa ob) := fun z hz => by
  obtain ⟨i, j, h1, h2, h3⟩ := lift2_get hz
  subst h3
  obtain ⟨gl, db⟩ := glbB_gl C.s hg
  refine (pe_callBfun cr_gcd gl hm (pa_cons (ha i h1) (pa_cons (hb j h2) pa_nil hs2) hs) db hs hp).imp fun σ H Q ⟨F, I, ps, R, q⟩ => ⟨F, I, ps, R, fun v H1 I1 g1 R1 d1 => ⟨F, I1, ps, R1, fun u H2 I2 g2 R2 d2 => ?_⟩⟩
  cases d1; cases d2
  exact ⟨i, j, rfl, q _ _ _ (g1.trans g2) R2 (.int _)⟩
theorem eo_lrng1 {p2 pos2 : Pos} {o : Option Int} (C : Ctx X N sc fs k) (hg : glbB sc "list" = true) (hm : X.mg "list" = none) (hg2 : glbB sc "range" = true) (hm2 : X.mg "range" = none) (h : ED X G e o)
    (hs : starEach [e] X.env = (false, eval e X.env) :: starEach [] X.env := by rfl) (hs2 : starEach [.Call (.Name "range" p2) [e] [] pos2] X.env = (false, eval (.Call (.Name "range" p2) [e] [] pos2) X.env) :: starEach [] X.env := by rfl) :
    EO X G (.Call (.Name "list" p) [.Call (.Name "range" p2) [e] [] pos2] [] pos) (o.bind rng1) := fun l hl => by
  obtain ⟨j, h1, h2⟩ := bind_get hl
  obtain ⟨hc, h2⟩ := ite_get h2
  subst h2
  refine (pe_listRg C.calm (glbB_gl C.s hg).1 hm (prg_1 (glbB_gl C.s hg2).1 hm2 (h j h1) hs) hs2).imp fun σ H Q ⟨F, I, ps, R, q⟩ => ⟨F, I, ps, R, fun v H1 I1 g1 R1 d => ?_⟩
  cases d
  have l24 : (sizeLine : Int) = 16777216 := by rw [sizeLine_eq]; rfl
  refine ⟨j, rfl, ⟨by omega, by omega, by omega, by omega, by omega⟩, fun p hp => q p _ _ I1 g1 (R1.newOwn hp) (R1.si.free hp) (R1.sf.free hp) (fun i c => by obtain ⟨_, _, _, z⟩ := R1.own_at c; rw [hp] at z; cases z) upd_same ?_⟩
  rw [show rgV 0 j = (rngL 0 j.toNat).map V.int by unfold rgV rngL; rw [List.map_map]; simp]
  exact of_ints _
theorem eo_lrng2 {e2 : Expr} {p2 pos2 : Pos} {o o2 : Option Int} (C : Ctx X N sc fs k) (hg : glbB sc "list" = true) (hm : X.mg "list" = none) (hg2 : glbB sc "range" = true) (hm2 : X.mg "range" = none) (h : ED X G e o) (h' : ED X G e2 o2)
    (hs : starEach [e, e2] X.env = (false, eval e X.env) :: starEach [e2] X.env := by rfl) (hs1 : starEach [e2] X.env = (false, eval e2 X.env) :: starEach [] X.env := by rfl) (hp : (backTo pos2 (starEach [e2] X.env)).any (·.1) = false := by rfl)
    (hs2 : starEach [.Call (.Name "range" p2) [e, e2] [] pos2] X.env = (false, eval (.Call (.Name "range" p2) [e, e2] [] pos2) X.env) :: starEach [] X.env := by rfl) :
    EO X G (.Call (.Name "list" p) [.Call (.Name "range" p2) [e, e2] [] pos2] [] pos) (bind2 rng2 o o2) := fun l hl => by
  obtain ⟨i, j, h1, h2, h3⟩ := bind2_get hl
  obtain ⟨hc, h3⟩ := ite_get h3
  subst h3
  refine (pe_listRg C.calm (glbB_gl C.s hg).1 hm (prg_2 (glbB_gl C.s hg2).1 hm2 (h i h1) (h' j h2) hs hs1 hp) hs2).imp fun σ H Q ⟨F, I, ps, R, q⟩ => ⟨F, I, ps, R, fun v H1 I1 g1 R1 d => ⟨F, I1, ps, R1, fun v2 H2 I2 g2 R2 d2 => ?_⟩⟩
  cases d; cases d2
  have l24 : (sizeLine : Int) = 16777216 := by rw [sizeLine_eq]; rfl
  refine ⟨i, j, rfl, rfl, ⟨by omega, by omega, by omega, by omega, by omega⟩, fun p hp => q p _ _ I2 (g1.trans g2) (R2.newOwn hp) (R2.si.free hp) (R2.sf.free hp) (fun i c => by obtain ⟨_, _, _, z⟩ := R2.own_at c; rw [hp] at z; cases z) upd_same ?_⟩
  rw [show rgV i j = (rngL i (j - i).toNat).map V.int by unfold rgV rngL; rw [List.map_map]; rfl]
  exact of_ints _
end

/-! ### stores to an own list -/
section
variable {X : Cx} {G : List Sl} {S B R : Type} [Enc R] {P : S → List Sl} {PB : B → List Sl} {own : Rk} {rest : List Stmt} {N : List Str} {sc : Scope} {fs : Option Scope} {k i : Nat} {x : Str} {α : Type} [Enc α] {e b : Expr} {pos p p2 sp : Pos}
theorem sv_raise {exc : Option Expr} : SV X G (.Raise exc none pos :: rest) P PB own (none : Option (Out S B R)) := sv_none
def appG {α : Type} (l : List α) (x : α) : Option (List α) := if l.length < sizeLine then some (l ++ [x]) else none
theorem own_slot {K : PySem.W.Frag} {F H I : Hp} {σ : L2.St} {ps : Nat → Option Addr} (R : RS K F G σ H I ps) {ds : List PyData} (hs : slAt G i = .own ds) : ∃ a xs, ps i = some a ∧ σ[i]? = some (some (.ref a)) ∧ H a = some (.lst xs) ∧ DqAll I xs ds := by
  have hi : i < G.length := by
    by_cases c : i < G.length
    · exact c
    · rw [slAt_out (by omega)] at hs; cases hs
  obtain ⟨w, k1, k2⟩ := R.sl i hi
  rw [hs] at k2
  obtain ⟨a, xs, e1, e2, n, hH, d⟩ := k2
  subst e2
  exact ⟨a, xs, e1, k1, hH, d⟩
theorem pe_name (C : Ctx X N sc fs k) (hv : visB N sc i x = true) : PE X (.Name x p) (tVar i) := by
  unfold visB at hv
  simp only [Bool.and_eq_true, decide_eq_true_eq, Bool.not_eq_true'] at hv
  obtain ⟨⟨⟨h1, hv⟩, hd⟩, hcd⟩ := hv
  exact pe_var (by rw [C.n]; exact h1) (by rw [C.s]; unfold Vis; split at hv <;> simp_all) hd hcd
/-- x.append(e) -/
theorem sv_app {l : List α} {oe : Option α} {kk : List α → Option (Out S B R)} {ap cp : Pos} (C : Ctx X N sc fs k) (hv : visB N sc i x = true) (hsl : slAt G i = .own (l.map enc)) (he : ED X G e oe) (hk : ∀ v : List α, SV X (G.set i (.own (v.map enc))) rest P PB own (kk v))
    (hfew : ((backTo cp (starEach [e] X.env)).all (fun x => !x.1) && (backToKw cp (keywordEach [] X.env)).all (fun x => x.1.isSome) && decide (([e] : List Expr).length + ([] : List Keyword).length + (if ([] : List Keyword).isEmpty then 0 else 1) < 30)) = true := by rfl) (hline : (ap.endLine == cp.line) = true := by rfl)
    (hs : starEach [e] X.env = (false, eval e X.env) :: starEach [] X.env := by rfl) : SV X G (.Expr (.Call (.Attribute (.Name x p) "append" ap) [e] [] cp) sp :: rest) P PB own ((oe.bind (appG l)).bind kk) := fun y hy => by
  obtain ⟨l', h1, h2⟩ := bind_get hy
  obtain ⟨v, h3, h4⟩ := bind_get h1
  obtain ⟨hc, h5⟩ := ite_get h4
  subst h5
  refine (pss_cons (ps_expr (pe_bm PySem.F.plainAttrs_list PySem.F.slot_list_append PySem.F.type_list_append mt_append (pe_name C hv) (pa_cons (he v h3) pa_nil hs) rfl hfew hline hs)) (hk _ y h2)).imp fun D σ H ⟨F, I, ps, Rr, q⟩ => ?_
  obtain ⟨a, xs, e1, e2, hH, d⟩ := own_slot Rr hsl
  refine ⟨_, e2, .inl ⟨rfl, _, .inl (.inl hH)⟩, F, I, ps, Rr, fun w H1 I1 g1 R1 d1 => ?_⟩
  obtain ⟨a', xs', f1, _, hH1, d'⟩ := own_slot R1 hsl
  rw [e1] at f1; cases f1
  refine ⟨a, xs', w, rfl, rfl, hH1, by rw [d'.len, List.length_map]; exact hc, tS_after (H := H) (ps := ps) (σ := σ) g1 (R1.wrOwn (es := (l ++ [v]).map enc) e1 ?_) q⟩
  rw [List.map_append]; exact d'.app (.cons d1 .nil)
/-- x[j] = e -/
def setG {α : Type} (l : List α) (i : Int) (x : α) : Option (List α) := (ixN l.length i).bind fun j => some (l.set j x)
theorem sv_sti {l : List α} {oe : Option α} {oi : Option Int} {kk : List α → Option (Out S B R)} {tp : Pos} (C : Ctx X N sc fs k) (hv : visB N sc i x = true) (hsl : slAt G i = .own (l.map enc)) (he : ED X G e oe) (hi : ED X G b oi) (hk : ∀ v : List α, SV X (G.set i (.own (v.map enc))) rest P PB own (kk v))
    (hs : swapsWithSole [.Subscript (.Name x p) b tp] e sp.line X.env = pure false := by rfl) (hw : swappedStores [.Subscript (.Name x p) b tp] e X.env = pure none := by rfl) (h1 : (assignEach [.Subscript (.Name x p) b tp] X.env).map (·.2) = [assign (.Subscript (.Name x p) b tp) X.env] := by rfl)
    (ha : ∀ v, assign (.Subscript (.Name x p) b tp) X.env v = (do
      let ov ← holding [v] (eval (.Name x p) X.env)
      let iv ← holding [v, ov] (eval b X.env)
      standAt tp
      holding [v, ov, iv] (setItem ov iv v)
      release [v, ov, iv] []) := by intro _; rfl) :
    SV X G (.Assign [.Subscript (.Name x p) b tp] e sp :: rest) P PB own ((bind2 (fun v j => setG l j v) oe oi).bind kk) := fun y hy => by
  obtain ⟨l', h2, h3⟩ := bind_get hy
  obtain ⟨v, j, h4, h5, h6⟩ := bind2_get h2
  obtain ⟨jj, h7, h8⟩ := bind_get h6
  cases h8
  refine (pss_cons (ps_asg (he v h4) (pg_sub (pe_name C hv) (hi j h5) set_list ha) hs hw h1) (hk _ y h3)).imp fun D σ H ⟨F, I, ps, Rr, q⟩ => ⟨F, I, ps, Rr, fun w H1 I1 g1 R1 d1 => ?_⟩
  obtain ⟨a, xs, e1, e2, hH, d⟩ := own_slot R1 hsl
  refine ⟨_, e2, F, I1, ps, R1, fun u H2 I2 g2 R2 d2 => ?_⟩
  cases d2
  obtain ⟨a', xs', f1, _, hH2, d'⟩ := own_slot R2 hsl
  rw [e1] at f1; cases f1
  refine ⟨a, xs', j, jj, rfl, rfl, hH2, by rw [d'.len, List.length_map]; exact h7, tS_after (H := H) (ps := ps) (σ := σ) (g1.trans g2) (R2.wrOwn (es := (l.set jj v).map enc) e1 ?_) q⟩
  rw [List.map_set]; exact d'.set jj (Dq_mono g2.same _ _ d1)
/-- x.extend(a new list) -/
theorem sv_ext {l : List α} {oe : Option (List α)} {kk : List α → Option (Out S B R)} {ap cp : Pos} (C : Ctx X N sc fs k) (hv : visB N sc i x = true) (hsl : slAt G i = .own (l.map enc)) (he : EO X G e oe) (hk : ∀ v : List α, SV X (G.set i (.own (v.map enc))) rest P PB own (kk v))
    (hfew : ((backTo cp (starEach [e] X.env)).all (fun x => !x.1) && (backToKw cp (keywordEach [] X.env)).all (fun x => x.1.isSome) && decide (([e] : List Expr).length + ([] : List Keyword).length + (if ([] : List Keyword).isEmpty then 0 else 1) < 30)) = true := by rfl) (hline : (ap.endLine == cp.line) = true := by rfl)
    (hs : starEach [e] X.env = (false, eval e X.env) :: starEach [] X.env := by rfl) : SV X G (.Expr (.Call (.Attribute (.Name x p) "extend" ap) [e] [] cp) sp :: rest) P PB own ((oe.bind (catG l)).bind kk) := fun y hy => by
  obtain ⟨l', h1, h2⟩ := bind_get hy
  obtain ⟨v, h3, h4⟩ := bind_get h1
  obtain ⟨hc, h5⟩ := ite_get h4
  subst h5
  refine (pss_cons (ps_expr (pe_bm PySem.F.plainAttrs_list PySem.F.slot_list_extend PySem.F.type_list_extend mt_extend (pe_name C hv) (pa_cons (he v h3) pa_nil hs) rfl hfew hline hs)) (hk _ y h2)).imp fun D σ H ⟨F, I, ps, Rr, q⟩ => ?_
  obtain ⟨a, xs, e1, e2, hH, d⟩ := own_slot Rr hsl
  refine ⟨_, e2, .inl ⟨rfl, _, .inl (.inl hH)⟩, F, I, ps, Rr, fun pa ys H1 I1 g1 R1 n1 n2 n3 hHp d1 => ?_⟩
  obtain ⟨a', xs', f1, _, hH1, d'⟩ := own_slot R1 hsl
  rw [e1] at f1; cases f1
  refine ⟨a, pa, xs', ys, rfl, rfl, hH1, hHp, by rw [d'.len, d1.len, List.length_map, List.length_map]; exact hc, tS_after (H := H) (ps := ps) (σ := σ) g1 (R1.wrOwn (es := (l ++ v).map enc) e1 ?_) q⟩
  rw [List.map_append]; exact d'.app d1
end
end Lay

set_option Elab.async false
set_option linter.all false
set_option maxRecDepth 100000
/-! Lay9: the script, a def's body as a promise, constants of the module, the law's end. -/
namespace Lay
open PySem PySem.Spec PyProof.Rows L2
open Lay.Enc (enc)

section
variable {X : Cx} {G : List Sl} {α β : Type} [Enc α] [Enc β] {a b e : Expr} {pos p : Pos} {N : List Str} {sc : Scope} {fs : Option Scope} {k i : Nat} {x : Str}
/-! ### a list that is only read (the script) -/
theorem rd_slot {K : PySem.W.Frag} {F H I : Hp} {σ : L2.St} {ps : Nat → Option Addr} (R : RS K F G σ H I ps) {ds : List PyData} (hs : slAt G i = .rd ds) : ∃ a xs, σ[i]? = some (some (.ref a)) ∧ SqL K I a xs ∧ DqAll I xs ds := by
  have hi : i < G.length := by
    by_cases c : i < G.length
    · exact c
    · rw [slAt_out (by omega)] at hs; cases hs
  obtain ⟨w, k1, k2⟩ := R.sl i hi
  rw [hs] at k2
  obtain ⟨e1, a, xs, e2, q, d⟩ := k2
  subst e2
  exact ⟨a, xs, k1, q, d⟩
theorem er_rd {l : List α} (C : Ctx X N sc fs k) (hv : visB N sc i x = true) (hs : slAt G i = .rd (l.map enc)) : ER X G (.Name x pos) (some l) := fun y hy => by
  cases hy
  refine (pe_name C hv).imp fun σ H Q ⟨F, I, ps, R, q⟩ => ?_
  obtain ⟨a, xs, e, s, d⟩ := rd_slot R hs
  exact ⟨_, e, q a xs H I Grow.refl R (Same.seq R.si s) d⟩
theorem ed_ixR {l : List α} {oi : Option Int} (C : Ctx X N sc fs k) (hv : visB N sc i x = true) (hsl : slAt G i = .rd (l.map enc)) (hb : ED X G b oi) (hs : PlainIx b := by intro _ _; rfl) :
    ED X G (.Subscript (.Name x p) b pos) (oi.bind fun j => atI l j) := fun z hz => by
  obtain ⟨j, h2, h3⟩ := bind_get hz
  refine (pe_ix ix_list (pe_name C hv) (hb j h2) hs).imp fun σ H Q ⟨F, I, ps, R, q⟩ => ?_
  obtain ⟨a, xs, e, s, d⟩ := rd_slot R hsl
  refine ⟨_, e, F, I, ps, R, fun w H1 I1 g1 R1 dw => ?_⟩
  cases dw
  obtain ⟨u, hu, du⟩ := d.atI (atI_map h3)
  exact ⟨_, _, j, u, rfl, rfl, Same.seq (g1.same.trans R1.si) s, hu, q u H1 I1 g1 R1 (Dq_mono g1.same _ _ du)⟩
/-- a def of the script alone -/
def spR (K : PySem.W.Frag) (own : Rq) {α ρ : Type} [Enc α] [Enc ρ] (m : List α → Option ρ) : Sp := fun vs H Q _ =>
  ∃ a xs l r I, vs = [.ref a] ∧ m l = some r ∧ Same I H ∧ SqL K I a xs ∧ DqAll I xs (l.map enc) ∧ ∀ v H' I', Same H H' → Grow H I I' → Same I' H' → RetR K own H I' H' v (enc r) → Q v H'
theorem ed_callR {β ρ : Type} [Enc β] [Enc ρ] {m : List β → Option ρ} {l : List β} {f : Str} {prm : List Str} {j : Nat} {p1 : Pos} (C : Ctx X N sc fs k) (c : Cal X.prog X.w X.K X.mg X.base CX0 j f prm (spR X.K .dd m)) (hj : j ≤ k) (hg : glbB sc f = true) (hv : visB N sc i x = true) (hsl : slAt G i = .rd (l.map enc))
    (he : starEach [.Name x p1] X.env = (false, eval (.Name x p1) X.env) :: starEach [] X.env := by rfl) : ED X G (.Call (.Name f p) [.Name x p1] [] pos) (m l) := fun r hr => by
  refine (pe_callG (c.up hj) C.gd C.rm C.s hg (pass0 (X := X)) (pa_cons (pe_name C hv) pa_nil he) he rfl).imp fun σ H Q ⟨F, I, ps, R, q⟩ => ?_
  obtain ⟨a, xs, e, s, d⟩ := rd_slot R hsl
  refine ⟨_, e, a, xs, l, r, I, rfl, hr, R.si, s, d, fun v H' I' s' g' si rr => ?_⟩
  obtain ⟨g2, R2⟩ := R.called s' g' si
  exact q v H' I' g2 R2 rr
/-! ### a constant of the module -/
theorem ed_glb {n : Int} (C : Ctx X N sc fs k) (hg : glbB sc x = true) (h : ∃ t, X.mg x = some (.int n t)) : ED X G (.Name x pos) (some n) := fun y hy => by
  cases hy
  obtain ⟨t, ht⟩ := h
  obtain ⟨gl, db⟩ := glbB_gl C.s hg
  exact (pe_glob gl ht (v := .int n) ⟨t, rfl⟩ db).imp (tC_ed fun _ => .int _)
end

/-! ### a, b = x, y (plain local names) -/
section
variable {X : Cx} {G : List Sl} {S B R : Type} [Enc R] {P : S → List Sl} {PB : B → List Sl} {own : Rk} {rest : List Stmt} {N : List Str} {sc : Scope} {fs : Option Scope} {k i j : Nat} {x y : Str} {α β : Type} [Enc α] [Enc β] {a b : Expr} {px py pt pt2 sp : Pos} {kt k2 : Nat}
def lclB (N : List Str) (sc : Scope) (i : Nat) (x : Str) : Bool := decide (N[i]? = some x) && (match sc.names.lookup x with | some .local => true | _ => false)
theorem lclB_ok (C : Ctx X N sc fs k) (h : lclB N sc i x = true) : X.N[i]? = some x ∧ X.env.scope.names.lookup x = some .local := by
  unfold lclB at h
  simp only [Bool.and_eq_true, decide_eq_true_eq] at h
  rw [C.n, C.s]
  refine ⟨h.1, ?_⟩
  have h2 := h.2
  split at h2
  · assumption
  · cases h2
theorem sv_par {oa : Option α} {ob : Option β} {kk : α → β → Option (Out S B R)} (C : Ctx X N sc fs k) (h1 : lclB N sc i x = true) (h2 : lclB N sc j y = true) (hij : i ≠ j) (hne : (x == y) = false) (hl : (px.line == py.line) = true) (ha : ED X G a oa) (hb : ED X G b ob)
    (hk : ∀ v w, SV X ((G.set i (.dat (enc v))).set j (.dat (enc w))) rest P PB own (kk v w)) (hf : ([a, b].any fun | .Starred .. => true | _ => false) = false := by rfl) (hc : ([a, b].all (foldedForSure 8)) = false := by rfl) (hc2 : ([a, b].all (constantsAlone 8)) = false := by rfl)
    (s1 : starEach [a, b] X.env = (false, eval a X.env) :: starEach [b] X.env := by rfl) (s2 : starEach [b] X.env = (false, eval b X.env) :: starEach [] X.env := by rfl)
    (hsw : swapsWithSole [.Tuple [.Name x px, .Name y py] kt pt] (.Tuple [a, b] k2 pt2) sp.line X.env = pure false := by rfl) :
    SV X G (.Assign [.Tuple [.Name x px, .Name y py] kt pt] (.Tuple [a, b] k2 pt2) sp :: rest) P PB own (oa.bind fun v => ob.bind fun w => kk v w) := fun z hz => by
  obtain ⟨v, e1, hz⟩ := bind_get hz
  obtain ⟨w, e2, hz⟩ := bind_get hz
  obtain ⟨i1, i2⟩ := lclB_ok C h1
  obtain ⟨j1, j2⟩ := lclB_ok C h2
  have hw : swappedStores [.Tuple [.Name x px, .Name y py] kt pt] (.Tuple [a, b] k2 pt2) X.env = pure (some [x, y]) := by
    have kx : X.env.kindOf x = some .local := i2
    have ky : X.env.kindOf y = some .local := j2
    have bk : X.env.blockKind = .function := by unfold Env.blockKind; rw [C.s, C.fk]; rfl
    unfold swappedStores
    have l2 : (py.line == px.line) = true := by rw [beq_iff_eq] at hl ⊢; exact hl.symm
    simp only [List.length_cons, List.length_nil, bk, hf, hc, hc2, List.head?_cons, Option.map_some, Expr.pos, Option.getD_some, List.filterMap_cons, kx, ky, l2, List.filterMap_nil]
    rw [if_neg (by decide), if_neg (by rw [Bool.not_eq_true]; exact hf)]
    have e1 : (some NameKind.local == some NameKind.local) = true := by decide
    have e3 : (y == x) = false := by rw [beq_eq_false_iff_ne] at hne ⊢; exact fun c => hne c.symm
    simp [e1, List.eraseDups, List.eraseDupsBy, List.eraseDupsBy.loop, e3, hne]
  refine (pss_cons (ps_par C.calm (by rw [C.n]; exact C.nd) i1 j1 hij i2 j2 (pa_cons (ha v e1) (pa_cons (hb w e2) pa_nil s2) s1) hw hsw) (hk v w z hz)).imp fun D σ H ⟨F, I, ps, Rr, q⟩ => ?_
  refine ⟨F, I, ps, Rr, fun v1 H1 I1 g1 R1 d1 => ⟨F, I1, ps, R1, fun w1 H2 I2 g2 R2 d2 => ⟨_, _, rfl, ?_⟩⟩⟩
  exact tS_after (H := H) (ps := ps) (σ := σ) (g1.trans g2) ((R2.setDat (Dq_mono g2.same _ _ d1)).setDat d2) q
end

/-! ### a def's body kept as a promise -/
def finO {R : Type} (d : Option R) (o : Option (Out Unit Unit R)) : Option R := o.bind fun x => match x with
  | .nx _ => d
  | .rt r => some r
  | _ => none
@[simp] theorem finO_nx {R : Type} (d : Option R) : finO d (some (.nx ())) = d := rfl
@[simp] theorem finO_rt {R : Type} (d : Option R) (r : R) : finO d (some (.rt r)) = some r := rfl
@[simp] theorem finO_none {R : Type} (d : Option R) : finO d none = none := rfl
theorem slAt_get : ∀ {G : List Sl} {i : Nat} {s : Sl}, G[i]? = some s → slAt G i = s
  | [], _, _, h => by simp at h
  | s :: r, 0, _, h => Option.some.inj h
  | s :: r, i + 1, _, h => slAt_get (G := r) (i := i) h
theorem slAt_rep : ∀ n i, slAt (List.replicate n Sl.un) i = .un
  | 0, _ => rfl
  | n + 1, 0 => rfl
  | n + 1, i + 1 => slAt_rep n i
theorem wkR_all {G : List Sl} {n : Nat} (h : G.length = n) : WkR G (List.replicate n .un) := fun K F σ H I ps R => by
  subst h
  have at_ : ∀ n i, slAt (List.replicate n Sl.un) i = .un := slAt_rep
  refine ⟨I, fun _ => none, Grow.refl, ⟨R.si, R.sf, fun i a h => (nomatch h), by rw [List.length_replicate]; exact R.len, fun i hi => ?_, fun _ _ => rfl, fun i j a h => (nomatch h)⟩⟩
  rw [List.length_replicate] at hi
  obtain ⟨v, h1, h2⟩ := R.sl i hi
  refine ⟨v, h1, ?_⟩
  rw [at_]
  rfl
def dats (n : Nat) (ds : List PyData) : List Sl := ds.map .dat ++ List.replicate (n - ds.length) .un
def tBody (K : PySem.W.Frag) (G : List Sl) (own : Rq) (r : PyData) : TS := fun D σ H =>
  ∃ F I ps, RS K F G σ H I ps ∧ ∀ v H' I', Grow F I I' → Same F H' → Same I' H' → RetR K own F I' H' v r → (v = .non → ∀ σ', D.nx σ' H') ∧ D.rt v H'
theorem body_of {X : Cx} {G : List Sl} {R : Type} [Enc R] {P : Unit → List Sl} {PB : Unit → List Sl} {own : Rq} {body : List Stmt} {d : Option R} {o : Option (Out Unit Unit R)} {r : R} (h : SV X G body P PB ⟨own, false⟩ o) (hr : finO d o = some r) (hd : ∀ x, d = some x → own = .dd ∧ enc x = .none) :
    PSs X body (tBody X.K G own (enc r)) := by
  obtain ⟨x, h1, h2⟩ := bind_get hr
  refine (h x h1).imp fun D σ H ⟨F, I, ps, Rr, q⟩ => ⟨F, I, ps, Rr, ?_⟩
  cases x with
  | nx s =>
    have h2 : d = some r := h2
    obtain ⟨e1, e2⟩ := hd r h2
    subst e1
    exact fun σ' H' I' ps' g R' => (q .non H' I' g R'.sf R'.si (by rw [e2]; exact Dq.non)).1 rfl σ'
  | rt s =>
    have e : s = r := Option.some.inj h2
    subst e
    exact fun v H' I' g s1 s2 rr => (q v H' I' g s1 s2 rr).2
  | bk s => cases h2
  | ct s => cases h2
section
variable {P : Program} {w : World} {K : PySem.W.Frag} {mg : Str → Option Value} {base : Heap} {x : Str} {st : Stmt} {f : Addr} {fd : FuncData} {N prm : List Str} {k : Nat} {own : Rq}
theorem start_rs {n : Nat} {vs : List V} {ds : List PyData} {H I : Hp} (hN : N.length = n) (hl : ds.length ≤ n) (hi : Same I H) (d : DqAll I vs ds) : RS K H (dats n ds) (start N vs) H I (fun _ => none) := by
  subst hN
  have ln := d.len
  refine ⟨hi, Same.refl _, fun i a h => (nomatch h), ?_, fun i h => ?_, fun _ _ => rfl, fun i j a h => (nomatch h)⟩
  · unfold dats L2.start
    simp only [List.length_append, List.length_map, List.length_replicate]; omega
  · unfold dats L2.start
    by_cases c : i < ds.length
    · have c2 : i < vs.length := by omega
      refine ⟨some vs[i], ?_, ?_⟩
      · rw [List.getElem?_append_left (by rw [List.length_map]; exact c2), List.getElem?_map, List.getElem?_eq_getElem c2]; rfl
      · have e : slAt (ds.map Sl.dat ++ List.replicate (N.length - ds.length) .un) i = .dat ds[i] := slAt_get (by
          rw [List.getElem?_append_left (by rw [List.length_map]; exact c), List.getElem?_map, List.getElem?_eq_getElem c]; rfl)
        rw [e]
        obtain ⟨v, hv, hd⟩ := d.at (List.getElem?_eq_getElem c)
        rw [List.getElem?_eq_getElem c2] at hv
        cases hv
        exact ⟨rfl, _, rfl, hd⟩
    · have h2 : i < N.length := by
        unfold dats at h
        simp only [List.length_append, List.length_map, List.length_replicate] at h; omega
      refine ⟨none, ?_, ?_⟩
      · rw [List.getElem?_append_right (by rw [List.length_map]; omega), List.length_map, List.getElem?_replicate, if_pos (by omega)]
      · have e : slAt (ds.map Sl.dat ++ List.replicate (N.length - ds.length) .un) i = .un := slAt_get (by
          rw [List.getElem?_append_right (by rw [List.length_map]; omega), List.length_map, List.getElem?_replicate, if_pos (by omega)])
        rw [e]; rfl
theorem ctx_of {qual : Str} {sc : Scope} {f : Addr} {cd : Value} {A : Around} {out : List Env} {s : Shared} {H : Hp} {E : XK} (S : FnScope N prm sc) (gd : A.guards = some []) (rm : Room k (A.deeper (envOfC qual sc s.heap.objs.size f cd))) : Ctx (cxOf CX0 P w K mg base N qual sc f cd A out s H E) N sc none k :=
  ⟨rfl, rfl, S.kind, rfl, S.nd, gd, rm, PassesOwn.leaving, rfl⟩
/-- what a body's text must give, in any context of the def -/
abbrev AnyX (P : Program) (w : World) (K : PySem.W.Frag) (mg : Str → Option Value) (base : Heap) (N : List Str) (sc : Scope) (k : Nat) (g : Cx → Prop) : Prop :=
  ∀ X : Cx, X.prog = P → X.w = w → X.K = K → X.mg = mg → X.base = base → Ctx X N sc none k → g X
theorem ok_def {g : List PyData → PyData → Prop} {qual : Str} (F : Fun K x qual st f fd) (S : FnScope N prm (defScope st)) (ar : ∀ ds r, g ds r → ds.length = prm.length) (n : Nat) (hN : N.length = n) (hp : prm.length ≤ n)
    (body : AnyX P w K mg base N (defScope st) k fun X => ∀ ds r, g ds r → PSs X (defBody st) (tBody X.K (dats n ds) own r)) : FnG P w K mg base CX0 (k + 1) f fd prm (spD K own g) := by
  refine fnG F S (fun vs H Q E ⟨ds, r, I, h1, _, h2, _⟩ => by rw [← ar ds r h1]; exact h2.len) fun cd A out s H vs Q E gd rm ⟨ds, r, I, h1, hi, h2, q⟩ => ?_
  refine ⟨_, body _ rfl rfl rfl rfl rfl (ctx_of S gd rm) ds r h1, H, I, _, start_rs hN (by rw [ar ds r h1]; exact hp) hi h2, fun v H' I' g s1 s2 rr => ⟨fun e σ' => ?_, q v H' I' s1 g s2 rr⟩⟩
  subst e
  exact q .non H' I' s1 g s2 rr
theorem ok_rd {α ρ : Type} [Enc α] [Enc ρ] {m : List α → Option ρ} {qual : Str} {y : Str} (F : Fun K x qual st f fd) (S : FnScope N [y] (defScope st)) (n : Nat) (hN : N.length = n) (hp : 1 ≤ n)
    (body : AnyX P w K mg base N (defScope st) k fun X => ∀ l r, m l = some r → PSs X (defBody st) (tBody X.K (.rd (l.map enc) :: List.replicate (n - 1) .un) own (enc r))) : FnG P w K mg base CX0 (k + 1) f fd [y] (spR K own m) := by
  refine fnG F S (fun vs H Q E ⟨a, xs, l, r, I, h1, _⟩ => by rw [h1]; rfl) fun cd A out s H vs Q E gd rm ⟨a, xs, l, r, I, h1, hr, hi, hs, hd, q⟩ => ?_
  subst h1
  have R0 : RS K H (.rd (l.map enc) :: List.replicate (n - 1) .un) (start N [.ref a]) H I (fun _ => none) := by
    have R1 := start_rs (K := K) (N := N) (n := n) (H := H) (I := I) (vs := [.int 0]) (ds := [.int 0]) hN hp hi (.cons (.int 0) .nil)
    refine ⟨R1.si, R1.sf, R1.fo, ?_, fun i h => ?_, fun _ _ => rfl, R1.dis⟩
    · exact R1.len
    · cases i with
      | zero => exact ⟨_, rfl, rfl, a, xs, rfl, hs, hd⟩
      | succ i => exact R1.sl (i + 1) h
  refine ⟨_, body _ rfl rfl rfl rfl rfl (ctx_of S gd rm) l r hr, H, I, _, R0, fun v H' I' g s1 s2 rr => ⟨fun e σ' => ?_, q v H' I' s1 g s2 rr⟩⟩
  subst e
  exact q .non H' I' s1 g s2 rr
theorem cal_of {f : Addr} {qual : Str} {sp : Sp} (G : FnG P w K mg base CX0 k f fd prm sp) (F : Fun K x qual st f fd) (hm : mg x = some (.ref f)) (b : Binds K fd prm []) : Cal P w K mg base CX0 k x prm sp := ⟨f, fd, G, hm, F.kp, b⟩
theorem dq_ints {H : Hp} : ∀ ns : List Int, DqAll H (ns.map V.int) (ns.map enc)
  | [] => .nil
  | n :: r => .cons (.int n) (dq_ints r)
theorem law_sp {m : List Int → Option Bool} {n : Nat} (h : ∀ ns : List Int, ns.length ≤ n → m ns = some true) (K : PySem.W.Frag) (H : Hp) (a : Addr) (ns : List Int) (hl : ns.length ≤ n) (_ : Only H) (hS : SqL K H a (ns.map V.int)) : spR K .dd m [.ref a] H (fun v _ => v = .bl true) fun _ _ _ => False :=
  ⟨a, _, ns, true, H, rfl, h ns hl, Same.refl _, hS, dq_ints ns, fun v H' I' _ _ _ rr => by cases rr; rfl⟩
end
end Lay

set_option Elab.async false
set_option linter.all false
set_option maxRecDepth 100000
/-! LayA: own lists lent to an expression with a flat answer; sorted of any data. -/
namespace Lay
open PySem PySem.Spec PyProof.Rows L2
open Lay.Enc (enc)
def frzAll (G : List Sl) : List Sl := G.map frzS
theorem slAt_map : ∀ {G : List Sl} {i : Nat}, slAt (G.map frzS) i = frzS (slAt G i)
  | [], _ => rfl
  | _ :: _, 0 => rfl
  | _ :: r, i + 1 => slAt_map (G := r) (i := i)
class Flat (α : Type) [Enc α] : Prop where
  fl : ∀ (x : α) (H H' : Hp) (v : V), Dq H v (enc x) → Dq H' v (enc x)
instance : Flat Int := ⟨fun x H H' v d => by cases d; exact .int _⟩
instance : Flat Bool := ⟨fun x H H' v d => by cases d; exact .bl _⟩
instance : Flat Str := ⟨fun x H H' v d => by cases d; exact .str _⟩
instance : Flat Unit := ⟨fun x H H' v d => by cases d; exact .non⟩
instance {α : Type} [Enc α] [S : Flat α] : Flat (Option α) := ⟨fun x H H' v d => by
  cases x with
  | none => cases d; exact .non
  | some x => exact S.fl x H H' v d⟩
theorem flatAll {α : Type} [Enc α] [S : Flat α] {H H' : Hp} : ∀ {xs : List V} {l : List α}, DqAll H xs (l.map enc) → DqAll H' xs (l.map enc)
  | [], [], _ => .nil
  | _ :: _, _ :: _, .cons d r => .cons (S.fl _ _ _ _ d) (flatAll r)
open Classical in
theorem lend_rs {K : PySem.W.Frag} {F H I : Hp} {G : List Sl} {σ : L2.St} {ps : Nat → Option Addr} (R : RS K F G σ H I ps) : ∃ I2, Grow F I I2 ∧ RS K F (frzAll G) σ H I2 (fun _ => none) ∧ (∀ i a, ps i = some a → I2 a ≠ none) ∧
    ∀ H' I', Same I2 I' → RS K F (frzAll G) σ H' I' (fun _ => none) → RS K F G σ H' I ps := by
  let I2 : Hp := fun a => if ∃ i, ps i = some a then H a else I a
  have own : ∀ {i a}, ps i = some a → I2 a = H a := fun {i a} h => if_pos ⟨i, h⟩
  have s1 : Same I I2 := fun b u e => by
    by_cases c : ∃ i, ps i = some b
    · obtain ⟨i, h⟩ := c
      rw [(R.own_at h).1] at e; cases e
    · show (if _ then _ else _) = _
      rw [if_neg c]; exact e
  have s2 : Same I2 H := fun b u e => by
    by_cases c : ∃ i, ps i = some b
    · obtain ⟨i, h⟩ := c
      rw [own h] at e; exact e
    · have e2 : (if ∃ i, ps i = some b then H b else I b) = some u := e
      rw [if_neg c] at e2; exact R.si _ _ e2
  refine ⟨I2, ⟨s1, fun a h => ?_⟩, ⟨s2, R.sf, fun i a h => (nomatch h), by unfold frzAll; rw [List.length_map]; exact R.len, fun i hi => ?_, fun _ _ => rfl, fun i j a h => (nomatch h)⟩, fun i a h => ?_, fun H' I' s3 R' => ⟨(s1.trans s3).trans R'.si, R'.sf, R.fo, R.len, fun i hi => ?_, R.out, R.dis⟩⟩
  · by_cases c : ∃ i, ps i = some a
    · obtain ⟨i, hh⟩ := c; exact .inr (R.fo _ _ hh)
    · have e2 : I2 a = I a := if_neg c
      rw [e2] at h; exact .inl h
  · unfold frzAll at hi
    rw [List.length_map] at hi
    obtain ⟨v, k1, k2⟩ := R.sl i hi
    refine ⟨v, k1, ?_⟩
    unfold frzAll
    rw [slAt_map]
    cases e : slAt G i with
    | un => rfl
    | dat d => rw [e] at k2; obtain ⟨_, x, h1, h2⟩ := k2; exact ⟨rfl, x, h1, Dq_mono s1 _ _ h2⟩
    | rd ds => rw [e] at k2; obtain ⟨_, a, xs, h1, h2, h3⟩ := k2; exact ⟨rfl, a, xs, h1, Same.seq s1 h2, DqAll_mono s1 _ _ h3⟩
    | old d => rw [e] at k2; obtain ⟨_, x, h1, h2⟩ := k2; exact ⟨rfl, x, h1, Dq_mono (rgO_mono s1) _ _ h2⟩
    | nw d => rw [e] at k2; obtain ⟨_, x, h1, h2⟩ := k2; exact ⟨rfl, x, h1, Dq_mono (rgN_mono s1) _ _ h2⟩
    | own ds =>
      rw [e] at k2
      obtain ⟨a, xs, h1, h2, h3, h4, h5⟩ := k2
      exact ⟨rfl, _, h2, .lst (.inl ((own h1).trans h4)) (DqAll_mono s1 _ _ h5)⟩
  · obtain ⟨_, _, xs, e⟩ := R.own_at h
    rw [own h, e]; simp
  · obtain ⟨v, k1, k2⟩ := R.sl i hi
    refine ⟨v, k1, ?_⟩
    cases e : slAt G i with
    | un => rw [e] at k2; exact k2
    | dat d => rw [e] at k2; exact k2
    | rd ds => rw [e] at k2; exact k2
    | old ds => rw [e] at k2; exact k2
    | nw ds => rw [e] at k2; exact k2
    | own ds =>
      rw [e] at k2
      obtain ⟨a, xs, h1, h2, h3, h4, h5⟩ := k2
      exact ⟨a, xs, h1, h2, h3, R'.si _ _ (s3 _ _ ((own h1).trans h4)), h5⟩
section
variable {X : Cx} {G : List Sl} {α : Type} [Enc α] {e : Expr}
theorem ed_lend [S : Flat α] {o : Option α} (h : ED X (frzAll G) e o) : ED X G e o := fun x hx => (h x hx).imp fun σ H Q ⟨F, I, ps, R, q⟩ => by
  obtain ⟨I2, g, R2, _, back⟩ := lend_rs R
  exact ⟨F, I2, _, R2, fun v H' I' g' R' d => q v H' I Grow.refl (back H' I' g'.same R') (S.fl x _ _ _ d)⟩
theorem eb_lend {o : Option Bool} (h : EB X (frzAll G) e o) : EB X G e o := fun x hx => (h x hx).imp fun σ H Q ⟨F, I, ps, R, q⟩ => by
  obtain ⟨I2, g, R2, _, back⟩ := lend_rs R
  exact ⟨F, I2, _, R2, fun H' I' g' R' => q H' I Grow.refl (back H' I' g'.same R')⟩
theorem tO_lend [S : Flat α] {K : PySem.W.Frag} {l : List α} {σ : L2.St} {H : Hp} {Q : VK} (h : tO K G (l.map enc) σ H Q) : tO K (frzAll G) (l.map enc) σ H Q := by
  obtain ⟨F, I, ps, R, q⟩ := h
  obtain ⟨I2, g, R2, n2, back⟩ := lend_rs R
  refine ⟨F, I2, _, R2, fun p xs H' I' g' R' n hF hp hH d => q p xs H' I Grow.refl (back H' I' g'.same R') (g.same.free (g'.same.free n)) hF (fun i z => n2 i p z (g'.same.free n)) hH (flatAll d)⟩
theorem eo_lend [S : Flat α] {o : Option (List α)} (h : EO X (frzAll G) e o) : EO X G e o := fun x hx => (h x hx).imp fun σ H Q t => tO_lend t
theorem lc_lend [S : Flat α] {o : Option (List α)} (h : LC X (frzAll G) e o) : LC X G e o := fun l hl => by
  obtain ⟨t, h1, h2, h3⟩ := h l hl
  exact ⟨t, h1, h2, fun σ H Q w => h3 σ H Q (tO_lend w)⟩
end
/-! ### sorted of any data -/
/-- what sorted may be asked: items of one kind; tuples with an item -/
class SortT (α : Type) [Enc α] where
  ok : List α → Bool
  one : ∀ x y : α, PySem.W.alike (enc x) (enc y) = true
  srt : ∀ l, ok l = true → PySem.W.Sortable (l.map (enc : α → PyData))
theorem alikeAll_of {α : Type} [Enc α] (h : ∀ x y : α, PySem.W.alike (enc x) (enc y) = true) : ∀ l m : List α, PySem.W.alikeAll (l.map enc) (m.map enc) = true
  | [], _ => by simp [PySem.W.alikeAll]
  | _ :: _, [] => by simp [PySem.W.alikeAll]
  | x :: xs, y :: ys => by
    show PySem.W.alikeAll (enc x :: xs.map enc) (enc y :: ys.map enc) = true
    rw [PySem.W.alikeAll, alikeAll_of h xs ys, h x y]; rfl
instance : SortT Int := ⟨fun _ => true, fun x y => by simp [enc, PySem.W.alike], fun l _ => PySem.W.Sortable.others fun b => ⟨(nomatch ·), fun _ => (nomatch ·)⟩⟩
instance : SortT Bool := ⟨fun _ => true, fun x y => by simp [enc, PySem.W.alike], fun l _ => PySem.W.Sortable.others fun b => ⟨(nomatch ·), fun _ => (nomatch ·)⟩⟩
instance {α : Type} [Enc α] [S : SortT α] : SortT (List α) := ⟨fun _ => true, fun x y => by
  show PySem.W.alike (.list (x.map enc)) (.list (y.map enc)) = true
  rw [PySem.W.alike]; exact alikeAll_of S.one x y, fun l _ => PySem.W.Sortable.others fun b => ⟨(nomatch ·), fun _ => (nomatch ·)⟩⟩
instance {α : Type} [Enc α] [S : SortT α] : SortT (Tup α) := ⟨fun l => l.all fun t => !t.l.isEmpty, fun x y => by
  show PySem.W.alike (.tuple (x.l.map enc)) (.tuple (y.l.map enc)) = true
  rw [PySem.W.alike]; exact alikeAll_of S.one x.l y.l, fun l h => .inl fun d hd => by
    obtain ⟨t, ht, rfl⟩ := List.mem_map.mp hd
    have q := List.all_eq_true.mp h t ht
    cases e : t.l with
    | nil => rw [e] at q; cases q
    | cons x r => exact ⟨enc x, r.map enc, by show PyData.tuple (t.l.map enc) = _; rw [e]; rfl⟩⟩
instance {α β : Type} [Enc α] [Enc β] [S : SortT α] [T : SortT β] : SortT (T2 α β) := ⟨fun _ => true, fun x y => by
  show PySem.W.alike (.tuple [enc x.a, enc x.b]) (.tuple [enc y.a, enc y.b]) = true
  rw [PySem.W.alike, PySem.W.alikeAll, PySem.W.alikeAll, PySem.W.alikeAll, S.one, T.one]; rfl, fun l _ => PySem.W.Sortable.tuples fun b => ⟨_, _, rfl⟩⟩
instance {α β γ : Type} [Enc α] [Enc β] [Enc γ] [S : SortT α] [T : SortT β] [U : SortT γ] : SortT (T3 α β γ) := ⟨fun _ => true, fun x y => by
  show PySem.W.alike (.tuple [enc x.a, enc x.b, enc x.c]) (.tuple [enc y.a, enc y.b, enc y.c]) = true
  rw [PySem.W.alike, PySem.W.alikeAll, PySem.W.alikeAll, PySem.W.alikeAll, PySem.W.alikeAll, S.one, T.one, U.one]; rfl, fun l _ => PySem.W.Sortable.tuples fun b => ⟨_, _, rfl⟩⟩
def leD {α : Type} [Enc α] : α → α → Bool := PySem.W.dataLe false (enc : α → PyData)
def sortD {α : Type} [Enc α] [S : SortT α] (l : List α) : Option (List α) := if S.ok l = true ∧ l.length ≤ sizeLine then some (l.mergeSort leD) else none
def rSortedD (α : Type) [Enc α] [S : SortT α] (K : PySem.W.Frag) : List V → Hp → VK → Prop := fun vs H Q => ∃ (a : Addr) (xs : List V) (l : List α), vs = [.ref a] ∧ SqL K H a xs ∧ DpAll K H xs (l.map enc) ∧ S.ok l = true ∧ l.length ≤ sizeLine ∧
  ∀ (zs : List (V × α)) (p : Addr), zs.Perm (xs.zip l) → zs.map Prod.snd = l.mergeSort leD → H p = none → Q (.ref p) (upd H p (.lst (zs.map Prod.fst)))
section
variable {X : Cx} {α : Type} [Enc α] [S : SortT α] [T : Sh α]
theorem each_vals : ∀ {zs : List (V × α)} {us : List Value}, PySem.W.EachIs (fun u (z : V × α) => RelV z.1 u) us zs → Vals (zs.map Prod.fst) us
  | [], _, h => by cases h; exact .nil
  | z :: zs, _, h => by
    cases h with
    | cons h1 h2 => exact .cons h1 (each_vals h2)
theorem vals_each : ∀ {xs : List V} {l : List α} {us : List Value}, xs.length = l.length → Vals xs us → PySem.W.EachIs (fun u (z : V × α) => RelV z.1 u) us (xs.zip l)
  | [], [], _, _, h => by cases h; exact .nil
  | x :: xs, y :: l, _, e, h => by
    cases h with
    | cons h1 h2 => exact .cons h1 (vals_each (by simpa using e) h2)
theorem dpAll_len {K : PySem.W.Frag} {H : Hp} : ∀ {xs : List V} {ds : List PyData}, DpAll K H xs ds → xs.length = ds.length
  | _, _, .nil => rfl
  | _, _, .cons _ h => by simp [dpAll_len h]
theorem cr_sortedD (hu : X.A.units + 64 < cLine) (hd : T.dp ≤ 60) : CallR X (.builtin "sorted") (rSortedD α X.K) := by
  intro pins s σ H vs us Q I r h
  obtain ⟨a, xs, l, rfl, hs, hdp, hok, hL, q⟩ := h
  obtain ⟨its, rv, hl, hz⟩ := I.list hs
  rw [Vals.ref1 r]
  have el : xs.length = l.length := by rw [dpAll_len hdp, List.length_map]
  obtain ⟨as, rd⟩ := Dp.readsAll I _ _ _ hdp rv
  have e2 : (xs.zip l).map (fun z => (enc z.2 : PyData)) = l.map enc := by
    rw [show (fun z : V × α => (enc z.2 : PyData)) = enc ∘ Prod.snd from rfl, ← List.map_map, List.map_snd_zip (Nat.le_of_eq el.symm)]
  have lz : (xs.zip l).length = l.length := by rw [List.length_zip]; omega
  refine PySem.W.sorted_data (bs := xs.zip l) (enc := fun z => enc z.2) (R := fun u z => RelV z.1 u) hl.isList (vals_each el rv) (PySem.W.readsAll_each _ (by rw [e2]; exact rd)) (by
      rw [e2]; exact PySem.W.AllAlike.of S.one) (by rw [e2]; exact S.srt l hok) (by rw [lz]; exact hL) (fun b _ => ?_) fun out h1 h2 => ?_
  · have := T.dep b.2
    omega
  · have pm := List.mergeSort_perm (xs.zip l) (PySem.W.dataLe false fun z : V × α => (enc z.2 : PyData))
    have sn : ((xs.zip l).mergeSort (PySem.W.dataLe false fun z : V × α => (enc z.2 : PyData))).map Prod.snd = l.mergeSort leD := by
      have q := PySem.W.sort_maps (r := PySem.W.dataLe false fun z : V × α => (enc z.2 : PyData)) (s := leD) Prod.snd (l := xs.zip l) (fun a _ b _ => rfl)
      rw [List.map_snd_zip (Nat.le_of_eq el.symm)] at q
      exact q
    obtain ⟨ep, he'⟩ := PyProof.Rows.sortedAll_at s.heap its out.toArray
    have hlen : (((xs.zip l).mergeSort (PySem.W.dataLe false fun z : V × α => (enc z.2 : PyData))).map Prod.fst).length ≤ sizeLine := by
      rw [List.length_map, pm.length_eq, lz]; exact hL
    exact ⟨.ref _, upd H (s.heap.objs.size + 1) (.lst _), I.laid (t' := s.toks) (fun _ _ => PyProof.Rows.sortedAll_old) (Nat.le_succ _) ⟨hlen, out, ep, each_vals h2, he'⟩, rfl, q _ _ pm sn (I.hok.fresh (Nat.le_succ _))⟩
end
section
variable {X : Cx} {G : List Sl} {α : Type} [Enc α] [S : SortT α] [T : Sh α] {e : Expr} {pos p : Pos} {N : List Str} {sc : Scope} {fs : Option Scope} {k : Nat}
theorem dq_zip {I : Hp} : ∀ {xs : List V} {l : List α}, DqAll I xs (l.map enc) → ∀ z ∈ xs.zip l, Dq I z.1 (enc z.2)
  | [], [], _, z, h => by simp at h
  | x :: xs, y :: l, .cons d r, z, h => by
    rw [List.zip_cons_cons, List.mem_cons] at h
    rcases h with h | h
    · subst h; exact d
    · exact dq_zip r z h
theorem dq_of {I : Hp} : ∀ {zs : List (V × α)}, (∀ z ∈ zs, Dq I z.1 (enc z.2)) → DqAll I (zs.map Prod.fst) ((zs.map Prod.snd).map enc)
  | [], _ => .nil
  | z :: zs, h => .cons (h z (by simp)) (dq_of fun y hy => h y (by simp [hy]))
theorem eo_sortedD {ol : Option (List α)} (C : Ctx X N sc fs k) (hg : glbB sc "sorted" = true) (hm : X.mg "sorted" = none) (h : ER X G e ol) (hs : starEach [e] X.env = (false, eval e X.env) :: starEach [] X.env := by rfl) (hd : T.dp ≤ 60 := by decide) : EO X G (.Call (.Name "sorted" p) [e] [] pos) (ol.bind sortD) := fun z hz => by
  obtain ⟨l, h1, h2⟩ := bind_get hz
  obtain ⟨⟨hok, hL⟩, e1⟩ := ite_get h2
  refine (b1 (id := "sorted") C hg hm (by decide +kernel) (cr_sortedD (α := α) C.rm.units hd) (h l h1) (by decide) hs).imp (tR_bO fun F G σ H I ps ad xs Q R s d q => ?_)
  refine ⟨ad, xs, l, rfl, s, DqAll_dp _ _ (DqAll_mono R.si _ _ d), hok, hL, fun zs p hp hs hn => ?_⟩
  have dz := dq_of (fun z hz => dq_zip d z (hp.mem_iff.mp hz))
  rw [hs, e1] at dz
  exact q p _ hn dz
end
end Lay

set_option Elab.async false
set_option linter.all false
set_option maxRecDepth 100000
/-! LayM: plain facts of the mirrors' words. -/
namespace Lay
open PySem PySem.Spec PyProof.Rows L2
open Lay.Enc (enc)
@[simp] theorem lift1_none {α β : Type} (f : α → β) : lift1 f none = none := rfl
theorem sizeLine_val : sizeLine = 16777216 := by decide
/-! ### guards -/
theorem log2_lt64 {n : Nat} (h : n < 2 ^ 64) : n.log2 < 64 := by
  by_cases e : n = 0
  · subst e; decide
  · exact (Nat.log2_lt e).mpr h
theorem mulG_of {i j : Int} (hi : i.natAbs < 2 ^ 64) (hj : j.natAbs < 2 ^ 64) : mulG i j = some (i * j) := by
  have h1 := log2_lt64 hi
  have h2 := log2_lt64 hj
  exact if_pos (by omega)
theorem divG_of {i j : Int} (h : 0 < j) (h2 : j.natAbs < 2 ^ 64) : divG i j = some (i / j) := by
  have := log2_lt64 h2
  exact if_pos ⟨h, by omega⟩
theorem modG_of {i j : Int} (h : 0 < j) : modG i j = some (i % j) := if_pos h
theorem appG_of {α : Type} {l : List α} {x : α} (h : l.length < 16777216) : appG l x = some (l ++ [x]) := if_pos (by rw [sizeLine_val]; exact h)
theorem catG_of {α : Type} {l m : List α} (h : l.length + m.length ≤ 16777216) : catG l m = some (l ++ m) := if_pos (by rw [sizeLine_val]; exact h)
theorem szG_of {α : Type} {l : List α} (h : l.length ≤ 16777216) : szG l = some l := if_pos (by rw [sizeLine_val]; exact h)
theorem repG_of {α : Type} {x : α} {k : Int} (h : 0 ≤ k) (h2 : k ≤ 262144) : repG [x] k = some (List.replicate k.toNat x) := by
  unfold repG
  rw [if_pos ⟨⟨by simp, h2⟩, by omega⟩]
  congr 1
  generalize k.toNat = n
  induction n with
  | zero => rfl
  | succ n ih => rw [List.replicate_succ, List.flatten_cons, ih]; rfl
theorem rng1_of {j : Int} (h : 0 ≤ j) (h2 : j ≤ 16777216) : rng1 j = some (rngL 0 j.toNat) := if_pos (by rw [sizeLine_val]; omega)
theorem rng2_of {i j : Int} (h : 0 ≤ i) (hj : 0 ≤ j) (h1 : i ≤ 16777216) (h2 : j ≤ 16777216) : rng2 i j = some (rngL i (j - i).toNat) := if_pos (by rw [sizeLine_val]; omega)
theorem mem_rng {lo : Int} {n : Nat} {x : Int} : x ∈ rngL lo n ↔ lo ≤ x ∧ x < lo + n := by
  unfold rngL
  rw [List.mem_map]
  constructor
  · rintro ⟨i, hi, rfl⟩
    rw [List.mem_range] at hi
    omega
  · intro ⟨h1, h2⟩
    exact ⟨(x - lo).toNat, by rw [List.mem_range]; omega, by omega⟩
theorem rng_get {lo : Int} {n i : Nat} {x : Int} (h : (rngL lo n)[i]? = some x) : i < n ∧ x = lo + i := by
  unfold rngL at h
  rw [List.getElem?_map] at h
  by_cases c : i < n
  · rw [List.getElem?_range c] at h
    exact ⟨c, (Option.some.inj h).symm⟩
  · rw [List.getElem?_eq_none (by rw [List.length_range]; omega)] at h
    cases h
@[simp] theorem rng_len {lo : Int} {n : Nat} : (rngL lo n).length = n := by unfold rngL; simp
theorem atI_nat' {α : Type} {l : List α} {i : Int} (h : 0 ≤ i) (h2 : i < l.length) : ∃ x, atI l i = some x ∧ l[i.toNat]? = some x ∧ x ∈ l := by
  have h3 : i.toNat < l.length := by omega
  refine ⟨l[i.toNat], ?_, List.getElem?_eq_getElem h3, List.getElem_mem h3⟩
  unfold atI ixN
  rw [if_pos h, if_pos h2]
  exact List.getElem?_eq_getElem h3
theorem atI_eq {α : Type} {l : List α} {i : Int} (h : 0 ≤ i) (h2 : i < l.length) : atI l i = l[i.toNat]? := by
  unfold atI ixN
  rw [if_pos h, if_pos h2]; rfl
/-! ### loops -/
section
variable {S B R α β : Type}
theorem forL_inv {step : S → α → Option (Out S S R)} (I : S → Prop) : ∀ {l : List α} {s : S}, I s → (∀ s x, x ∈ l → I s → ∃ s', step s x = some (.nx s') ∧ I s') → ∃ s', forL (B := B) step s l = some (.nx s') ∧ I s'
  | [], s, h, _ => ⟨s, rfl, h⟩
  | x :: xs, s, h, hs => by
    obtain ⟨s1, e1, h1⟩ := hs s x (by simp) h
    obtain ⟨s2, e2, h2⟩ := forL_inv (l := xs) I h1 (fun s y hy => hs s y (by simp [hy]))
    exact ⟨s2, by unfold forL; rw [e1]; exact e2, h2⟩
theorem forL_invN {step : S → α → Option (Out S S R)} (I : Nat → S → Prop) : ∀ {l : List α} {s : S} {i : Nat}, I i s → (∀ i s x, x ∈ l → I i s → ∃ s', step s x = some (.nx s') ∧ I (i + 1) s') → ∃ s', forL (B := B) step s l = some (.nx s') ∧ I (i + l.length) s'
  | [], s, i, h, _ => ⟨s, rfl, h⟩
  | x :: xs, s, i, h, hs => by
    obtain ⟨s1, e1, h1⟩ := hs i s x (by simp) h
    obtain ⟨s2, e2, h2⟩ := forL_invN (l := xs) I h1 (fun i s y hy => hs i s y (by simp [hy]))
    refine ⟨s2, by unfold forL; rw [e1]; exact e2, ?_⟩
    rw [List.length_cons, Nat.add_comm xs.length, ← Nat.add_assoc]; exact h2
theorem forL_fold {step : S → α → Option (Out S S R)} (f : S → α → S) (I : S → Prop) : ∀ {l : List α} {s : S}, I s → (∀ s x, x ∈ l → I s → step s x = some (.nx (f s x)) ∧ I (f s x)) → forL (B := B) step s l = some (.nx (l.foldl f s)) ∧ I (l.foldl f s)
  | [], s, h, _ => ⟨rfl, h⟩
  | x :: xs, s, h, hs => by
    obtain ⟨e1, h1⟩ := hs s x (by simp) h
    obtain ⟨e2, h2⟩ := forL_fold (l := xs) f I h1 (fun s y hy => hs s y (by simp [hy]))
    exact ⟨by unfold forL; rw [e1]; exact e2, h2⟩
theorem forL_unit {step : Unit → α → Option (Out Unit Unit R)} : ∀ {l : List α}, (∀ x, x ∈ l → step () x = some (.nx ())) → forL (B := B) step () l = some (.nx ())
  | [], _ => rfl
  | x :: xs, hs => by
    unfold forL
    rw [hs x (by simp)]
    exact forL_unit fun y hy => hs y (by simp [hy])
theorem lcL_eq {c : α → Option Bool} {e : α → Option β} {p : α → Bool} {f : α → β} : ∀ {l : List α}, (∀ x, x ∈ l → c x = some (p x)) → (∀ x, x ∈ l → p x = true → e x = some (f x)) → lcL c e l = some ((l.filter p).map f)
  | [], _, _ => rfl
  | x :: xs, hc, he => by
    have ih := lcL_eq (l := xs) (fun y hy => hc y (by simp [hy])) (fun y hy => he y (by simp [hy]))
    unfold lcL
    rw [hc x (by simp), Option.bind_some, ih]
    cases q : p x with
    | true => rw [cond_true, he x (by simp) q, List.filter_cons_of_pos q]; rfl
    | false => rw [cond_false, List.filter_cons_of_neg (by rw [q]; simp)]
theorem lcL_map {e : α → Option β} {f : α → β} {l : List α} (he : ∀ x, x ∈ l → e x = some (f x)) : lcL (fun _ => some true) e l = some (l.map f) := by
  rw [lcL_eq (p := fun _ => true) (fun _ _ => rfl) fun x hx _ => he x hx, List.filter_eq_self.mpr fun _ _ => rfl]
theorem lcL_filter {c : α → Option Bool} {p : α → Bool} {l : List α} (hc : ∀ x, x ∈ l → c x = some (p x)) : lcL c (fun x => some x) l = some (l.filter p) := by
  have h := lcL_eq (f := id) hc (fun x hx _ => rfl : ∀ x, x ∈ l → p x = true → (fun x => some x) x = some (id x))
  rw [List.map_id] at h
  exact h
/-- two comprehensions that agree item by item -/
theorem lcL_congr {c c' : α → Option Bool} {e e' : α → Option β} : ∀ {l : List α}, (∀ x, x ∈ l → c x = c' x) → (∀ x, x ∈ l → e x = e' x) → lcL c e l = lcL c' e' l
  | [], _, _ => rfl
  | x :: xs, hc, he => by
    unfold lcL
    rw [hc x (by simp), he x (by simp), lcL_congr (fun y hy => hc y (by simp [hy])) (fun y hy => he y (by simp [hy]))]
theorem forL_congr {step step' : S → α → Option (Out S S R)} : ∀ {l : List α} {s : S}, (∀ s x, x ∈ l → step s x = step' s x) → forL (B := B) step s l = forL step' s l
  | [], _, _ => rfl
  | x :: xs, s, h => by
    unfold forL
    rw [h s x (by simp)]
    congr 1
    funext o
    cases o with
    | nx s' => exact forL_congr fun s y hy => h s y (by simp [hy])
    | ct s' => exact forL_congr fun s y hy => h s y (by simp [hy])
    | bk s' => rfl
    | rt r => rfl
end
/-! ### repr -/
class Rp (α : Type) [Enc α] where
  len : α → Nat
  sm : α → Prop
  ok : ∀ x, sm x → (enc x : PyData).showable = true ∧ (enc x : PyData).shown.length ≤ len x
theorem shown_int {i : Int} {k : Nat} (h : i.natAbs < 2 ^ k) (hk : 0 < k) : (PyData.shown (.int i)).length ≤ k + 1 := by
  have h10 : 2 ^ k ≤ 10 ^ k := Nat.pow_le_pow_left (by decide) k
  have := int_text_length_le10 (k := k) hk (Nat.lt_of_lt_of_le h h10)
  simp only [PyData.shown]
  show (Str.ofString (toString i)).length ≤ k + 1
  have e : (Str.ofString (toString i)).length = (toString i).length := PySem.ofString_length _
  omega
instance : Rp Int := ⟨fun i => i.natAbs.log2 + 3, fun i => i.natAbs.log2 < 1900, fun i h => ⟨by
  show decide (i.natAbs.log2 < 1920) = true
  exact decide_eq_true (by omega), by
  have h2 : i.natAbs < 2 ^ (i.natAbs.log2 + 1) := Nat.lt_log2_self
  have := shown_int h2 (by omega)
  show (PyData.shown (.int i)).length ≤ i.natAbs.log2 + 3
  omega⟩⟩
instance : Rp Bool := ⟨fun _ => 5, fun _ => True, fun b _ => by cases b <;> exact ⟨rfl, by decide⟩⟩
theorem rp_all {α : Type} [Enc α] [S : Rp α] : ∀ l : List α, (∀ x, x ∈ l → S.sm x) → PyData.showableAll (l.map enc) = true ∧ ((PyData.shownAll (l.map enc)).map (·.length)).sum + 2 * (PyData.shownAll (l.map enc)).length ≤ (l.map fun x => S.len x + 2).sum
  | [], _ => ⟨rfl, Nat.le_refl _⟩
  | x :: xs, h => by
    obtain ⟨h1, h2⟩ := rp_all xs fun y hy => h y (by simp [hy])
    obtain ⟨h3, h4⟩ := S.ok x (h x (by simp))
    refine ⟨?_, ?_⟩
    · show ((enc x : PyData).showable && PyData.showableAll (xs.map enc)) = true
      rw [h3, h1]; rfl
    · show ((((enc x : PyData).shown :: PyData.shownAll (xs.map enc)).map (·.length)).sum + 2 * ((enc x : PyData).shown :: PyData.shownAll (xs.map enc)).length) ≤ ((x :: xs).map fun x => S.len x + 2).sum
      simp only [List.map_cons, List.sum_cons, List.length_cons]
      omega
instance {α : Type} [Enc α] [S : Rp α] : Rp (List α) := ⟨fun l => (l.map fun x => S.len x + 2).sum + 3, fun l => ∀ x, x ∈ l → S.sm x, fun l h => by
  obtain ⟨h1, h2⟩ := rp_all l h
  refine ⟨h1, ?_⟩
  have := listText_len_le (PyData.shownAll (l.map enc))
  show (listText (PyData.shownAll (l.map enc))).length ≤ _
  omega⟩
instance {α : Type} [Enc α] [S : Rp α] : Rp (Tup α) := ⟨fun l => (l.l.map fun x => S.len x + 2).sum + 3, fun l => ∀ x, x ∈ l.l → S.sm x, fun l h => by
  obtain ⟨h1, h2⟩ := rp_all l.l h
  refine ⟨h1, ?_⟩
  have := tupleText_len_le (PyData.shownAll (l.l.map enc))
  show (tupleText (PyData.shownAll (l.l.map enc))).length ≤ _
  omega⟩
instance {α β : Type} [Enc α] [Enc β] [S : Rp α] [T : Rp β] : Rp (T2 α β) := ⟨fun t => S.len t.a + T.len t.b + 7, fun t => S.sm t.a ∧ T.sm t.b, fun t h => by
  obtain ⟨h1, h2⟩ := S.ok t.a h.1
  obtain ⟨h3, h4⟩ := T.ok t.b h.2
  refine ⟨?_, ?_⟩
  · show ((enc t.a : PyData).showable && ((enc t.b : PyData).showable && true)) = true
    rw [h1, h3]; rfl
  · have := tupleText_len_le [(enc t.a : PyData).shown, (enc t.b : PyData).shown]
    show (tupleText [(enc t.a : PyData).shown, (enc t.b : PyData).shown]).length ≤ _
    simp only [List.map_cons, List.map_nil, List.sum_cons, List.sum_nil, List.length_cons, List.length_nil] at this
    omega⟩
instance {α : Type} [Enc α] [S : Rp α] : Rp (Option α) := ⟨fun o => match o with | none => 4 | some x => S.len x, fun o => ∀ x, o = some x → S.sm x, fun o h => by
  cases o with
  | none => exact ⟨rfl, show 4 ≤ 4 from Nat.le_refl _⟩
  | some x => exact S.ok x (h x rfl)⟩
theorem repr_ok {α : Type} [Enc α] [S : Rp α] {x : α} (h : S.sm x) (h2 : S.len x ≤ 16777216) : reprD (enc x) = some (enc x : PyData).shown := by
  obtain ⟨h3, h4⟩ := S.ok x h
  exact if_pos ⟨h3, by rw [sizeLine_val]; omega⟩
theorem len_list {α : Type} [Enc α] [S : Rp α] (c : Nat) : ∀ (l : List α), (∀ x, x ∈ l → S.len x ≤ c) → Rp.len l ≤ l.length * (c + 2) + 3 := by
  intro l h
  show (l.map fun x => S.len x + 2).sum + 3 ≤ _
  have : (l.map fun x => S.len x + 2).sum ≤ l.length * (c + 2) := by
    induction l with
    | nil => simp
    | cons x xs ih =>
      have h1 := ih fun y hy => h y (by simp [hy])
      have h2 := h x (by simp)
      simp only [List.map_cons, List.sum_cons, List.length_cons, Nat.add_mul, Nat.one_mul]
      omega
  omega
/-! ### a mirror that ends well -/
def Ok {α : Type} (o : Option α) (P : α → Prop) : Prop := ∃ x, o = some x ∧ P x
section
variable {α β γ δ ε S S' B R : Type}
theorem ok_mono {o : Option α} {P Q : α → Prop} (h : Ok o P) (w : ∀ x, P x → Q x) : Ok o Q := let ⟨x, e, p⟩ := h; ⟨x, e, w x p⟩
theorem ok_some {x : α} {P : α → Prop} : Ok (some x) P ↔ P x := ⟨fun ⟨_, e, p⟩ => by cases e; exact p, fun p => ⟨x, rfl, p⟩⟩
theorem ok_none {P : α → Prop} : Ok (none : Option α) P ↔ False := ⟨fun ⟨_, e, _⟩ => (nomatch e), False.elim⟩
theorem ok_bind {o : Option α} {k : α → Option β} {P : β → Prop} : Ok (o.bind k) P ↔ Ok o fun x => Ok (k x) P :=
  ⟨fun ⟨y, e, p⟩ => let ⟨x, h1, h2⟩ := bind_get e; ⟨x, h1, y, h2, p⟩, fun ⟨x, h1, y, h2, p⟩ => ⟨y, by rw [h1]; exact h2, p⟩⟩
theorem ok_lift1 {f : α → β} {o : Option α} {P : β → Prop} : Ok (lift1 f o) P ↔ Ok o fun x => P (f x) := by unfold lift1; rw [ok_bind]; simp only [ok_some]
theorem ok_lift2 {f : α → β → γ} {a : Option α} {b : Option β} {P : γ → Prop} : Ok (lift2 f a b) P ↔ Ok a fun x => Ok b fun y => P (f x y) := by unfold lift2; simp only [ok_bind, ok_some]
theorem ok_lift3 {f : α → β → γ → δ} {a : Option α} {b : Option β} {c : Option γ} {P : δ → Prop} : Ok (lift3 f a b c) P ↔ Ok a fun x => Ok b fun y => Ok c fun z => P (f x y z) := by unfold lift3; simp only [ok_bind, ok_some]
theorem ok_lift4 {f : α → β → γ → δ → ε} {a : Option α} {b : Option β} {c : Option γ} {d : Option δ} {P : ε → Prop} : Ok (lift4 f a b c d) P ↔ Ok a fun x => Ok b fun y => Ok c fun z => Ok d fun w => P (f x y z w) := by unfold lift4; simp only [ok_bind, ok_some]
theorem ok_bind2 {f : α → β → Option γ} {a : Option α} {b : Option β} {P : γ → Prop} : Ok (bind2 f a b) P ↔ Ok a fun x => Ok b fun y => Ok (f x y) P := by unfold bind2; simp only [ok_bind]
theorem ok_app1 {m : α → Option β} {a : Option α} {P : β → Prop} : Ok (app1 m a) P ↔ Ok a fun x => Ok (m x) P := by unfold app1; simp only [ok_bind]
theorem ok_app2 {m : α → β → Option γ} {a : Option α} {b : Option β} {P : γ → Prop} : Ok (app2 m a b) P ↔ Ok a fun x => Ok b fun y => Ok (m x y) P := by unfold app2; simp only [ok_bind]
theorem ok_app3 {m : α → β → γ → Option δ} {a : Option α} {b : Option β} {c : Option γ} {P : δ → Prop} : Ok (app3 m a b c) P ↔ Ok a fun x => Ok b fun y => Ok c fun z => Ok (m x y z) P := by unfold app3; simp only [ok_bind]
theorem ok_app4 {m : α → β → γ → δ → Option ε} {a : Option α} {b : Option β} {c : Option γ} {d : Option δ} {P : ε → Prop} : Ok (app4 m a b c d) P ↔ Ok a fun x => Ok b fun y => Ok c fun z => Ok d fun w => Ok (m x y z w) P := by unfold app4; simp only [ok_bind]
theorem ok_bif {t : Bool} {a b : Option α} {P : α → Prop} : Ok (bif t then a else b) P ↔ (t = true → Ok a P) ∧ (t = false → Ok b P) := by cases t <;> simp
theorem ok_andG {a b : Option Bool} {P : Bool → Prop} : Ok (andG a b) P ↔ Ok a fun x => (x = true → Ok b P) ∧ (x = false → P false) := by unfold andG; simp only [ok_bind, ok_bif, ok_some]
theorem ok_orG {a b : Option Bool} {P : Bool → Prop} : Ok (orG a b) P ↔ Ok a fun x => (x = true → P true) ∧ (x = false → Ok b P) := by unfold orG; simp only [ok_bind, ok_bif, ok_some]
theorem ok_chain {f g : Int → Int → Bool} {a b c : Option Int} {P : Bool → Prop} : Ok (chainG f g a b c) P ↔ Ok a fun x => Ok b fun y => (f x y = true → Ok c fun z => P (g y z)) ∧ (f x y = false → P false) := by unfold chainG; simp only [ok_bind, ok_bif, ok_some]
/-- what follows a block -/
def BO (k : S → Option (Out S' B R)) (P : Out S' B R → Prop) : Out S B R → Prop
  | .nx s => Ok (k s) P
  | .bk b => P (.bk b)
  | .ct b => P (.ct b)
  | .rt r => P (.rt r)
theorem ok_bindOut {o : Option (Out S B R)} {k : S → Option (Out S' B R)} {P : Out S' B R → Prop} : Ok (bindOut o k) P ↔ Ok o (BO k P) := by
  unfold bindOut
  rw [ok_bind]
  constructor
  · rintro ⟨x, h, q⟩
    refine ⟨x, h, ?_⟩
    cases x with
    | nx s => exact q
    | bk s => exact (ok_some (x := Out.bk s) (P := P)).mp q
    | ct s => exact (ok_some (x := Out.ct s) (P := P)).mp q
    | rt s => exact (ok_some (x := Out.rt s) (P := P)).mp q
  · rintro ⟨x, h, q⟩
    refine ⟨x, h, ?_⟩
    cases x with
    | nx s => exact q
    | bk s => exact ok_some.mpr q
    | ct s => exact ok_some.mpr q
    | rt s => exact ok_some.mpr q
theorem bo_nx {k : S → Option (Out S' B R)} {P : Out S' B R → Prop} {s : S} : BO k P (.nx s) ↔ Ok (k s) P := Iff.rfl
theorem bo_rt {k : S → Option (Out S' B R)} {P : Out S' B R → Prop} {s : R} : BO k P (.rt s : Out S B R) ↔ P (.rt s) := Iff.rfl
theorem bo_bk {k : S → Option (Out S' B R)} {P : Out S' B R → Prop} {s : B} : BO k P (.bk s : Out S B R) ↔ P (.bk s) := Iff.rfl
theorem bo_ct {k : S → Option (Out S' B R)} {P : Out S' B R → Prop} {s : B} : BO k P (.ct s : Out S B R) ↔ P (.ct s) := Iff.rfl
def FO (d : Option R) (P : R → Prop) : Out Unit Unit R → Prop
  | .nx _ => Ok d P
  | .rt r => P r
  | _ => False
theorem ok_finO {d : Option R} {o : Option (Out Unit Unit R)} {P : R → Prop} : Ok (finO d o) P ↔ Ok o (FO d P) := by
  unfold finO
  rw [ok_bind]
  constructor
  · rintro ⟨x, h, q⟩
    refine ⟨x, h, ?_⟩
    cases x with
    | nx s => exact q
    | bk s => exact (ok_none (P := P)).mp q
    | ct s => exact (ok_none (P := P)).mp q
    | rt s => exact (ok_some (x := s) (P := P)).mp q
  · rintro ⟨x, h, q⟩
    refine ⟨x, h, ?_⟩
    cases x with
    | nx s => exact q
    | bk s => exact ok_none.mpr q
    | ct s => exact ok_none.mpr q
    | rt s => exact ok_some.mpr q
theorem fo_nx {d : Option R} {P : R → Prop} {s : Unit} : FO d P (.nx s) ↔ Ok d P := Iff.rfl
theorem fo_rt {d : Option R} {P : R → Prop} {s : R} : FO d P (.rt s) ↔ P s := Iff.rfl
/-- the block falls through with I -/
def Nx (I : S → Prop) : Out S B R → Prop
  | .nx s => I s
  | _ => False
theorem nx_nx {I : S → Prop} {s : S} : Nx I (.nx s : Out S B R) ↔ I s := Iff.rfl
theorem nx_rt {I : S → Prop} {s : R} : Nx I (.rt s : Out S B R) ↔ False := Iff.rfl
theorem ok_for {step : S → α → Option (Out S S R)} {P : Out S B R → Prop} (I : Nat → S → Prop) {l : List α} {s : S} (h0 : I 0 s) (hs : ∀ i s x, l[i]? = some x → I i s → Ok (step s x) (Nx (I (i + 1)))) (hk : ∀ s, I l.length s → P (.nx s)) : Ok (forL step s l) P := by
  have key : ∀ (m : List α) (i : Nat) (s : S), l.drop i = m → I i s → ∃ s', forL (B := B) step s m = some (.nx s') ∧ I (i + m.length) s' := by
    intro m
    induction m with
    | nil => exact fun i s _ h => ⟨s, rfl, h⟩
    | cons x m ih =>
      intro i s hm h
      have hx : l[i]? = some x := by
        rw [← List.head?_drop, hm]; rfl
      obtain ⟨o, e1, h1⟩ := hs i s x hx h
      cases o with
      | nx s1 =>
        obtain ⟨s2, e2, h2⟩ := ih (i + 1) s1 (by rw [← List.tail_drop, hm]; rfl) h1
        exact ⟨s2, by unfold forL; rw [e1]; exact e2, by rw [List.length_cons, Nat.add_comm m.length, ← Nat.add_assoc]; exact h2⟩
      | bk b => exact False.elim h1
      | ct b => exact False.elim h1
      | rt b => exact False.elim h1
  obtain ⟨s', e, h⟩ := key l 0 s rfl h0
  exact ⟨_, e, hk s' (by rw [Nat.zero_add] at h; exact h)⟩
theorem ok_while {c : S → Option Bool} {b : S → Option (Out S S R)} {P : Out S B R → Prop} (I : S → Prop) (μ : S → Nat) (hs : ∀ s, I s → Ok (c s) fun t => (t = true → Ok (b s) (Nx fun s' => I s' ∧ μ s' < μ s)) ∧ (t = false → P (.nx s))) :
    ∀ (n : Nat) (s : S), I s → μ s < n → Ok (whileF c b n s) P
  | 0, _, _, h => absurd h (Nat.not_lt_zero _)
  | n + 1, s, hI, hn => by
    unfold whileF
    rw [ok_bind]
    refine ok_mono (hs s hI) fun t ⟨h1, h2⟩ => ?_
    rw [ok_bif]
    refine ⟨fun e => ?_, fun e => ok_some.mpr (h2 e)⟩
    rw [ok_bind]
    refine ok_mono (h1 e) fun o ho => ?_
    cases o with
    | nx s' => exact ok_while I μ hs n s' ho.1 (by have := ho.2; omega)
    | bk b => exact False.elim ho
    | ct b => exact False.elim ho
    | rt b => exact False.elim ho
theorem ok_lc {c : α → Option Bool} {e : α → Option β} {P : List β → Prop} (p : α → Bool) (f : α → β) {l : List α} (hc : ∀ x, x ∈ l → c x = some (p x)) (he : ∀ x, x ∈ l → p x = true → e x = some (f x)) (h : P ((l.filter p).map f)) : Ok (lcL c e l) P := ⟨_, lcL_eq hc he, h⟩
theorem ok_map {e : α → Option β} {P : List β → Prop} (f : α → β) {l : List α} (he : ∀ x, x ∈ l → e x = some (f x)) (h : P (l.map f)) : Ok (lcL (fun _ => some true) e l) P := ⟨_, lcL_map he, h⟩
theorem ok_filter {c : α → Option Bool} {P : List α → Prop} (p : α → Bool) {l : List α} (hc : ∀ x, x ∈ l → c x = some (p x)) (h : P (l.filter p)) : Ok (lcL c (fun x => some x) l) P := ⟨_, lcL_filter hc, h⟩
theorem ok_iff {o : Option α} {v : α} : o = some v ↔ Ok o fun x => x = v := ⟨fun h => ⟨v, h, rfl⟩, fun ⟨_, e, h⟩ => h ▸ e⟩
theorem ok_of {o : Option α} {v : α} {P : α → Prop} (h : o = some v) (p : P v) : Ok o P := ⟨v, h, p⟩
/-- every item has a good value: then the list -/
theorem ok_all {e : α → Option β} {P : List β → Prop} (Q : α → β → Prop) : ∀ {l : List α}, (∀ x, x ∈ l → Ok (e x) (Q x)) → (∀ m : List β, m.length = l.length → (∀ (i : Nat) x y, l[i]? = some x → m[i]? = some y → Q x y) → P m) → Ok (lcL (fun _ => some true) e l) P := by
  intro l
  induction l generalizing P with
  | nil => exact fun _ h => ⟨[], rfl, h [] rfl fun i x y h => by simp at h⟩
  | cons x xs ih =>
    intro he h
    obtain ⟨y, e1, q1⟩ := he x (by simp)
    obtain ⟨m, e2, p⟩ := ih (P := fun m => P (y :: m)) (fun z hz => he z (by simp [hz])) fun m hm hq => h (y :: m) (by simp [hm]) fun i a b ha hb => by
      cases i with
      | zero => simp at ha hb; subst ha hb; exact q1
      | succ i => exact hq i a b (by simpa using ha) (by simpa using hb)
    refine ⟨y :: m, ?_, p⟩
    unfold lcL
    rw [Option.bind_some, cond_true, e1, Option.bind_some, e2]; rfl
def MulOk (i j : Int) : Prop := i.natAbs.log2 + j.natAbs.log2 < 1000000
theorem ok_mul {i j : Int} {P : Int → Prop} : Ok (mulG i j) P ↔ MulOk i j ∧ P (i * j) := by
  unfold mulG MulOk
  split <;> rename_i h
  · rw [ok_some]; simp [h]
  · rw [ok_none]; simp [h]
theorem mulOk {i j : Int} (hi : i.natAbs < 2 ^ 64) (hj : j.natAbs < 2 ^ 64) : MulOk i j := by
  have h1 := log2_lt64 hi
  have h2 := log2_lt64 hj
  unfold MulOk; omega
theorem ok_mod {i j : Int} {P : Int → Prop} : Ok (modG i j) P ↔ 0 < j ∧ P (i % j) := by
  unfold modG
  split <;> rename_i h
  · rw [ok_some]; simp [h]
  · rw [ok_none]; simp [h]
def DivOk (j : Int) : Prop := 0 < j ∧ j.natAbs.log2 < 9000
theorem divOk {j : Int} (h : 0 < j) (h2 : j.natAbs < 2 ^ 64) : DivOk j := ⟨h, by have := log2_lt64 h2; omega⟩
theorem ok_div {i j : Int} {P : Int → Prop} : Ok (divG i j) P ↔ DivOk j ∧ P (i / j) := by
  unfold divG DivOk
  split <;> rename_i h
  · rw [ok_some]; simp [h]
  · rw [ok_none]; simp [h]
theorem ok_appG {l : List α} {x : α} {P : List α → Prop} : Ok (appG l x) P ↔ l.length < 16777216 ∧ P (l ++ [x]) := by
  unfold appG
  rw [sizeLine_val]
  split <;> rename_i h
  · rw [ok_some]; simp [h]
  · rw [ok_none]; simp [h]
theorem ok_szG {l : List α} {P : List α → Prop} : Ok (szG l) P ↔ l.length ≤ 16777216 ∧ P l := by
  unfold szG
  rw [sizeLine_val]
  split <;> rename_i h
  · rw [ok_some]; simp [h]
  · rw [ok_none]; simp [h]
theorem ok_catG {l m : List α} {P : List α → Prop} : Ok (catG l m) P ↔ l.length + m.length ≤ 16777216 ∧ P (l ++ m) := by
  unfold catG
  rw [sizeLine_val]
  split <;> rename_i h
  · rw [ok_some]; simp [h]
  · rw [ok_none]; simp [h]
theorem ok_rng1 {j : Int} {P : List Int → Prop} (h : 0 ≤ j) (h2 : j ≤ 16777216) (p : P (rngL 0 j.toNat)) : Ok (rng1 j) P := ⟨_, rng1_of h h2, p⟩
theorem ok_atI {l : List α} {i : Int} {P : α → Prop} (h : 0 ≤ i) (h2 : i < l.length) (p : ∀ x, l[i.toNat]? = some x → x ∈ l → P x) : Ok (atI l i) P := by
  obtain ⟨x, h1, h3, h4⟩ := atI_nat' h h2
  exact ⟨x, h1, p x h3 h4⟩
end

section
variable {α β : Type}
theorem ok_allP {e : α → Option β} {P : List β → Prop} {l : List α} (Q : β → Prop) (he : ∀ x, x ∈ l → Ok (e x) Q) (h : ∀ m : List β, m.length = l.length → (∀ y, y ∈ m → Q y) → P m) : Ok (lcL (fun _ => some true) e l) P :=
  ok_all (fun _ y => Q y) he fun m hm hq => h m hm fun y hy => by
    obtain ⟨i, hi, e⟩ := List.mem_iff_getElem.mp hy
    exact hq i _ y (List.getElem?_eq_getElem (by omega)) (by rw [List.getElem?_eq_getElem hi, e])
theorem sum_bound {a b : Int} : ∀ {l : List Int}, (∀ w, w ∈ l → a ≤ w ∧ w ≤ b) → a * l.length ≤ l.sum ∧ l.sum ≤ b * l.length
  | [], _ => by simp
  | x :: xs, h => by
    obtain ⟨h1, h2⟩ := sum_bound (l := xs) fun w hw => h w (by simp [hw])
    obtain ⟨h3, h4⟩ := h x (by simp)
    simp only [List.sum_cons, List.length_cons, Int.natCast_add, Int.mul_add, Int.natCast_one, Int.mul_one]
    omega
theorem enumL_eq {l : List Int} : enumL l = (rngL 0 l.length).map fun k => T2.mk k (l.getD k.toNat 0) := by
  apply List.ext_getElem?
  intro i
  unfold enumL rngL
  rw [List.getElem?_zipWith, List.map_map, List.getElem?_map]
  by_cases c : i < l.length
  · rw [List.getElem?_range c, List.getElem?_eq_getElem c]
    simp [List.getElem?_eq_getElem c]
  · rw [List.getElem?_eq_none (by rw [List.length_range]; omega)]
    rfl
theorem maxL_ok {l : List Int} {P : Int → Prop} (h : l ≠ []) (hp : ∀ m, m ∈ l → (∀ x, x ∈ l → x ≤ m) → P m) : Ok (maxL l) P := by
  cases l with
  | nil => exact absurd rfl h
  | cons x xs =>
    have key : ∀ (ys : List Int) (m : Int), (ys.foldl (fun m y => if y > m then y else m) m = m ∨ ys.foldl (fun m y => if y > m then y else m) m ∈ ys) ∧ m ≤ ys.foldl (fun m y => if y > m then y else m) m ∧ ∀ y, y ∈ ys → y ≤ ys.foldl (fun m y => if y > m then y else m) m := by
      intro ys
      induction ys with
      | nil => exact fun m => ⟨.inl rfl, Int.le_refl _, fun y h => by simp at h⟩
      | cons y ys ih =>
        intro m
        obtain ⟨h1, h2, h3⟩ := ih (if y > m then y else m)
        rw [List.foldl_cons]
        refine ⟨?_, ?_, ?_⟩
        · rcases h1 with h1 | h1
          · rw [h1]
            split
            · exact .inr (by simp)
            · exact .inl rfl
          · exact .inr (by simp [h1])
        · have : m ≤ (if y > m then y else m) := by split <;> omega
          omega
        · intro z hz
          rw [List.mem_cons] at hz
          rcases hz with hz | hz
          · subst hz
            have : z ≤ (if z > m then z else m) := by split <;> omega
            omega
          · exact h3 z hz
    obtain ⟨h1, h2, h3⟩ := key xs x
    refine ⟨_, rfl, hp _ ?_ ?_⟩
    · rcases h1 with h1 | h1
      · rw [h1]; simp
      · simp [h1]
    · intro z hz
      rw [List.mem_cons] at hz
      rcases hz with hz | hz
      · subst hz; exact h2
      · exact h3 z hz
theorem ok_sortD [Enc α] [S : SortT α] {l : List α} {P : List α → Prop} (h : S.ok l = true) (h2 : l.length ≤ 16777216) (p : P (l.mergeSort leD)) : Ok (sortD l) P := ⟨_, if_pos ⟨h, by rw [sizeLine_val]; exact h2⟩, p⟩
theorem filter_sub [DecidableEq α] {l t : List α} (hn : l.Nodup) (h : t.Sublist l) : l.filter (fun x => decide (x ∈ t)) = t := by
  induction h with
  | slnil => rfl
  | @cons t l x h ih =>
    have hx := (List.nodup_cons.mp hn).1
    rw [List.filter_cons_of_neg (by simp; exact fun c => hx (h.subset c))]
    exact ih (List.nodup_cons.mp hn).2
  | @cons_cons t l x h ih =>
    have hx := (List.nodup_cons.mp hn).1
    rw [List.filter_cons_of_pos (by simp)]
    congr 1
    refine Eq.trans ?_ (ih (List.nodup_cons.mp hn).2)
    apply List.filter_congr
    intro y hy
    have : y ≠ x := fun c => hx (c ▸ hy)
    simp [this]
theorem rng_nodup {lo : Int} {n : Nat} : (rngL lo n).Nodup := by
  unfold rngL
  exact List.Pairwise.map _ (fun a b h c => h (by omega)) List.nodup_range
end
end Lay

set_option Elab.async false
set_option linter.all false
set_option maxRecDepth 100000
/-! LayB: a list comprehension with two clauses. -/
namespace Lay
open PySem PySem.Spec PyProof.Rows L2
open Lay.Enc (enc)
def lc2L {α β γ : Type} (oc : α → Option Bool) (oi : α → Option (List β)) (od : α → β → Option Bool) (oe : α → β → Option γ) : List α → Option (List γ)
  | [] => some []
  | x :: xs => (oc x).bind fun t => bif t then (oi x).bind fun m => (lcL (od x) (oe x) m).bind fun r => (lc2L oc oi od oe xs).bind fun s => some (r ++ s) else lc2L oc oi od oe xs
theorem lc2L_at {α β γ : Type} {oc : α → Option Bool} {oi : α → Option (List β)} {od : α → β → Option Bool} {oe : α → β → Option γ} {l : List α} {i : Nat} {x : α} {r : List γ} (h : l[i]? = some x) (h2 : lc2L oc oi od oe (l.drop i) = some r) :
    ∃ t, oc x = some t ∧ ((t = true ∧ ∃ m r1 r', oi x = some m ∧ lcL (od x) (oe x) m = some r1 ∧ r = r1 ++ r' ∧ lc2L oc oi od oe (l.drop (i + 1)) = some r') ∨ (t = false ∧ lc2L oc oi od oe (l.drop (i + 1)) = some r)) := by
  have hl : i < l.length := by
    by_cases c : i < l.length
    · exact c
    · rw [List.getElem?_eq_none (by omega)] at h; cases h
  have hx : l[i] = x := by rw [List.getElem?_eq_getElem hl] at h; exact Option.some.inj h
  rw [List.drop_eq_getElem_cons hl, hx] at h2
  unfold lc2L at h2
  obtain ⟨t, h3, h4⟩ := bind_get h2
  refine ⟨t, h3, ?_⟩
  cases t with
  | true =>
    rw [cond_true] at h4
    obtain ⟨m, h5, h4⟩ := bind_get h4
    obtain ⟨r1, h6, h4⟩ := bind_get h4
    obtain ⟨r', h7, h4⟩ := bind_get h4
    cases h4
    exact .inl ⟨rfl, m, r1, r', h5, h6, rfl, h7⟩
  | false => exact .inr ⟨rfl, h4⟩
/-- one item of an iterator, as it comes -/
theorem item_of {K : PySem.W.Frag} {F H4 H3 I1 I3 : Hp} {G : List Sl} {σ : L2.St} {ps : Nat → Option Addr} {x : V} {d : PyData} {D : Addr} {xs : List V} (R3 : RS K F G σ H3 I3 ps) (g : Same I1 I3) (n3 : I3 D = none) (hD3 : H3 D = some (.lst xs))
    (y4 : (H4 = H3 ∧ Dq I1 x d) ∨ ∃ T o, H3 T = none ∧ H4 = upd H3 T o ∧ Dq (upd I1 T o) x d) : ∃ I4, Grow F I3 I4 ∧ RS K F G σ H4 I4 ps ∧ Dq I4 x d ∧ I4 D = none ∧ H4 D = some (.lst xs) := by
  rcases y4 with ⟨e, d⟩ | ⟨T, o, n, e, d⟩
  · subst e; exact ⟨I3, Grow.refl, R3, Dq_mono g _ _ d, n3, hD3⟩
  · subst e
    have nT : D ≠ T := ne_of_none hD3 n
    refine ⟨upd I3 T o, R3.grow_new n, R3.new n, Dq_mono (fun b u q => ?_) _ _ d, by rw [upd_ne nT]; exact n3, by rw [upd_ne nT]; exact hD3⟩
    by_cases c : b = T
    · subst c; rw [upd_same] at q ⊢; exact q
    · rw [upd_ne c] at q ⊢; exact g _ _ q
section
variable {K : PySem.W.Frag} {F I' I'' H' : Hp} {G : List Sl} {σ : L2.St} {ps : Nat → Option Addr} {D : Addr} {xs : List V}
/-- within a turn the new list stands for others -/
theorem lc_in (hDF : F D = none) (hDp : ∀ i, ps i ≠ some D) (r : RS K F G σ H' I' ps) (n : I' D = none) (h : H' D = some (.lst xs)) : RS K (upd F D (.lst xs)) G σ H' I' ps := r.frame (fun b o z => by
  by_cases c : b = D
  · subst c; rw [upd_same] at z; cases z; exact h
  · rw [upd_ne c] at z; exact r.sf _ _ z) (fun i a ha => by rw [upd_ne (fun c : a = D => hDp i (by rw [← c]; exact ha))]; exact r.fo i a ha) (upd_iff n)
theorem lc_out (hDF : F D = none) (r : RS K (upd F D (.lst xs)) G σ H' I' ps) (n : I' D = none) (fo : ∀ i a, ps i = some a → F a = none) : RS K F G σ H' I' ps := r.frame ((same_upd hDF).trans r.sf) fo fun a z => (upd_iff n a z).symm
theorem lc_gr (hDF : F D = none) (g : Grow (upd F D (.lst xs)) I' I'') : Grow F I' I'' := ⟨g.same, fun a h => (g.out a h).imp_right (same_upd hDF).free⟩
theorem lc_keep (g : Grow (upd F D (.lst xs)) I' I'') (n : I' D = none) : I'' D = none := by
  cases z : I'' D with
  | none => rfl
  | some o =>
    rcases g.out D (by rw [z]; simp) with h | h
    · exact absurd n h
    · rw [upd_same] at h; cases h
theorem own_through {js vs : List Nat} {G' : List Sl} (hj : ∀ j ∈ js, j ∈ vs) (hf : ownFree G vs = true) (o5 : ∀ i, i ∉ js → slAt G' i = slAt (wipeG G vs) i) : ∀ (j : Nat) ds, slAt G j = .own ds → slAt G' j = .own ds ∧ j < G'.length := fun j ds h => by
  have nv : j ∉ vs := fun z => by
    have q := List.all_eq_true.mp hf j z
    rw [h] at q; cases q
  have e : slAt G' j = .own ds := by rw [o5 j (fun z => nv (hj j z)), wipeG_out nv]; exact h
  refine ⟨e, ?_⟩
  by_cases c : j < G'.length
  · exact c
  · rw [slAt_out (by omega)] at e; cases e
end
section
variable {X : Cx} {G : List Sl} {N : List Str} {sc : Scope} {fs : Option Scope} {k : Nat} {α β γ : Type} [Enc α] [Enc β] [Enc γ] {elt tg iter tg1 iter1 : Expr} {ifs ifs1 : List Expr} {scope : Scope} {pos : Pos} {g g1 : L2.TG} {js js1 : List Nat} {f : α → List Sl → List Sl} {f1 : β → List Sl → List Sl}
theorem lc2_mk {own : List (Str × Nat)} {vs1 : List Nat} {ol : Option (List α)} {oc : α → Option Bool} {oi : α → Option (List β)} {od : α → β → Option Bool} {oe : α → β → Option γ} (C : Ctx X N sc fs k) (hi : IT X G tg iter ol) (ok : blkC N sc scope own = true)
    (hg : ∀ s H Ca cl fp, PG (X.blk s H scope (compEnvC scope cl Ca X.env) fp) tg g) (ht : Tgt X.K g js f) (hj : ∀ j ∈ js, j ∈ own.map (·.2)) (hf : ownFree G (own.map (·.2)) = true)
    (hc : ∀ s H Ca cl fp x, ETs (X.blk s H scope (compEnvC scope cl Ca X.env) fp) (f x (wipeG G (own.map (·.2)))) ifs (oc x))
    (hi1 : ∀ s H Ca cl fp x, IT (X.blk s H scope (compEnvC scope cl Ca X.env) fp) (f x (wipeG G (own.map (·.2)))) tg1 iter1 (oi x))
    (hg1 : ∀ s H Ca cl fp, PG (X.blk s H scope (compEnvC scope cl Ca X.env) fp) tg1 g1) (ht1 : Tgt X.K g1 js1 f1) (hj1 : ∀ j ∈ js1, j ∈ vs1) (hv1 : ∀ j ∈ vs1, j ∈ own.map (·.2)) (hf1 : ∀ x, ownFree (f x (wipeG G (own.map (·.2)))) vs1 = true)
    (hd : ∀ s H Ca cl fp x y, ETs (X.blk s H scope (compEnvC scope cl Ca X.env) fp) (f1 y (wipeG (f x (wipeG G (own.map (·.2)))) vs1)) ifs1 (od x y))
    (he : ∀ s H Ca cl fp x y, ED (X.blk s H scope (compEnvC scope cl Ca X.env) fp) (f1 y (wipeG (f x (wipeG G (own.map (·.2)))) vs1)) elt (oe x y))
    (hs : ∀ x, foldedSetIterable iter X.env x = pure x := by intro _; rfl) (hs1 : ∀ env x, foldedSetIterable iter1 env x = pure x := by intro _ _; rfl) :
    LC X G (.ListComp elt [⟨tg, iter, ifs, 0⟩, ⟨tg1, iter1, ifs1, 0⟩] scope pos) (ol.bind fun l => (lc2L oc oi od oe l).bind szG) := fun r hr => by
  obtain ⟨l, h1, h0⟩ := bind_get hr
  obtain ⟨r0, h2, h3⟩ := bind_get h0
  obtain ⟨hsz, e0⟩ := ite_get h3
  subst e0
  obtain ⟨vs, hvs⟩ : ∃ vs, own.map (·.2) = vs := ⟨_, rfl⟩
  rw [hvs] at hj hf
  simp only [hvs] at hc he hi1 hd hv1 hf1
  let te : TE := fun σ H Q => ∃ x y z, oe x y = some z ∧ tD X.K (f1 y (wipeG (f x (wipeG G vs)) vs1)) (enc z) σ H Q
  let tt : TT := fun σ H Q => ∃ x b, oc x = some b ∧ tB X.K (f x (wipeG G vs)) b σ H Q
  let tt1 : TT := fun σ H Q => ∃ x y b, od x y = some b ∧ tB X.K (f1 y (wipeG (f x (wipeG G vs)) vs1)) b σ H Q
  let wi1 : TI := fun σ H R => ∃ x m, oi x = some m ∧ tI X.K (f x (wipeG G vs)) (m.map enc) σ H R
  have pe : ∀ s H Ca cl fp, PE (X.blk s H scope (compEnvC scope cl Ca X.env) fp) elt te := fun s H Ca cl fp => ⟨fun pins st σ H' Q I ⟨x, y, z, e, q⟩ => (he s H Ca cl fp x y z e).run pins st σ H' Q I q⟩
  have pt : ∀ s H Ca cl fp, PTs (X.blk s H scope (compEnvC scope cl Ca X.env) fp) ifs tt := fun s H Ca cl fp => ⟨fun pins st σ H' Q I ⟨x, b, e, q⟩ => (hc s H Ca cl fp x b e).run pins st σ H' Q I q⟩
  have pt1 : ∀ s H Ca cl fp, PTs (X.blk s H scope (compEnvC scope cl Ca X.env) fp) ifs1 tt1 := fun s H Ca cl fp => ⟨fun pins st σ H' Q I ⟨x, y, b, e, q⟩ => (hd s H Ca cl fp x y b e).run pins st σ H' Q I q⟩
  have pi1 : ∀ s H Ca cl fp, PI (X.blk s H scope (compEnvC scope cl Ca X.env) fp) tg1 iter1 wi1 := fun s H Ca cl fp => ⟨fun pins st σ H' Q I ⟨x, m, e, q⟩ => (hi1 s H Ca cl fp x m e).run pins st σ H' Q I q⟩
  have nd : X.N.Nodup := by rw [C.n]; exact C.nd
  have bk : BlkOk X.N X.env.scope scope own := by rw [C.n, C.s]; exact blkOk_by ok
  have hv : ∀ j ∈ vs1, j ∈ own.map (·.2) := by rw [hvs]; exact hv1
  refine ⟨_, pe_lc2 C.calm nd (hi l h1) bk hv hg pt pi1 hg1 pt1 pe hs hs1, fun i y py sp a b c => ps_setLc2 C.calm nd a b c (hi l h1) bk hv hg pt pi1 hg1 pt1 pe hs hs1, fun σ H Q ⟨F, I, ps, R, q⟩ => ?_⟩
  rw [hvs]
  refine ⟨F, I, ps, R, fun J H1 I1 gr1 R1 wl ll D hD => ?_⟩
  have hD1 : I1 D = none := R1.si.free hD
  have hDF : F D = none := R1.sf.free hD
  have hDp : ∀ i, ps i ≠ some D := fun i c => by obtain ⟨_, _, xs, z⟩ := R1.own_at c; rw [hD] at z; cases z
  refine ⟨fun i m H => m = l.length - i ∧ i ≤ l.length ∧ ∃ I' xs done rst, Grow F I1 I' ∧ RS X.K F G σ H I' ps ∧ I' D = none ∧ H D = some (.lst xs) ∧ DqAll I' xs (done.map enc) ∧ lc2L oc oi od oe (l.drop i) = some rst ∧ r0 = done ++ rst,
    ⟨_, rfl, Nat.zero_le _, I1, [], [], r0, Grow.refl, R1.newOwn hD, hD1, upd_same, .nil, h2, rfl⟩, ?_⟩
  rintro i m H3 ⟨rfl, hil, I3, xs, done, rst, gr3, R3, n3, hD3, d3, hr3, er⟩
  have sI : Same I1 H3 := gr3.same.trans R3.si
  by_cases hlt : i < l.length
  · have hx : l[i]? = some l[i] := List.getElem?_eq_getElem hlt
    obtain ⟨t, ht1', ht2⟩ := lc2L_at hx hr3
    obtain ⟨go, yl⟩ := wl.go i (enc l[i]) H3 sI (by rw [List.getElem?_map, hx]; rfl)
    refine .inr ⟨go, fun H' => ∃ I' xs done rst, Grow F I1 I' ∧ RS X.K F G σ H' I' ps ∧ I' D = none ∧ H' D = some (.lst xs) ∧ DqAll I' xs (done.map enc) ∧ lc2L oc oi od oe (l.drop (i + 1)) = some rst ∧ r0 = done ++ rst,
      fun H' hN => ⟨l.length - (i + 1), by omega, rfl, hlt, hN⟩, fun x H4 y4 => ?_⟩
    generalize l[i] = x0 at *
    obtain ⟨I4, g4, R4, d4, n4, hD4⟩ := item_of R3 gr3.same n3 hD3 (yl x H4 y4)
    have hpv := ownFree_ps R4 hf
    have Rw := (lc_in hDF hDp R4 n4 hD4).wiped vs hpv
    refine ht.go x0 _ _ _ H4 I4 ps x _ Rw (fun j h => hpv j (hj j h)) d4 fun σ5 R5 w5 o5 => ⟨(w5 vs hj).trans wipe_wipe, ?_⟩
    have hG := own_through hj hf o5
    refine ⟨x0, t, ht1', upd F D (.lst xs), I4, ps, R5, fun H6 I6 g6 R6 => ?_⟩
    have hD6 : H6 D = some (.lst xs) := R6.sf _ _ upd_same
    rcases ht2 with ⟨rfl, m, r1, r', hm, hr1, er2, hr4⟩ | ⟨rfl, hr4⟩
    · refine iteT ⟨x0, m, hm, upd F D (.lst xs), I6, ps, R6, fun J1 H7 I7 g7 R7 wl1 ll1 => ?_⟩
      have hD7 : H7 D = some (.lst xs) := R7.sf _ _ upd_same
      have n7 : I7 D = none := lc_keep (g6.trans g7) n4
      have R7' := lc_out hDF R7 n7 R4.fo
      have g47 := lc_gr hDF (g6.trans g7)
      refine ⟨fun j k H => k = m.length - j ∧ j ≤ m.length ∧ ∃ I' xs done rst, Grow F I7 I' ∧ RS X.K F (f x0 (wipeG G vs)) σ5 H I' ps ∧ I' D = none ∧ H D = some (.lst xs) ∧ DqAll I' xs (done.map enc) ∧ lcL (od x0) (oe x0) (m.drop j) = some rst ∧ r0 = done ++ rst ++ r',
        ⟨_, rfl, Nat.zero_le _, I7, xs, done, r1, Grow.refl, R7', n7, hD7, DqAll_mono (g4.trans g47).same _ _ d3, hr1, by rw [er, er2, List.append_assoc]⟩, ?_⟩
      rintro j k' H8 ⟨rfl, hjl, I8, ys, done8, rst8, gr8, R8, n8, hD8, d8, hr8, er8⟩
      have sI8 : Same I7 H8 := gr8.same.trans R8.si
      by_cases hlt8 : j < m.length
      · have hy : m[j]? = some m[j] := List.getElem?_eq_getElem hlt8
        obtain ⟨b, hb1, hb2⟩ := lcL_at hy hr8
        obtain ⟨go8, yl8⟩ := wl1.go j (enc m[j]) H8 sI8 (by rw [List.getElem?_map, hy]; rfl)
        refine .inr ⟨go8, fun H' => ∃ I' xs done rst, Grow F I7 I' ∧ RS X.K F (f x0 (wipeG G vs)) σ5 H' I' ps ∧ I' D = none ∧ H' D = some (.lst xs) ∧ DqAll I' xs (done.map enc) ∧ lcL (od x0) (oe x0) (m.drop (j + 1)) = some rst ∧ r0 = done ++ rst ++ r',
          fun H' hN => ⟨m.length - (j + 1), by omega, rfl, hlt8, hN⟩, fun y H9 y9 => ?_⟩
        generalize m[j] = y0 at *
        obtain ⟨I9, g9, R9, d9, n9, hD9⟩ := item_of R8 gr8.same n8 hD8 (yl8 y H9 y9)
        have hpv9 := ownFree_ps R9 (hf1 x0)
        have Rw9 := (lc_in hDF hDp R9 n9 hD9).wiped vs1 hpv9
        refine ht1.go y0 _ _ _ H9 I9 ps y _ Rw9 (fun j h => hpv9 j (hj1 j h)) d9 fun σA RA wA oA => ⟨(wA vs1 hj1).trans wipe_wipe, ?_⟩
        have hGA := own_through hj1 (hf1 x0) oA
        refine ⟨x0, y0, b, hb1, upd F D (.lst ys), I9, ps, RA, fun HB IB gB RB => ?_⟩
        rcases hb2 with ⟨rfl, z, r8', hz, er9, hr9⟩ | ⟨rfl, hr9⟩
        · refine iteT ⟨x0, y0, z, hz, upd F D (.lst ys), IB, ps, RB, fun v HC IC gC RC dC => ?_⟩
          have g9C := lc_gr hDF (gB.trans gC)
          have hDC : HC D = some (.lst ys) := RC.sf _ _ upd_same
          have nC : IC D = none := lc_keep (gB.trans gC) n9
          have R10 := (R9.back RC (same_upd hDF) (gB.trans gC).same hGA).wr (o := .lst (ys ++ [v])) nC hDF hDp
          have ly : ys.length = done8.length := by rw [d8.len, List.length_map]
          have lr : r0.length = done8.length + 1 + r8'.length + r'.length := by rw [er8, er9]; simp [List.length_append]; omega
          refine ⟨ys, hDC, by omega, IC, ys ++ [v], done8 ++ [z], r8', gr8.trans (g9.trans g9C), R10, nC, upd_same, ?_, hr9, by rw [er8, er9]; simp⟩
          rw [List.map_append]
          exact (DqAll_mono (g9.trans g9C).same _ _ d8).app (.cons dC .nil)
        · have hDB : HB D = some (.lst ys) := RB.sf _ _ upd_same
          exact iteF ⟨IB, ys, done8, rst8, gr8.trans (g9.trans (lc_gr hDF gB)), R9.back RB (same_upd hDF) gB.same hGA, lc_keep gB n9, hDB, DqAll_mono (g9.trans (lc_gr hDF gB)).same _ _ d8, hr9, er8⟩
      · have e : j = m.length := by omega
        subst e
        rw [List.drop_length] at hr8
        cases hr8
        rw [List.append_nil] at er8
        have wst := wl1.st H8 sI8
        rw [List.length_map] at wst
        exact .inl ⟨wst, I8, ys, done8, r', gr3.trans (g4.trans (g47.trans gr8)), R4.back R8 (Same.refl _) (g47.trans gr8).same hG, n8, hD8, d8, hr4, er8⟩
    · exact iteF ⟨I6, xs, done, rst, gr3.trans (g4.trans (lc_gr hDF g6)), R4.back R6 (same_upd hDF) g6.same hG, lc_keep g6 n4, hD6, DqAll_mono (g4.trans (lc_gr hDF g6)).same _ _ d3, hr4, er⟩
  · have e : i = l.length := by omega
    subst e
    rw [List.drop_length] at hr3
    cases hr3
    rw [List.append_nil] at er
    subst er
    have wst := wl.st H3 sI
    rw [List.length_map] at wst
    exact .inl ⟨wst, q D xs H3 I3 (gr1.trans gr3) R3 n3 hDF hDp hD3 d3⟩
end
end Lay

set_option Elab.async false
set_option linter.all false
set_option maxRecDepth 100000
/-! LayY: zip of three, lists and tuples in any mix. -/
namespace Lay
open PySem PySem.Spec PyProof.Rows L2
open Lay.Enc (enc)
/-- the three at a, c, e, item by item, in new tuples -/
def Itz3 (K : PySem.W.Frag) (ba bc be : Bool) (a c e : Addr) : It where
  go i H := ∃ (xs ys zs : List V) (x y z : V), SqB K ba H a xs ∧ SqB K bc H c ys ∧ SqB K be H e zs ∧ xs[i]? = some x ∧ ys[i]? = some y ∧ zs[i]? = some z
  yld i H v H' := ∃ T x y z, v = .ref T ∧ H T = none ∧ H' = upd H T (.tup [x, y, z]) ∧ (∀ xs, SqB K ba H a xs → xs[i]? = some x) ∧ (∀ ys, SqB K bc H c ys → ys[i]? = some y) ∧ ∀ zs, SqB K be H e zs → zs[i]? = some z
  stop i H := ∃ xs ys zs : List V, SqB K ba H a xs ∧ SqB K bc H c ys ∧ SqB K be H e zs ∧ i ≤ xs.length ∧ i ≤ ys.length ∧ i ≤ zs.length ∧ (i = xs.length ∨ i = ys.length ∨ i = zs.length)
abbrev zipF3 (n : Nat) : List Addr := [n + 5, n + 3, n + 4, n, n + 1, n + 2]
def zipS3 (n : Nat) (ba bc be : Bool) (a c e : Addr) (i : Nat) (h : Heap) : Prop :=
  IsZip h (n + 5) (n + 3) (n + 4) .none ∧ IsTupOf3 h (n + 3) (.ref n) (.ref (n + 1)) (.ref (n + 2)) ∧ (∃ u v w, IsTupOf3 h (n + 4) u v w) ∧ IterB ba h n a i ∧ IterB bc h (n + 1) c i ∧ IterB be h (n + 2) e i
theorem turn_zip3 {P : Program} {w : World} {K : PySem.W.Frag} {es : List Expr} {kk : Nat} {tp : Pos} {ba bc be : Bool} {a c e n : Addr} (ha : a < n) (hc : c < n) (he : e < n) :
    Turn P w K (.Tuple es kk tp) (Itz3 K ba bc be a c e) (zipF3 n) (n + 5) (zipS3 n ba bc be a c e) := by
  have one : ∀ {x : Addr}, x < n → ∀ b ∈ [x], b < n := fun h b hb => by rw [List.mem_singleton.mp hb]; exact h
  have sep : ZipSep3 (n + 5) (n + 3) (n + 4) n (n + 1) (n + 2) [n, a] [n + 1, c] [n + 2, e] := zip_sep3 (N := n) (fp1 := [a]) (fp2 := [c]) (fp3 := [e]) (one ha) (one hc) (one he)
  have six : ∀ {b : Addr}, b ∈ zipF3 n → b = n + 5 ∨ b = n + 3 ∨ b = n + 4 ∨ b = n ∨ b = n + 1 ∨ b = n + 2 := fun h => by simpa [zipF3] using h
  refine { mem := by simp [zipF3], obj := ?_, keep := ?_, item := ?_, done := ?_, self := ?_ }
  · rintro i h ⟨z1, z2, ⟨u, v, q, z3⟩, z4, z5, z6⟩ b hb
    rcases six hb with r | r | r | r | r | r <;> subst r
    · exact ⟨_, z1, fun _ z => nomatch z⟩
    · exact ⟨_, z2, fun _ z => nomatch z⟩
    · exact ⟨_, z3, fun _ z => nomatch z⟩
    · exact z4.obj
    · exact z5.obj
    · exact z6.obj
  · rintro i h h' ⟨z1, z2, ⟨u, v, q, z3⟩, z4, z5, z6⟩ kp
    exact ⟨kp _ (by simp [zipF3]) _ z1, kp _ (by simp [zipF3]) _ z2, ⟨u, v, q, kp _ (by simp [zipF3]) _ z3⟩, z4.at (kp _ (by simp [zipF3])), z5.at (kp _ (by simp [zipF3])), z6.at (kp _ (by simp [zipF3]))⟩
  · intro X e1 e2 e3 calm i pins s σ H E I hf st hg
    subst e1 e2 e3
    obtain ⟨z1, z2, ⟨u, v, q, z3⟩, z4, z5, z6⟩ := st
    obtain ⟨xs, ys, zs, x, y, z, qa, qc, qe, hx, hy, hz⟩ := hg
    obtain ⟨ia, ra, pa⟩ := sqB_items I qa
    obtain ⟨ic, rc, pc⟩ := sqB_items I qc
    obtain ⟨ie, re, pe⟩ := sqB_items I qe
    have hd : X.A.in1.handled = none := I.ok.hd calm
    have la : i < ia.toArray.size := by rw [List.size_toArray, ← ra.length]; exact (List.getElem?_eq_some_iff.mp hx).1
    have lc : i < ic.toArray.size := by rw [List.size_toArray, ← rc.length]; exact (List.getElem?_eq_some_iff.mp hy).1
    have le : i < ie.toArray.size := by rw [List.size_toArray, ← re.length]; exact (List.getElem?_eq_some_iff.mp hz).1
    refine wpAny_pyNext_zipD3_item sep (draws_b hd ba n a (Nat.ne_of_lt ha) ia.toArray) (draws_b hd bc (n + 1) c (Nat.ne_of_lt (Nat.lt_succ_of_lt hc)) ic.toArray) (draws_b hd be (n + 2) e (Nat.ne_of_lt (Nat.lt_succ_of_lt (Nat.lt_succ_of_lt he))) ie.toArray) z1 z2 z3 ⟨z4, pa⟩ ⟨z5, pc⟩ ⟨z6, pe⟩ la lc le
      fun u1 u2 u3 h1 tk p1 p2 p3 y1 y2 y4 y5 y6 hT hsz kp => ?_
    have zlt : n + 5 < s.heap.objs.size := Heap.lt_size z1
    refine ⟨_, rfl, wpAny_letOwnedTupleGo_zip (s := { s with heap := h1, toks := tk }) y1 fun h2 y1' sb => ?_⟩
    obtain ⟨w1, hw1, r1⟩ := ra.get hx
    obtain ⟨w2, hw2, r2⟩ := rc.get hy
    obtain ⟨w3, hw3, r3⟩ := re.get hz
    have q1 : u1 = w1 := by
      have := p1; simp only [List.getElem?_toArray] at this; rw [hw1] at this; exact (Option.some.inj this).symm
    have q2 : u2 = w2 := by
      have := p2; simp only [List.getElem?_toArray] at this; rw [hw2] at this; exact (Option.some.inj this).symm
    have q3 : u3 = w3 := by
      have := p3; simp only [List.getElem?_toArray] at this; rw [hw3] at this; exact (Option.some.inj this).symm
    subst q1 q2 q3
    have hT2 : h2.get? s.heap.objs.size = some { cls := .type "tuple", data := .seq #[u1, u2, u3] } := (sb.2 _ (Nat.ne_of_gt zlt)).trans hT
    have ok : ObjOk X.prog X.w (upd H s.heap.objs.size (.tup [x, y, z])) h2 s.heap.objs.size (.tup [x, y, z]) := ⟨small_line (by show 3 ≤ 8; decide), [u1, u2, u3], .cons r1 (.cons r2 (.cons r3 .nil)), ⟨_, hT2, rfl, _, rfl⟩⟩
    have kp2 : ∀ b o, b ∉ zipF3 n → s.heap.get? b = some o → h2.get? b = some o := fun b o hb e => by
      simp only [zipF3, List.mem_cons, List.not_mem_nil, or_false, not_or] at hb
      exact (sb.2 b hb.1).trans (kp b o hb.1 hb.2.2.1 hb.2.2.2.1 hb.2.2.2.2.1 hb.2.2.2.2.2 e)
    have I1 : Inv X pins σ (upd H s.heap.objs.size (.tup [x, y, z])) { s with heap := h2, toks := tk } := I.turnedNew (t' := tk) (ch := zipF3 n) kp2 hf (Nat.le_refl _) ok
    refine ⟨.ref s.heap.objs.size, _, I1, rfl, ⟨_, x, y, z, rfl, I.hok.fresh (Nat.le_refl _), rfl, fun l hl => ?_, fun l hl => ?_, fun l hl => ?_⟩, ⟨y1', ?_, ⟨u1, u2, u3, ?_⟩, ?_, ?_, ?_⟩, fun b hb => ?_⟩
    · rw [sqB_inj I hl qa]; exact hx
    · rw [sqB_inj I hl qc]; exact hy
    · rw [sqB_inj I hl qe]; exact hz
    · exact (sb.2 _ sep.TIz).trans (kp _ _ sep.TIz sep.TITO sep.TIi1 sep.TIi2 sep.TIi3 z2)
    · exact (sb.2 _ sep.TOz).trans y2
    · exact y4.1.at fun o e => (sb.2 _ sep.zi1.symm).trans e
    · exact y5.1.at fun o e => (sb.2 _ sep.zi2.symm).trans e
    · exact y6.1.at fun o e => (sb.2 _ sep.zi3.symm).trans e
    · have lt : b < s.heap.objs.size := by
        rcases six hb with r | r | r | r | r | r <;> subst r
        · exact zlt
        · exact Heap.lt_size z2
        · exact Heap.lt_size z3
        · obtain ⟨o, e, _⟩ := z4.obj; exact Heap.lt_size e
        · obtain ⟨o, e, _⟩ := z5.obj; exact Heap.lt_size e
        · obtain ⟨o, e, _⟩ := z6.obj; exact Heap.lt_size e
      rw [upd_ne (Nat.ne_of_lt lt)]
      exact (hf b hb).1
  · intro X e1 e2 e3 calm i pins s σ H E I hf st hg
    subst e1 e2 e3
    obtain ⟨z1, z2, ⟨u, v, q, z3⟩, z4, z5, z6⟩ := st
    obtain ⟨xs, ys, zs, qa, qc, qe, l1, l2, l3, hend⟩ := hg
    obtain ⟨ia, ra, pa⟩ := sqB_items I qa
    obtain ⟨ic, rc, pc⟩ := sqB_items I qc
    obtain ⟨ie, re, pe⟩ := sqB_items I qe
    have hd : X.A.in1.handled = none := I.ok.hd calm
    have ea : ia.toArray.size = xs.length := by rw [List.size_toArray, ra.length]
    have ec : ic.toArray.size = ys.length := by rw [List.size_toArray, rc.length]
    have ee : ie.toArray.size = zs.length := by rw [List.size_toArray, re.length]
    refine wpAny_pyNext_zipD3_end sep (draws_b hd ba n a (Nat.ne_of_lt ha) ia.toArray) (draws_b hd bc (n + 1) c (Nat.ne_of_lt (Nat.lt_succ_of_lt hc)) ic.toArray) (draws_b hd be (n + 2) e (Nat.ne_of_lt (Nat.lt_succ_of_lt (Nat.lt_succ_of_lt he))) ie.toArray) z1 z2 z3 ⟨z4, pa⟩ ⟨z5, pc⟩ ⟨z6, pe⟩ (by omega) (by omega) (by omega) (by rw [ea, ec, ee]; exact hend)
      fun h1 tk kp => ⟨rfl, I.turnedL (t' := tk) (ch := zipF3 n) (fun b o hb e => ?_) hf⟩
    simp only [zipF3, List.mem_cons, List.not_mem_nil, or_false, not_or] at hb
    exact kp b o hb.1 hb.2.2.1 hb.2.2.2.1 hb.2.2.2.2.1 hb.2.2.2.2.2 e
  · exact fun A i s Q E st h => wpAny_pyIter_zip st.1 h
def iZip3 (K : PySem.W.Frag) (ba bc be : Bool) (ta : TA) : TI := fun σ H R => ta σ H fun vs H1 => ∃ a c e xs ys zs, vs = [.ref a, .ref c, .ref e] ∧ SqB K ba H1 a xs ∧ SqB K bc H1 c ys ∧ SqB K be H1 e zs ∧ R (Itz3 K ba bc be a c e) H1
theorem vals3 {a b c : V} {us : List Value} (h : Vals [a, b, c] us) : ∃ u v w, us = [u, v, w] ∧ RelV a u ∧ RelV b v ∧ RelV c w := by
  cases h with
  | cons h1 h2 => cases h2 with
    | cons h2 h3 => cases h3 with
      | cons h3 h4 => cases h4; exact ⟨_, _, _, rfl, h1, h2, h3⟩
theorem pi_zip3 {X : Cx} {e e2 e3 : Expr} {ta : TA} {p pos tp : Pos} {es : List Expr} {kk : Nat} (ba bc be : Bool) (gl : Gl X "zip") (hm : X.mg "zip" = none) (hA : PA X [e, e2, e3] ta)
    (s1 : starEach [e, e2, e3] X.env = (false, eval e X.env) :: starEach [e2, e3] X.env) (s2 : (backTo pos (starEach [e2, e3] X.env)).any (·.1) = false) : PI X (.Tuple es kk tp) (.Call (.Name "zip" p) [e, e2, e3] [] pos) (iZip3 X.K ba bc be ta) := ⟨fun pins s σ H R I h => by
  refine Call_ (ld_blt I gl hm PyProof.Rows.boot_zip (PyProof.Rows.callWith_type1 (thn (hA.run pos pins s σ H _ I h) fun us st q => ?_) s1 s2))
  obtain ⟨vs, H1, I1, rv, a, c, d, xs, ys, zs, ev, qa, qc, qd, q⟩ := q
  subst ev
  obtain ⟨u1, u2, u3, eu, r1, r2, r3⟩ := vals3 rv
  subst eu
  have r1 : u1 = .ref a := r1
  have r2 : u2 = .ref c := r2
  have r3 : u3 = .ref d := r3
  subst r1 r2 r3
  obtain ⟨ia, ra, pa⟩ := sqB_items I1 qa
  obtain ⟨ic, rc, pc⟩ := sqB_items I1 qc
  obtain ⟨id', rd, pd⟩ := sqB_items I1 qd
  obtain ⟨o1, B1, w1⟩ := begins_b ba a ia.toArray
  obtain ⟨o2, B2, w2⟩ := begins_b bc c ic.toArray
  obtain ⟨o3, B3, w3⟩ := begins_b be d id'.toArray
  refine zip_begins3 B1 B2 B3 pa pc pd fun h' z1 z2 z3 z4 z5 z6 hz kp => wpAny_pyIter_zip z1 ?_
  exact ⟨_, zipF3 st.heap.objs.size, _, _, H1, rfl, I1.kept (t' := st.toks) kp, turn_zip3 (objB_lt pa) (objB_lt pc) (objB_lt pd), ⟨z1, z2, ⟨_, _, _, z3⟩, w1 _ _ z4, w2 _ _ z5, w3 _ _ z6⟩, fun b hb => by
    have le : st.heap.objs.size ≤ b := by
      simp only [zipF3, List.mem_cons, List.not_mem_nil, or_false] at hb
      rcases hb with e | e | e | e | e | e <;> (rw [e]; first | exact Nat.le_refl _ | exact Nat.le_add_right _ _)
    exact I1.fpOk le (I1.hok.fresh le), q⟩⟩
def zipL3 {α β γ : Type} (l : List α) (m : List β) (n : List γ) : List (T3 α β γ) := (l.zip (m.zip n)).map fun p => ⟨p.1, p.2.1, p.2.2⟩
theorem it_zip3 {X : Cx} {G : List Sl} {σ τ υ α β γ : Type} [Enc α] [Enc β] [Enc γ] [Enc σ] [Enc τ] [Enc υ] [S : SeqD σ α] [T : SeqD τ β] [U : SeqD υ γ] {e e2 e3 : Expr} {N : List Str} {sc : Scope} {fs : Option Scope} {k : Nat} {p pos tpos : Pos} {elts : List Expr} {kk : Nat} {o : Option σ} {o2 : Option τ} {o3 : Option υ}
    (C : Ctx X N sc fs k) (hg : glbB sc "zip" = true) (hm : X.mg "zip" = none) (h : ED X G e o) (h' : ED X G e2 o2) (h'' : ED X G e3 o3)
    (hs : starEach [e, e2, e3] X.env = (false, eval e X.env) :: starEach [e2, e3] X.env := by rfl) (hs1 : starEach [e2, e3] X.env = (false, eval e2 X.env) :: starEach [e3] X.env := by rfl) (hs2 : starEach [e3] X.env = [(false, eval e3 X.env)] := by rfl) (hpl : (backTo pos (starEach [e2, e3] X.env)).any (·.1) = false := by rfl) :
    IT X G (.Tuple elts kk tpos) (.Call (.Name "zip" p) [e, e2, e3] [] pos) (lift3 (fun x y z => zipL3 (S.ls x) (T.ls y) (U.ls z)) o o2 o3) := fun l hl => by
  obtain ⟨t, h1, hl⟩ := bind_get hl
  obtain ⟨u, h2, hl⟩ := bind_get hl
  obtain ⟨v, h3, hl⟩ := bind_get hl
  cases hl
  have pa : PA X [e, e2, e3] (tA X.K G [enc t, enc u, enc v]) := ad_cons h (ad_cons h' (ad_cons h'' ad_nil hs2) hs1) hs _ (by rw [h1, h2, h3]; rfl)
  refine (pi_len (pi_zip3 S.kd T.kd U.kd (glbB_gl C.s hg).1 hm pa hs hpl) fun σ H R R' w ⟨F, I, ps, r, q⟩ => ⟨F, I, ps, r, fun v H' I' g r' d => by obtain ⟨a, b, c, xs, ys, zs, e, z1, z2, z3, q⟩ := q v H' I' g r' d; exact ⟨a, b, c, xs, ys, zs, e, z1, z2, z3, w _ _ q⟩⟩).imp
    fun σ H R ⟨F, I, ps, r, q⟩ => ⟨F, I, ps, r, fun vs H' I' g r' d => ?_⟩
  cases d with
  | cons d1 d2 =>
    cases d2 with
    | cons d2 d3 =>
      cases d3 with
      | cons d3 d4 =>
        cases d4
        obtain ⟨a1, xs, e1, k1, k2⟩ := SeqD.sq (K := X.K) d1
        obtain ⟨a2, ys, e2, k3, k4⟩ := SeqD.sq (K := X.K) d2
        obtain ⟨a3, zs, e3, k5, k6⟩ := SeqD.sq (K := X.K) d3
        subst e1 e2 e3
        have lx : xs.length = (S.ls t).length := by rw [k2.len, List.length_map]
        have ly : ys.length = (T.ls u).length := by rw [k4.len, List.length_map]
        have lz : zs.length = (U.ls v).length := by rw [k6.len, List.length_map]
        have ln : (zipL3 (S.ls t) (T.ls u) (U.ls v)).length = min (S.ls t).length (min (T.ls u).length (U.ls v).length) := by unfold zipL3; rw [List.length_map, List.length_zip, List.length_zip]
        refine ⟨_, _, _, _, _, _, rfl, k1 _ r'.si, k3 _ r'.si, k5 _ r'.si, fun lo => q _ _ I' g r' ⟨fun i d H s hd => ?_, fun H s => ?_⟩ ?_⟩
        · have hi : i < min (S.ls t).length (min (T.ls u).length (U.ls v).length) := by
            have := (List.getElem?_eq_some_iff.mp hd).1
            rw [List.length_map, ln] at this; exact this
          have hx : (S.ls t)[i]? = some ((S.ls t)[i]'(by omega)) := List.getElem?_eq_getElem (by omega)
          have hy : (T.ls u)[i]? = some ((T.ls u)[i]'(by omega)) := List.getElem?_eq_getElem (by omega)
          have hz : (U.ls v)[i]? = some ((U.ls v)[i]'(by omega)) := List.getElem?_eq_getElem (by omega)
          generalize ((S.ls t)[i]'(by omega)) = x0 at hx
          generalize ((T.ls u)[i]'(by omega)) = y0 at hy
          generalize ((U.ls v)[i]'(by omega)) = z0 at hz
          have e0 : (zipL3 (S.ls t) (T.ls u) (U.ls v))[i]? = some ⟨x0, y0, z0⟩ := by
            unfold zipL3
            have ez : ((T.ls u).zip (U.ls v))[i]? = some (y0, z0) := List.getElem?_zip_eq_some.mpr ⟨hy, hz⟩
            have ex : ((S.ls t).zip ((T.ls u).zip (U.ls v)))[i]? = some (x0, (y0, z0)) := List.getElem?_zip_eq_some.mpr ⟨hx, ez⟩
            rw [List.getElem?_map, ex]
            rfl
          rw [List.getElem?_map, e0] at hd
          have hd := Option.some.inj hd
          subst hd
          obtain ⟨v1, hv, dv⟩ := k2.at (show ((S.ls t).map enc)[i]? = some (enc x0) by rw [List.getElem?_map, hx]; rfl)
          obtain ⟨w1, hw, dw⟩ := k4.at (show ((T.ls u).map enc)[i]? = some (enc y0) by rw [List.getElem?_map, hy]; rfl)
          obtain ⟨z1, hzz, dz⟩ := k6.at (show ((U.ls v).map enc)[i]? = some (enc z0) by rw [List.getElem?_map, hz]; rfl)
          refine ⟨⟨_, _, _, v1, w1, z1, k1 _ s, k3 _ s, k5 _ s, hv, hw, hzz⟩, fun x H' y => ?_⟩
          obtain ⟨T', b1, b2, b3, f1, f2, f3, f4, f5, f6⟩ := y
          have f4 := f4 _ (k1 _ s)
          have f5 := f5 _ (k3 _ s)
          have f6 := f6 _ (k5 _ s)
          rw [hv] at f4; cases f4
          rw [hw] at f5; cases f5
          rw [hzz] at f6; cases f6
          subst f1
          have m := same_upd (o := HO.tup [v1, w1, z1]) (s.free f2)
          exact .inr ⟨T', _, f2, f3, .tup (.inl upd_same) (.cons (Dq_mono m _ _ dv) (.cons (Dq_mono m _ _ dw) (.cons (Dq_mono m _ _ dz) .nil)))⟩
        · rw [List.length_map, ln]
          exact ⟨_, _, _, k1 _ s, k3 _ s, k5 _ s, by omega, by omega, by omega, by omega⟩
        · rw [List.length_map, ln]
          have : xs.length ≤ sizeLine := by
            have := k1 _ r'.si
            cases hk : S.kd with
            | true => rw [hk] at this; exact (lo _ _).2 this
            | false => rw [hk] at this; exact (lo _ _).1 this
          omega
end Lay
namespace Lay
open PySem PySem.Spec PyProof.Rows L2
open Lay.Enc (enc)
/-! ### pairs that are stored in order: constants, cells -/
theorem sw_const {t1 t2 a b : Expr} {kt k2 : Nat} {pt pt2 : Pos} {env : Env} (h : [a, b].all (foldedForSure 8) = true) : swappedStores [.Tuple [t1, t2] kt pt] (.Tuple [a, b] k2 pt2) env = pure none := by
  unfold swappedStores
  simp only []
  split
  · rfl
  · split
    · rfl
    · split
      · rfl
      · first | rfl | rw [if_pos h]
theorem sw_cellP {X : Cx} {N : List Str} {sc : Scope} {fs : Option Scope} {k : Nat} {x y : Str} {a b : Expr} {px py pt pt2 : Pos} {kt k2 : Nat} (C : Ctx X N sc fs k) (h : (sc.names.lookup x = some .cell || sc.names.lookup y = some .cell) = true) :
    swappedStores [.Tuple [.Name x px, .Name y py] kt pt] (.Tuple [a, b] k2 pt2) X.env = pure none := by
  have h' : X.env.kindOf x = some .cell ∨ X.env.kindOf y = some .cell := by
    have e1 : X.env.kindOf x = sc.names.lookup x := by rw [← C.s]; rfl
    have e2 : X.env.kindOf y = sc.names.lookup y := by rw [← C.s]; rfl
    rw [e1, e2]
    simpa using h
  unfold swappedStores
  simp only []
  split
  · rfl
  · split
    · rfl
    · rw [if_pos]
      have nc : (some NameKind.cell == some NameKind.local) = false := by decide
      rcases h' with h' | h'
      · simp only [List.filterMap_cons, List.filterMap_nil, h', nc, Bool.false_and]
        simp only [Bool.false_eq_true, if_false, List.length_cons, List.length_nil]
        split <;> simp
      · simp only [List.filterMap_cons, List.filterMap_nil, h', nc, Bool.false_and]
        simp only [Bool.false_eq_true, if_false, List.length_cons, List.length_nil]
        split <;> simp
end Lay

set_option Elab.async false
set_option linter.all false
set_option maxRecDepth 100000
/-! LayF: fractions in lowest terms. -/
namespace Lay
open PySem PySem.Spec PyProof.Rows L2
open Lay.Enc (enc)
/-! ### fractions -/
abbrev Q := T2 Int Int
def frac (n d : Int) : Q := ⟨n / gcdI n d, d / gcdI n d⟩
theorem gcd_pos {n d : Int} (h : 0 < d) : 0 < gcdI n d := by
  unfold gcdI
  have : 0 < Nat.gcd n.natAbs d.natAbs := Nat.gcd_pos_of_pos_right _ (by omega)
  omega
theorem gcd_dvd {n d : Int} : (∃ a, n = gcdI n d * a) ∧ ∃ b, d = gcdI n d * b := by
  unfold gcdI
  exact ⟨Int.dvd_def .. ▸ Int.ofNat_dvd_left.mpr (Nat.gcd_dvd_left _ _), Int.dvd_def .. ▸ Int.ofNat_dvd_left.mpr (Nat.gcd_dvd_right _ _)⟩
theorem gcd_scale {n d c : Int} (h : 0 < c) : gcdI (n * c) (d * c) = gcdI n d * c := by
  unfold gcdI
  rw [Int.natAbs_mul, Int.natAbs_mul, Nat.gcd_mul_right, Int.natCast_mul]
  congr 1
  omega
theorem frac_scale {n d c : Int} (h : 0 < c) : frac (n * c) (d * c) = frac n d := by
  unfold frac
  rw [gcd_scale h, Int.mul_ediv_mul_of_pos_left _ _ h, Int.mul_ediv_mul_of_pos_left _ _ h]
theorem frac_eq {n d n' d' : Int} (h : 0 < d) (h' : 0 < d') (e : n * d' = n' * d) : frac n d = frac n' d' := by
  rw [← frac_scale (n := n) (d := d) h', ← frac_scale (n := n') (d := d') h, e, Int.mul_comm d d']
theorem frac_facts {n d : Int} (h : 0 < d) : 0 < (frac n d).b ∧ (frac n d).b ≤ d ∧ (frac n d).a * d = n * (frac n d).b ∧ (frac n d).a.natAbs ≤ n.natAbs := by
  obtain ⟨⟨a, ha⟩, ⟨b, hb⟩⟩ := gcd_dvd (n := n) (d := d)
  have g := gcd_pos (n := n) h
  have e1 : (frac n d).a = a := by
    show n / gcdI n d = a
    conv => lhs; rw [ha]
    have : gcdI (gcdI n d * a) d = gcdI n d := by rw [← ha]
    rw [this, Int.mul_ediv_cancel_left _ (by omega)]
  have e2 : (frac n d).b = b := by
    show d / gcdI n d = b
    conv => lhs; rw [hb]
    have : gcdI n (gcdI n d * b) = gcdI n d := by rw [← hb]
    rw [this, Int.mul_ediv_cancel_left _ (by omega)]
  rw [e1, e2]
  generalize gcdI n d = G at *
  have hb0 : 0 < b := by
    apply Int.pos_of_mul_pos_left (b := G) (by rw [Int.mul_comm, ← hb]; exact h) (by omega) <;> skip
  refine ⟨hb0, ?_, ?_, ?_⟩
  · rw [hb]
    have := Int.mul_le_mul_of_nonneg_right (show 1 ≤ G by omega) (show 0 ≤ b by omega)
    omega
  · rw [ha, hb]
    simp only [Int.mul_assoc, Int.mul_comm, Int.mul_left_comm]
  · rw [ha, Int.natAbs_mul]
    exact Nat.le_mul_of_pos_left _ (by omega)
theorem gcd_le {n d : Int} (h : 0 < d) : gcdI n d ≤ d := by
  unfold gcdI
  have := Nat.gcd_le_right n.natAbs (n := d.natAbs) (by omega)
  omega
/-- small enough for all guards -/
def Sm (q : Q) : Prop := q.a.natAbs < 2 ^ 30 ∧ 0 < q.b ∧ q.b < 2 ^ 30
theorem sm_frac {x d : Int} (h : 0 < d) (h2 : d < 2 ^ 30) (hx : x.natAbs < 2 ^ 30) : Sm (frac x d) := by
  obtain ⟨h1, h3, h4, h5⟩ := frac_facts (n := x) h
  exact ⟨by omega, h1, by omega⟩
theorem sm_mul {p q : Q} (hp : Sm p) (hq : Sm q) : MulOk p.a q.b ∧ MulOk q.a p.b ∧ MulOk p.b q.b ∧ MulOk p.a q.a ∧ MulOk q.b p.b ∧ MulOk p.b q.a := by
  obtain ⟨a1, a2, a3⟩ := hp
  obtain ⟨b1, b2, b3⟩ := hq
  refine ⟨mulOk ?_ ?_, mulOk ?_ ?_, mulOk ?_ ?_, mulOk ?_ ?_, mulOk ?_ ?_, mulOk ?_ ?_⟩ <;> omega
theorem sm_prod {p q : Q} (hp : Sm p) (hq : Sm q) : 0 < p.b * q.b ∧ p.b * q.b < 2 ^ 60 := by
  obtain ⟨a1, a2, a3⟩ := hp
  obtain ⟨b1, b2, b3⟩ := hq
  refine ⟨Int.mul_pos a2 b2, ?_⟩
  have h1 := Int.mul_le_mul (show p.b ≤ 2 ^ 30 - 1 by omega) (show q.b ≤ 2 ^ 30 - 1 by omega) (by omega) (by decide)
  have : ((2 : Int) ^ 30 - 1) * (2 ^ 30 - 1) < 2 ^ 60 := by decide
  omega
theorem frac_b_pos {x d : Int} (h : 0 < d) : 0 < (frac x d).b := (frac_facts h).1
theorem frac_add {x y d : Int} (h : 0 < d) : frac ((frac x d).a * (frac y d).b + (frac y d).a * (frac x d).b) ((frac x d).b * (frac y d).b) = frac (x + y) d := by
  obtain ⟨h1, _, h3, _⟩ := frac_facts (n := x) h
  obtain ⟨h4, _, h6, _⟩ := frac_facts (n := y) h
  refine frac_eq (Int.mul_pos h1 h4) h ?_
  generalize (frac x d).a = a at *
  generalize (frac x d).b = b at *
  generalize (frac y d).a = c at *
  generalize (frac y d).b = e at *
  rw [Int.add_mul, Int.add_mul, Int.mul_right_comm a, h3, Int.mul_right_comm c, h6, Int.mul_right_comm x, Int.mul_assoc x, Int.mul_assoc y, Int.mul_comm e b]
theorem frac_sub {x y d : Int} (h : 0 < d) : frac ((frac x d).a * (frac y d).b - (frac y d).a * (frac x d).b) ((frac x d).b * (frac y d).b) = frac (x - y) d := by
  obtain ⟨h1, _, h3, _⟩ := frac_facts (n := x) h
  obtain ⟨h4, _, h6, _⟩ := frac_facts (n := y) h
  refine frac_eq (Int.mul_pos h1 h4) h ?_
  generalize (frac x d).a = a at *
  generalize (frac x d).b = b at *
  generalize (frac y d).a = c at *
  generalize (frac y d).b = e at *
  rw [Int.sub_mul, Int.sub_mul, Int.mul_right_comm a, h3, Int.mul_right_comm c, h6, Int.mul_right_comm x, Int.mul_assoc x, Int.mul_assoc y, Int.mul_comm e b]
theorem frac_mul {x y d e : Int} (h : 0 < d) (h' : 0 < e) : frac ((frac x d).a * (frac y e).a) ((frac x d).b * (frac y e).b) = frac (x * y) (d * e) := by
  obtain ⟨h1, _, h3, _⟩ := frac_facts (n := x) h
  obtain ⟨h4, _, h6, _⟩ := frac_facts (n := y) h'
  refine frac_eq (Int.mul_pos h1 h4) (Int.mul_pos h h') ?_
  generalize (frac x d).a = a at *
  generalize (frac x d).b = b at *
  generalize (frac y e).a = c at *
  generalize (frac y e).b = f at *
  calc a * c * (d * e) = (a * d) * (c * e) := by simp only [Int.mul_assoc, Int.mul_comm, Int.mul_left_comm]
    _ = (x * b) * (y * f) := by rw [h3, h6]
    _ = x * y * (b * f) := by simp only [Int.mul_assoc, Int.mul_comm, Int.mul_left_comm]
theorem frac_lt {x y d e : Int} (h : 0 < d) (h' : 0 < e) : ((frac x d).a * (frac y e).b < (frac y e).a * (frac x d).b) ↔ x * e < y * d := by
  obtain ⟨h1, _, h3, _⟩ := frac_facts (n := x) h
  obtain ⟨h4, _, h6, _⟩ := frac_facts (n := y) h'
  generalize (frac x d).a = a at *
  generalize (frac x d).b = b at *
  generalize (frac y e).a = c at *
  generalize (frac y e).b = f at *
  have de := Int.mul_pos h h'
  have bf := Int.mul_pos h1 h4
  have k1 : a * f * (d * e) < c * b * (d * e) ↔ a * f < c * b := Int.mul_lt_mul_right de
  have k2 : x * e * (b * f) < y * d * (b * f) ↔ x * e < y * d := Int.mul_lt_mul_right bf
  have e1 : a * f * (d * e) = x * e * (b * f) := by
    calc a * f * (d * e) = (a * d) * (f * e) := by simp only [Int.mul_assoc, Int.mul_comm, Int.mul_left_comm]
      _ = (x * b) * (f * e) := by rw [h3]
      _ = x * e * (b * f) := by simp only [Int.mul_assoc, Int.mul_comm, Int.mul_left_comm]
  have e2 : c * b * (d * e) = y * d * (b * f) := by
    calc c * b * (d * e) = (c * e) * (b * d) := by simp only [Int.mul_assoc, Int.mul_comm, Int.mul_left_comm]
      _ = (y * f) * (b * d) := by rw [h6]
      _ = y * d * (b * f) := by simp only [Int.mul_assoc, Int.mul_comm, Int.mul_left_comm]
  rw [← k1, ← k2, e1, e2]
theorem frac_lt_same {x y d : Int} (h : 0 < d) : ((frac x d).a * (frac y d).b < (frac y d).a * (frac x d).b) ↔ x < y := by
  rw [frac_lt h h]; exact Int.mul_lt_mul_right h
theorem frac_whole (n : Int) : frac n 1 = ⟨n, 1⟩ := by
  unfold frac gcdI
  simp
theorem whole_eq {n d : Int} (h : 0 < d) : (⟨n, 1⟩ : Q) = frac (n * d) d := by
  rw [← frac_whole]
  exact frac_eq (by decide) h (by rw [Int.mul_one])
theorem frac_gcd {x d : Int} (h : 0 < d) : gcdI (frac x d).a (frac x d).b = 1 := by
  obtain ⟨⟨a, ha⟩, ⟨b, hb⟩⟩ := gcd_dvd (n := x) (d := d)
  have g := gcd_pos (n := x) h
  obtain ⟨f1, f2, f3, f4⟩ := frac_facts (n := x) h
  have s := gcd_scale (n := (frac x d).a) (d := (frac x d).b) g
  have e1 : (frac x d).a * gcdI x d = x := by
    show x / gcdI x d * gcdI x d = x
    exact Int.ediv_mul_cancel ⟨a, ha⟩
  have e2 : (frac x d).b * gcdI x d = d := by
    show d / gcdI x d * gcdI x d = d
    exact Int.ediv_mul_cancel ⟨b, hb⟩
  rw [e1, e2] at s
  have : 1 * gcdI x d = gcdI (frac x d).a (frac x d).b * gcdI x d := by rw [Int.one_mul]; exact s
  exact (Int.eq_of_mul_eq_mul_right (by omega) this).symm
theorem frac_nonneg {x d : Int} (h : 0 < d) : 0 ≤ (frac x d).a ↔ 0 ≤ x := by
  obtain ⟨f1, f2, f3, f4⟩ := frac_facts (n := x) h
  constructor
  · intro q
    have : 0 ≤ (frac x d).a * d := Int.mul_nonneg q (by omega)
    rw [f3] at this
    by_cases c : 0 ≤ x
    · exact c
    · have : x * (frac x d).b < 0 := Int.mul_neg_of_neg_of_pos (by omega) f1
      omega
  · intro q
    by_cases c : 0 ≤ (frac x d).a
    · exact c
    · have : (frac x d).a * d < 0 := Int.mul_neg_of_neg_of_pos (by omega) h
      have : 0 ≤ x * (frac x d).b := Int.mul_nonneg q (by omega)
      omega
theorem frac_le_one {x d : Int} (h : 0 < d) : (frac x d).a ≤ (frac x d).b ↔ x ≤ d := by
  have k := frac_lt (x := d) (y := x) (d := d) (e := d) h h
  have e1 : frac d d = ⟨1, 1⟩ := by rw [← frac_whole]; exact frac_eq h (by decide) (by omega)
  rw [e1] at k
  have k2 : d * d < x * d ↔ d < x := Int.mul_lt_mul_right h
  rw [k2] at k
  simp only [Int.one_mul, Int.mul_one] at k
  omega
end Lay

set_option Elab.async false
set_option linter.all false
set_option maxRecDepth 100000
/-! LayN: more plain facts: two-clause comprehensions, enumerations, dot products, boxes of tuples. -/
namespace Lay
open PySem PySem.Spec PyProof.Rows L2
open Lay.Enc (enc)
section
variable {α β γ : Type}
theorem lc2L_map {oi : α → Option (List β)} {oe : α → β → Option γ} {I : α → List β} {f : α → β → γ} : ∀ {l : List α}, (∀ x, x ∈ l → oi x = some (I x)) → (∀ x, x ∈ l → ∀ y, y ∈ I x → oe x y = some (f x y)) →
    lc2L (fun _ => some true) oi (fun _ _ => some true) oe l = some (l.flatMap fun x => (I x).map (f x))
  | [], _, _ => rfl
  | x :: xs, h1, h2 => by
    have ih := lc2L_map (l := xs) (fun y hy => h1 y (by simp [hy])) (fun y hy => h2 y (by simp [hy]))
    unfold lc2L
    rw [Option.bind_some, cond_true, h1 x (by simp), Option.bind_some, lcL_map (fun y hy => h2 x (by simp) y hy), Option.bind_some, ih]
    rfl
theorem ok_lc2 {oi : α → Option (List β)} {oe : α → β → Option γ} {P : List γ → Prop} (I : α → List β) (f : α → β → γ) {l : List α} (h1 : ∀ x, x ∈ l → oi x = some (I x)) (h2 : ∀ x, x ∈ l → ∀ y, y ∈ I x → oe x y = some (f x y)) (p : P (l.flatMap fun x => (I x).map (f x))) :
    Ok (lc2L (fun _ => some true) oi (fun _ _ => some true) oe l) P := ⟨_, lc2L_map h1 h2, p⟩
theorem enum_at {l : List α} {i : Nat} {y : T2 Int α} (h : (enumL l)[i]? = some y) : y.a = i ∧ l[i]? = some y.b := by
  unfold enumL at h
  rw [List.getElem?_zipWith] at h
  by_cases c : i < l.length
  · rw [List.getElem?_range c, List.getElem?_eq_getElem c] at h
    cases h
    exact ⟨rfl, List.getElem?_eq_getElem c⟩
  · rw [List.getElem?_eq_none (by rw [List.length_range]; omega)] at h
    cases h
theorem enum_len {l : List α} : (enumL l).length = l.length := by
  unfold enumL
  rw [List.length_zipWith, List.length_range, Nat.min_self]
theorem enum_mem {l : List α} {y : T2 Int α} (h : y ∈ enumL l) : y.b ∈ l ∧ 0 ≤ y.a ∧ y.a < l.length := by
  obtain ⟨i, hi, e⟩ := List.mem_iff_getElem.mp h
  have h' : (enumL l)[i]? = some y := by rw [List.getElem?_eq_getElem hi, e]
  obtain ⟨a, b⟩ := enum_at h'
  rw [enum_len] at hi
  exact ⟨List.mem_of_getElem? b, by omega, by omega⟩
theorem ok_app5 {δ ε ζ : Type} {m : α → β → γ → δ → ε → Option ζ} {a : Option α} {b : Option β} {c : Option γ} {d : Option δ} {e : Option ε} {P : ζ → Prop} : Ok (app5 m a b c d e) P ↔ Ok a fun x => Ok b fun y => Ok c fun z => Ok d fun w => Ok e fun v => Ok (m x y z w v) P := by unfold app5; simp only [ok_bind]
/-- a loop that only looks -/
theorem ok_look {R B : Type} {step : Unit → α → Option (Out Unit Unit R)} {P : Out Unit B R → Prop} {l : List α} (hs : ∀ x, x ∈ l → Ok (step () x) (Nx fun _ => True)) (hk : P (.nx ())) : Ok (forL step () l) P :=
  ok_for (fun _ _ => True) trivial (fun i s x hx _ => hs x (List.mem_of_getElem? hx)) fun s _ => hk
end
/-! ### sums of products -/
def dot (r t : List Int) : Int := (List.zipWith (· * ·) r t).sum
theorem dot_by {r t : List Int} (h : r.length = t.length) : ((rngL 0 r.length).map fun k => r.getD k.toNat 0 * t.getD k.toNat 0).sum = dot r t := by
  unfold dot
  congr 1
  apply List.ext_getElem?
  intro i
  unfold rngL
  rw [List.map_map, List.getElem?_map, List.getElem?_zipWith]
  by_cases c : i < r.length
  · have c2 : i < t.length := by omega
    rw [List.getElem?_range c, List.getElem?_eq_getElem c, List.getElem?_eq_getElem c2]
    simp [c, c2]
  · rw [List.getElem?_eq_none (by rw [List.length_range]; omega), List.getElem?_eq_none (by omega)]
    rfl
theorem zip_dot {r t : List Int} : ((zipL r t).map fun p => p.a * p.b).sum = dot r t := by
  unfold dot zipL
  congr 1
  rw [List.map_zipWith]
theorem zip_mem {α β : Type} {l : List α} {m : List β} {p : T2 α β} (h : p ∈ zipL l m) : p.a ∈ l ∧ p.b ∈ m := by
  unfold zipL at h
  obtain ⟨i, hi, e⟩ := List.mem_iff_getElem.mp h
  rw [List.length_zipWith] at hi
  rw [List.getElem_zipWith] at e
  subst e
  exact ⟨List.getElem_mem _, List.getElem_mem _⟩
theorem dot_bound {A B : Nat} : ∀ {r t : List Int}, (∀ x, x ∈ r → x.natAbs ≤ A) → (∀ x, x ∈ t → x.natAbs ≤ B) → (dot r t).natAbs ≤ r.length * (A * B)
  | [], _, _, _ => by simp [dot]
  | _ :: _, [], _, _ => by simp [dot]
  | x :: r, y :: t, h1, h2 => by
    have ih := dot_bound (A := A) (B := B) (r := r) (t := t) (fun z hz => h1 z (by simp [hz])) (fun z hz => h2 z (by simp [hz]))
    have hx := h1 x (by simp)
    have hy := h2 y (by simp)
    have hm : (x * y).natAbs ≤ A * B := by rw [Int.natAbs_mul]; exact Nat.mul_le_mul hx hy
    have e : dot (x :: r) (y :: t) = x * y + dot r t := by unfold dot; simp
    rw [e, List.length_cons, Nat.add_mul, Nat.one_mul]
    omega
/-! ### all tuples below tops -/
def boxStep (f : List (Tup Int)) (top : Int) : List (Tup Int) := f.flatMap fun t => (rngL 0 (top + 1).toNat).map fun x => ⟨t.l ++ [x]⟩
def box (tops : List Int) : List (Tup Int) := tops.foldl boxStep [⟨[]⟩]
theorem box_take {l : List Int} {i : Nat} {x : Int} (h : l[i]? = some x) : box (l.take (i + 1)) = boxStep (box (l.take i)) x := by
  unfold box
  rw [List.take_add_one, h, List.foldl_append]
  rfl
def inBox : List Int → List Int → Prop
  | [], [] => True
  | x :: xs, t :: ts => 0 ≤ x ∧ x ≤ t ∧ inBox xs ts
  | _, _ => False
theorem inBox_len : ∀ {xs ts : List Int}, inBox xs ts → xs.length = ts.length
  | [], [], _ => rfl
  | _ :: _, _ :: _, h => by simp [inBox_len h.2.2]
  | [], _ :: _, h => h.elim
  | _ :: _, [], h => h.elim
theorem inBox_snoc : ∀ {xs ts : List Int} {x t : Int}, inBox (xs ++ [x]) (ts ++ [t]) ↔ inBox xs ts ∧ 0 ≤ x ∧ x ≤ t
  | [], [], x, t => by simp [inBox]
  | a :: xs, b :: ts, x, t => by
    show (0 ≤ a ∧ a ≤ b ∧ inBox (xs ++ [x]) (ts ++ [t])) ↔ (0 ≤ a ∧ a ≤ b ∧ inBox xs ts) ∧ 0 ≤ x ∧ x ≤ t
    rw [inBox_snoc]
    constructor
    · rintro ⟨h1, h2, h3, h4⟩; exact ⟨⟨h1, h2, h3⟩, h4⟩
    · rintro ⟨⟨h1, h2, h3⟩, h4⟩; exact ⟨h1, h2, h3, h4⟩
  | [], b :: ts, x, t => by
    cases ts with
    | nil => simp [inBox]
    | cons c ts => simp [inBox]
  | a :: xs, [], x, t => by
    cases xs with
    | nil => simp [inBox]
    | cons c ts => simp [inBox]
theorem inBox_mem {T : Int} : ∀ {xs ts : List Int}, inBox xs ts → (∀ t, t ∈ ts → t ≤ T) → ∀ x, x ∈ xs → 0 ≤ x ∧ x ≤ T
  | [], _, _, _, x, h => by simp at h
  | a :: xs, [], h, _, _, _ => h.elim
  | a :: xs, b :: ts, h, ht, x, hx => by
    rw [List.mem_cons] at hx
    rcases hx with rfl | hx
    · have := ht b (by simp); exact ⟨h.1, by have := h.2.1; omega⟩
    · exact inBox_mem h.2.2 (fun t h => ht t (by simp [h])) x hx
theorem mem_box : ∀ (n : Nat) (ts : List Int), ts.length = n → (∀ t, t ∈ ts → 0 ≤ t) → ∀ (xs : Tup Int), xs ∈ box ts ↔ inBox xs.l ts := by
  intro n
  induction n with
  | zero =>
    intro ts hl _ xs
    have : ts = [] := List.eq_nil_of_length_eq_zero hl
    subst this
    obtain ⟨l⟩ := xs
    cases l with
    | nil => simp [box, inBox]
    | cons a l => simp [box, inBox]
  | succ n ih =>
    intro ts hl h0 xs
    have hne : ts ≠ [] := by intro c; subst c; simp at hl
    rw [← List.dropLast_concat_getLast hne]
    have hd : ts.dropLast.length = n := by rw [List.length_dropLast]; omega
    have h1 : ∀ t, t ∈ ts.dropLast → 0 ≤ t := fun t ht => h0 t ((List.dropLast_sublist ts).subset ht)
    have hg : 0 ≤ ts.getLast hne := h0 _ (List.getLast_mem hne)
    have ih := ih ts.dropLast hd h1
    generalize ts.dropLast = ds at *
    generalize ts.getLast hne = t at *
    have e : box (ds ++ [t]) = boxStep (box ds) t := by unfold box; rw [List.foldl_append]; rfl
    rw [e]
    unfold boxStep
    rw [List.mem_flatMap]
    constructor
    · rintro ⟨u, hu, hx⟩
      obtain ⟨x, hx1, rfl⟩ := List.mem_map.mp hx
      have hx2 := mem_rng.mp hx1
      exact inBox_snoc.mpr ⟨(ih u).mp hu, by omega, by omega⟩
    · intro h
      obtain ⟨l⟩ := xs
      have hl : l.length = ds.length + 1 := by have := inBox_len h; simpa using this
      have hn : l ≠ [] := by intro c; subst c; simp at hl
      rw [← List.dropLast_concat_getLast hn] at h ⊢
      obtain ⟨a, b, c⟩ := inBox_snoc.mp h
      exact ⟨⟨l.dropLast⟩, (ih ⟨l.dropLast⟩).mpr a, List.mem_map.mpr ⟨l.getLast hn, mem_rng.mpr ⟨b, by omega⟩, rfl⟩⟩
theorem box_len {T : Nat} : ∀ (n : Nat) (ts : List Int), ts.length = n → (∀ t, t ∈ ts → 0 ≤ t ∧ t ≤ T) → (box ts).length ≤ (T + 1) ^ n := by
  intro n
  induction n with
  | zero =>
    intro ts hl _
    have : ts = [] := List.eq_nil_of_length_eq_zero hl
    subst this
    exact Nat.le_refl _
  | succ n ih =>
    intro ts hl h0
    have hne : ts ≠ [] := by intro c; subst c; simp at hl
    rw [← List.dropLast_concat_getLast hne]
    have ih := ih ts.dropLast (by rw [List.length_dropLast]; omega) fun t ht => h0 t ((List.dropLast_sublist ts).subset ht)
    have hg := h0 _ (List.getLast_mem hne)
    generalize ts.dropLast = ds at *
    generalize ts.getLast hne = t at *
    have e : box (ds ++ [t]) = boxStep (box ds) t := by unfold box; rw [List.foldl_append]; rfl
    rw [e]
    unfold boxStep
    rw [List.length_flatMap]
    have key : ∀ l : List (Tup Int), (l.map fun u => ((rngL 0 (t + 1).toNat).map fun x => (⟨u.l ++ [x]⟩ : Tup Int)).length).sum ≤ l.length * (T + 1) := by
      intro l
      induction l with
      | nil => simp
      | cons u l ih2 =>
        rw [List.map_cons, List.sum_cons, List.length_cons, List.length_map, rng_len, Nat.add_mul, Nat.one_mul]
        omega
    refine Nat.le_trans (key _) ?_
    rw [Nat.pow_succ]
    exact Nat.mul_le_mul_right _ ih
instance {α β γ : Type} [Enc α] [Enc β] [Enc γ] [S : Rp α] [T : Rp β] [U : Rp γ] : Rp (T3 α β γ) := ⟨fun t => S.len t.a + T.len t.b + U.len t.c + 9, fun t => S.sm t.a ∧ T.sm t.b ∧ U.sm t.c, fun t h => by
  obtain ⟨h1, h2⟩ := S.ok t.a h.1
  obtain ⟨h3, h4⟩ := T.ok t.b h.2.1
  obtain ⟨h5, h6⟩ := U.ok t.c h.2.2
  refine ⟨?_, ?_⟩
  · show ((enc t.a : PyData).showable && ((enc t.b : PyData).showable && ((enc t.c : PyData).showable && true))) = true
    rw [h1, h3, h5]; rfl
  · have := tupleText_len_le [(enc t.a : PyData).shown, (enc t.b : PyData).shown, (enc t.c : PyData).shown]
    show (tupleText [(enc t.a : PyData).shown, (enc t.b : PyData).shown, (enc t.c : PyData).shown]).length ≤ _
    simp only [List.map_cons, List.map_nil, List.sum_cons, List.sum_nil, List.length_cons, List.length_nil] at this
    omega⟩
instance {α β γ δ : Type} [Enc α] [Enc β] [Enc γ] [Enc δ] [S : Rp α] [T : Rp β] [U : Rp γ] [V : Rp δ] : Rp (T4 α β γ δ) := ⟨fun t => S.len t.a + T.len t.b + U.len t.c + V.len t.d + 11, fun t => S.sm t.a ∧ T.sm t.b ∧ U.sm t.c ∧ V.sm t.d, fun t h => by
  obtain ⟨h1, h2⟩ := S.ok t.a h.1
  obtain ⟨h3, h4⟩ := T.ok t.b h.2.1
  obtain ⟨h5, h6⟩ := U.ok t.c h.2.2.1
  obtain ⟨h7, h8⟩ := V.ok t.d h.2.2.2
  refine ⟨?_, ?_⟩
  · show ((enc t.a : PyData).showable && ((enc t.b : PyData).showable && ((enc t.c : PyData).showable && ((enc t.d : PyData).showable && true)))) = true
    rw [h1, h3, h5, h7]; rfl
  · have := tupleText_len_le [(enc t.a : PyData).shown, (enc t.b : PyData).shown, (enc t.c : PyData).shown, (enc t.d : PyData).shown]
    show (tupleText [(enc t.a : PyData).shown, (enc t.b : PyData).shown, (enc t.c : PyData).shown, (enc t.d : PyData).shown]).length ≤ _
    simp only [List.map_cons, List.map_nil, List.sum_cons, List.sum_nil, List.length_cons, List.length_nil] at this
    omega⟩
/-- how long a text of data may be, with all in it small -/
def RB {α : Type} [Enc α] [S : Rp α] (x : α) (n : Nat) : Prop := S.sm x ∧ S.len x ≤ n
theorem rb_repr {α : Type} [Enc α] [S : Rp α] {x : α} {n : Nat} (h : RB x n) (hn : n ≤ 16777216) : reprD (enc x) = some (enc x : PyData).shown := repr_ok h.1 (Nat.le_trans h.2 hn)
theorem rb_bits {i : Int} {k : Nat} (h : i.natAbs < 2 ^ k) (hk : k < 1900) : RB i (k + 3) := by
  have : i.natAbs.log2 ≤ k := by
    by_cases c : i.natAbs = 0
    · rw [c]; simp
    · exact Nat.le_of_lt ((Nat.log2_lt c).mpr h)
  exact ⟨show i.natAbs.log2 < 1900 by omega, show i.natAbs.log2 + 3 ≤ k + 3 by omega⟩
theorem rb_int {i : Int} (h : i.natAbs < 2 ^ 30) : RB i 33 := rb_bits h (by decide)
theorem rb_list {α : Type} [Enc α] [S : Rp α] {l : List α} {c n : Nat} (hl : l.length ≤ n) (h : ∀ x, x ∈ l → RB x c) : RB l (n * (c + 2) + 3) := by
  refine ⟨fun x hx => (h x hx).1, ?_⟩
  have h1 := len_list (α := α) c l fun x hx => (h x hx).2
  have h2 := Nat.mul_le_mul_right (c + 2) hl
  omega
theorem rb_tup {α : Type} [Enc α] [S : Rp α] {l : Tup α} {c n : Nat} (hl : l.l.length ≤ n) (h : ∀ x, x ∈ l.l → RB x c) : RB l (n * (c + 2) + 3) := rb_list (l := l.l) hl h
theorem rb_t2 {α β : Type} [Enc α] [Enc β] [S : Rp α] [T : Rp β] {t : T2 α β} {m n : Nat} (h1 : RB t.a m) (h2 : RB t.b n) : RB t (m + n + 7) := ⟨⟨h1.1, h2.1⟩, by
  have a := h1.2
  have b := h2.2
  show S.len t.a + T.len t.b + 7 ≤ _
  omega⟩
theorem rb_t3 {α β γ : Type} [Enc α] [Enc β] [Enc γ] [S : Rp α] [T : Rp β] [U : Rp γ] {t : T3 α β γ} {m n o : Nat} (h1 : RB t.a m) (h2 : RB t.b n) (h3 : RB t.c o) : RB t (m + n + o + 9) := ⟨⟨h1.1, h2.1, h3.1⟩, by
  have a := h1.2
  have b := h2.2
  have c := h3.2
  show S.len t.a + T.len t.b + U.len t.c + 9 ≤ _
  omega⟩
theorem rb_t4 {α β γ δ : Type} [Enc α] [Enc β] [Enc γ] [Enc δ] [S : Rp α] [T : Rp β] [U : Rp γ] [V : Rp δ] {t : T4 α β γ δ} {m n o p : Nat} (h1 : RB t.a m) (h2 : RB t.b n) (h3 : RB t.c o) (h4 : RB t.d p) : RB t (m + n + o + p + 11) := ⟨⟨h1.1, h2.1, h3.1, h4.1⟩, by
  have a := h1.2
  have b := h2.2
  have c := h3.2
  have d := h4.2
  show S.len t.a + T.len t.b + U.len t.c + V.len t.d + 11 ≤ _
  omega⟩
theorem rb_opt {α : Type} [Enc α] [S : Rp α] {o : Option α} {n : Nat} (hn : 4 ≤ n) (h : ∀ x, o = some x → RB x n) : RB o n := ⟨fun x hx => (h x hx).1, by
  cases o with
  | none => exact hn
  | some x => exact (h x rfl).2⟩
end Lay

set_option Elab.async false
set_option linter.all false
set_option maxRecDepth 100000
/-! LayW: data whose lists are new; what is spoilt by a store. -/
namespace Lay
open PySem PySem.Spec PyProof.Rows L2
open Lay.Enc (enc)

/-! ### new lists -/
theorem rgN_tup {F I : Hp} {a : Addr} {xs : List V} (h : Rd I a (.tup xs)) : Rd (rgN F I) a (.tup xs) := by
  rcases h with h | ⟨o, h⟩
  · refine .inl ?_; unfold rgN; rw [h]
  · refine .inr ⟨o, ?_⟩; unfold rgN; rw [h]
theorem rgN_lst {F I : Hp} {a : Addr} {xs : List V} (h : Rd (rgN F I) a (.lst xs)) : I a = some (.lst xs) ∧ F a = none := by
  rcases h with h | ⟨o, h⟩
  · refine ⟨rgN_le _ _ h, ?_⟩
    have h2 := rgN_le _ _ h
    unfold rgN at h
    rw [h2] at h
    cases e : F a with
    | none => rfl
    | some u => rw [e] at h; cases h
  · have h2 := rgN_le _ _ h
    unfold rgN at h
    rw [h2] at h
    cases h
theorem rgN_new {F I : Hp} {p : Addr} {xs : List V} (hF : F p = none) : rgN F (upd I p (.lst xs)) p = some (.lst xs) := by
  unfold rgN; rw [upd_same, hF]
/-- no list within -/
class LF (α : Type) [Enc α] : Prop where
  mv : ∀ (x : α) (I J : Hp) (v : V), (∀ a xs, Rd I a (.tup xs) → Rd J a (.tup xs)) → Dq I v (enc x) → Dq J v (enc x)
theorem LF.lf {α : Type} [Enc α] [S : LF α] (x : α) (F I : Hp) (v : V) (d : Dq I v (enc x)) : Dq (rgN F I) v (enc x) := S.mv x I _ v (fun _ _ => rgN_tup) d
instance : LF Int := ⟨fun x I J v t d => by cases d; exact .int _⟩
instance : LF Bool := ⟨fun x I J v t d => by cases d; exact .bl _⟩
instance : LF Str := ⟨fun x I J v t d => by cases d; exact .str _⟩
instance : LF Unit := ⟨fun x I J v t d => by cases d; exact .non⟩
instance {α : Type} [Enc α] [S : LF α] : LF (Option α) := ⟨fun x I J v t d => by
  cases x with
  | none => cases d; exact .non
  | some x => exact S.mv x I J v t d⟩
theorem mvAll {α : Type} [Enc α] [S : LF α] {I J : Hp} (t : ∀ a xs, Rd I a (.tup xs) → Rd J a (.tup xs)) : ∀ {xs : List V} {l : List α}, DqAll I xs (l.map enc) → DqAll J xs (l.map enc)
  | [], [], _ => .nil
  | _ :: _, _ :: _, .cons d r => .cons (S.mv _ _ _ _ t d) (mvAll t r)
theorem lfAll {α : Type} [Enc α] [S : LF α] {F I : Hp} {xs : List V} {l : List α} (h : DqAll I xs (l.map enc)) : DqAll (rgN F I) xs (l.map enc) := mvAll (fun _ _ => rgN_tup) h
instance {α : Type} [Enc α] [S : LF α] : LF (Tup α) := ⟨fun x I J v t d => by
  cases d with | tup h1 h2 => exact .tup (t _ _ h1) (mvAll t h2)⟩
instance {α β : Type} [Enc α] [Enc β] [S : LF α] [T : LF β] : LF (T2 α β) := ⟨fun x I J v t d => by
  cases d with | tup h1 h2 => cases h2 with | cons a h2 => cases h2 with | cons b h2 => cases h2; exact .tup (t _ _ h1) (.cons (S.mv _ _ _ _ t a) (.cons (T.mv _ _ _ _ t b) .nil))⟩
instance {α β γ : Type} [Enc α] [Enc β] [Enc γ] [S : LF α] [T : LF β] [U : LF γ] : LF (T3 α β γ) := ⟨fun x I J v t d => by
  cases d with | tup h1 h2 => cases h2 with | cons a h2 => cases h2 with | cons b h2 => cases h2 with | cons c h2 => cases h2; exact .tup (t _ _ h1) (.cons (S.mv _ _ _ _ t a) (.cons (T.mv _ _ _ _ t b) (.cons (U.mv _ _ _ _ t c) .nil)))⟩
instance {α β γ δ : Type} [Enc α] [Enc β] [Enc γ] [Enc δ] [S : LF α] [T : LF β] [U : LF γ] [W : LF δ] : LF (T4 α β γ δ) := ⟨fun x I J v t d => by
  cases d with | tup h1 h2 => cases h2 with | cons a h2 => cases h2 with | cons b h2 => cases h2 with | cons c h2 => cases h2 with | cons e h2 => cases h2; exact .tup (t _ _ h1) (.cons (S.mv _ _ _ _ t a) (.cons (T.mv _ _ _ _ t b) (.cons (U.mv _ _ _ _ t c) (.cons (W.mv _ _ _ _ t e) .nil))))⟩

/-- data whose lists are new -/
def tN (K : PySem.W.Frag) (G : List Sl) (d : PyData) : TE := fun σ H Q => ∃ F I ps, RS K F G σ H I ps ∧ ∀ v H' I', Grow F I I' → RS K F G σ H' I' ps → Dq (rgN F I') v d → Q v H'
/-- a new list of such -/
def tON (K : PySem.W.Frag) (G : List Sl) (ds : List PyData) : TE := fun σ H Q => ∃ F I ps, RS K F G σ H I ps ∧ ∀ p xs H' I', Grow F I I' → RS K F G σ H' I' ps → I' p = none → F p = none → (∀ i, ps i ≠ some p) → H' p = some (.lst xs) → DqAll (rgN F I') xs ds → Q (.ref p) H'
def tAN (K : PySem.W.Frag) (G : List Sl) (ds : List PyData) : TA := fun σ H Q => ∃ F I ps, RS K F G σ H I ps ∧ ∀ vs H' I', Grow F I I' → RS K F G σ H' I' ps → DqAll (rgN F I') vs ds → Q vs H'
def EN (X : Cx) (G : List Sl) {α : Type} [Enc α] (e : Expr) (o : Option α) : Prop := ∀ x, o = some x → PE X e (tN X.K G (enc x))
def EON (X : Cx) (G : List Sl) {α : Type} [Enc α] (e : Expr) (o : Option (List α)) : Prop := ∀ l, o = some l → PE X e (tON X.K G (l.map enc))
def AN (X : Cx) (G : List Sl) (es : List Expr) (o : Option (List PyData)) : Prop := ∀ ds, o = some ds → PA X es (tAN X.K G ds)
def ALN (X : Cx) (G : List Sl) {α : Type} [Enc α] (es : List Expr) (o : Option (List α)) : Prop := ∀ l, o = some l → PA X es (tAN X.K G (l.map enc))
section
variable {X : Cx} {G : List Sl} {α β γ δ : Type} [Enc α] [Enc β] [Enc γ] [Enc δ] {e a b : Expr} {es : List Expr} {pos p : Pos}
theorem en_free [S : LF α] {o : Option α} (h : ED X G e o) : EN X G e o := fun x hx => (h x hx).imp fun σ H Q ⟨F, I, ps, R, q⟩ => ⟨F, I, ps, R, fun v H' I' g R' d => q v H' I' g R' (S.lf _ _ _ _ d)⟩
theorem ed_of_en {o : Option α} (h : EN X G e o) : ED X G e o := fun x hx => (h x hx).imp fun σ H Q ⟨F, I, ps, R, q⟩ => ⟨F, I, ps, R, fun v H' I' g R' d => q v H' I' g R' (Dq_mono rgN_le _ _ d)⟩
theorem eo_of_eon {o : Option (List α)} (h : EON X G e o) : EO X G e o := fun x hx => (h x hx).imp fun σ H Q ⟨F, I, ps, R, q⟩ => ⟨F, I, ps, R, fun p xs H' I' g R' n1 n2 n3 hH d => q p xs H' I' g R' n1 n2 n3 hH (DqAll_mono rgN_le _ _ d)⟩
theorem eon_free [S : LF α] {o : Option (List α)} (h : EO X G e o) : EON X G e o := fun x hx => (h x hx).imp fun σ H Q ⟨F, I, ps, R, q⟩ => ⟨F, I, ps, R, fun p xs H' I' g R' n1 n2 n3 hH d => q p xs H' I' g R' n1 n2 n3 hH (lfAll d)⟩
theorem en_of_eon {o : Option (List α)} (h : EON X G e o) : EN X G e o := fun l hl => (h l hl).imp fun σ H Q ⟨F, I, ps, R, q⟩ => ⟨F, I, ps, R, fun p xs H' I' g R' hI hF hp hH d => by
  obtain ⟨g', R'', d'⟩ := frz_new g R' hI hF hp hH (DqAll_mono rgN_le _ _ d)
  exact q _ _ _ g' R'' (.lst (.inl (rgN_new hF)) (DqAll_mono (rgN_mono (same_upd hI)) _ _ d))⟩
theorem en_coe {o : Option α} (c : α → β) (hc : ∀ x, enc (c x) = enc x) (h : EN X G e o) : EN X G e (lift1 c o) := fun y hy => by
  obtain ⟨x, h1, h2⟩ := lift1_get hy
  rw [← h2, hc]; exact h x h1
theorem en_coeP {o : Option α} (c : α → Option β) (hc : ∀ x y, c x = some y → enc y = enc x) (h : EN X G e o) : EN X G e (o.bind c) := fun y hy => by
  obtain ⟨x, h1, h2⟩ := bind_get hy
  rw [hc x y h2]; exact h x h1
theorem en_some {o : Option α} (h : EN X G e o) : EN X G e (lift1 (some : α → Option α) o) := en_coe _ (fun _ => rfl) h
theorem en_get {o : Option (Option α)} (h : EN X G e o) : EN X G e (o.bind id) := en_coeP _ (fun x y h => by have h : x = some y := h; subst h; rfl) h
theorem en_none {j : Nat} {pos : Pos} : EN X G (.Constant .none j pos) (some (none : Option α)) := fun y hy => by
  cases hy; exact pe_non.imp fun σ H Q ⟨F, I, ps, R, q⟩ => q _ H I Grow.refl R .non
/-- the slot's data -/
theorem ed_slot {N : List Str} {sc : Scope} {fs : Option Scope} {k i : Nat} {x : Str} {d : PyData} {t : TE} (C : Ctx X N sc fs k) (hv : visB N sc i x = true)
    (h : ∀ σ H Q, t σ H Q → ∃ F I ps, RS X.K F G σ H I ps ∧ ∃ v, σ[i]? = some (some v) ∧ Q v H) : PE X (.Name x pos) t := by
  unfold visB at hv
  simp only [Bool.and_eq_true, decide_eq_true_eq, Bool.not_eq_true'] at hv
  obtain ⟨⟨⟨h1, h2⟩, h3⟩, h4⟩ := hv
  have hvis : Vis X.env.scope x := by
    rw [C.s]; unfold Vis
    split at h2 <;> simp_all
  refine (pe_var (by rw [C.n]; exact h1) hvis h3 h4).imp fun σ H Q q => ?_
  obtain ⟨F, I, ps, R, v, e, q⟩ := h σ H Q q
  exact ⟨v, e, q⟩
theorem slot_lt {s : Sl} {i : Nat} (hs : slAt G i = s) (hn : s ≠ .un) : i < G.length := by
  by_cases c : i < G.length
  · exact c
  · rw [slAt_out (by omega)] at hs; exact absurd hs.symm hn
theorem en_var {N : List Str} {sc : Scope} {fs : Option Scope} {k i : Nat} {x : Str} {v : α} (C : Ctx X N sc fs k) (hv : visB N sc i x = true) (hs : slAt G i = .nw (enc v)) : EN X G (.Name x pos) (some v) := fun y hy => by
  cases hy
  refine ed_slot (d := enc v) (G := G) C hv fun σ H Q ⟨F, I, ps, R, q⟩ => ?_
  obtain ⟨w, k1, k2⟩ := R.sl i (slot_lt hs (by simp))
  rw [hs] at k2
  obtain ⟨_, z, e, d⟩ := k2
  subst e
  exact ⟨F, I, ps, R, z, k1, q z H I Grow.refl R d⟩
theorem ed_varN {N : List Str} {sc : Scope} {fs : Option Scope} {k i : Nat} {x : Str} {v : α} (C : Ctx X N sc fs k) (hv : visB N sc i x = true) (hs : slAt G i = .nw (enc v)) : ED X G (.Name x pos) (some v) := ed_of_en (en_var C hv hs)
theorem ed_varO {N : List Str} {sc : Scope} {fs : Option Scope} {k i : Nat} {x : Str} {v : α} (C : Ctx X N sc fs k) (hv : visB N sc i x = true) (hs : slAt G i = .old (enc v)) : ED X G (.Name x pos) (some v) := fun y hy => by
  cases hy
  refine ed_slot (d := enc v) (G := G) C hv fun σ H Q ⟨F, I, ps, R, q⟩ => ?_
  obtain ⟨w, k1, k2⟩ := R.sl i (slot_lt hs (by simp))
  rw [hs] at k2
  obtain ⟨_, z, e, d⟩ := k2
  subst e
  exact ⟨F, I, ps, R, z, k1, q z H I Grow.refl R (Dq_mono rgO_le _ _ d)⟩

/-! ### displays -/
theorem an_nil : AN X G [] (some []) := fun ds h => by
  cases h
  exact pa_nil.imp fun σ H Q ⟨F, I, ps, R, q⟩ => q _ _ _ Grow.refl R .nil
theorem an_cons {o : Option α} {ods : Option (List PyData)} (h : EN X G e o) (hr : AN X G es ods) (hs : starEach (e :: es) X.env = (false, eval e X.env) :: starEach es X.env := by rfl) :
    AN X G (e :: es) (lift2 (fun x ds => enc x :: ds) o ods) := fun ds hd => by
  obtain ⟨x, ds', h1, h2, h3⟩ := lift2_get hd
  subst h3
  exact (pa_cons (h x h1) (hr ds' h2) hs).imp fun σ H Q ⟨F, I, ps, R, q⟩ => ⟨F, I, ps, R, fun v H1 I1 g1 R1 d1 => ⟨F, I1, ps, R1, fun vs H2 I2 g2 R2 d2 => q _ _ _ (g1.trans g2) R2 (.cons (Dq_mono (rgN_mono g2.same) _ _ d1) d2)⟩⟩
theorem aln_nil : ALN X G [] (some ([] : List α)) := fun l h => by
  cases h
  exact pa_nil.imp fun σ H Q ⟨F, I, ps, R, q⟩ => q _ _ _ Grow.refl R .nil
theorem aln_cons {o : Option α} {ol : Option (List α)} (h : EN X G e o) (hr : ALN X G es ol) (hs : starEach (e :: es) X.env = (false, eval e X.env) :: starEach es X.env := by rfl) :
    ALN X G (e :: es) (lift2 List.cons o ol) := fun l hl => by
  obtain ⟨x, l', h1, h2, h3⟩ := lift2_get hl
  subst h3
  exact (pa_cons (h x h1) (hr l' h2) hs).imp fun σ H Q ⟨F, I, ps, R, q⟩ => ⟨F, I, ps, R, fun v H1 I1 g1 R1 d1 => ⟨F, I1, ps, R1, fun vs H2 I2 g2 R2 d2 => q _ _ _ (g1.trans g2) R2 (.cons (Dq_mono (rgN_mono g2.same) _ _ d1) d2)⟩⟩
theorem aln_star {o ol : Option (List α)} (h : EN X G e o) (hr : ALN X G es ol) (hs : starEach (.Starred e p :: es) X.env = (true, eval e X.env) :: starEach es X.env := by rfl) :
    ALN X G (.Starred e p :: es) (lift2 (· ++ ·) o ol) := fun l hl => by
  obtain ⟨x, l', h1, h2, h3⟩ := lift2_get hl
  subst h3
  refine (StX.pa_star (h x h1) (hr l' h2) hs).imp fun σ H Q ⟨F, I, ps, R, q⟩ => ⟨F, I, ps, R, fun v H1 I1 g1 R1 d1 => ?_⟩
  cases d1 with
  | lst k1 k2 => exact ⟨_, _, rfl, .inr (.inl (rd_mono (rgN_le.trans R1.si) k1)), F, I1, ps, R1, fun vs H2 I2 g2 R2 d2 => q _ _ _ (g1.trans g2) R2 (by rw [List.map_append]; exact (DqAll_mono (rgN_mono g2.same) _ _ k2).app d2)⟩
theorem eon_list {ol : Option (List α)} (h : ALN X G es ol) : EON X G (.List es pos) (ol.bind szG) := fun l hl => by
  obtain ⟨x, h1, h2⟩ := bind_get hl
  obtain ⟨hz, e⟩ := ite_get h2
  subst e
  exact (pe_lst (h x h1)).imp fun σ H Q ⟨F, I, ps, R, q⟩ => ⟨F, I, ps, R, fun vs H1 I1 g1 R1 d => ⟨by rw [d.len, List.length_map]; exact hz, fun p hp =>
    q p vs _ I1 g1 (R1.newOwn hp) (R1.si.free hp) (R1.sf.free hp) (fun i c => by obtain ⟨_, _, _, z⟩ := R1.own_at c; rw [hp] at z; cases z) upd_same d⟩⟩
theorem tupN_of {k : Nat} {ds : List PyData} {r : PyData} (h : PA X es (tAN X.K G ds)) (hz : ds.length ≤ sizeLine) (hr : r = .tuple ds) : PE X (.Tuple es k pos) (tN X.K G r) := by
  subst hr
  refine (pe_tup h).imp fun σ H Q ⟨F, I, ps, R, q⟩ => ⟨F, I, ps, R, fun vs H1 I1 g1 R1 d => ⟨by rw [d.len]; exact hz, fun p hp => ?_⟩⟩
  have s := R1.grow_new (o := .tup vs) hp
  exact q (.ref p) _ _ (g1.trans s) (R1.new hp) (.tup (rgN_tup (.inl upd_same)) (DqAll_mono (rgN_mono s.same) _ _ d))
theorem en_t2 {e1 e2 : Expr} {k : Nat} {oa : Option α} {ob : Option β} (ha : EN X G e1 oa) (hb : EN X G e2 ob) (s1 : starEach [e1, e2] X.env = (false, eval e1 X.env) :: starEach [e2] X.env := by rfl) (s2 : starEach [e2] X.env = [(false, eval e2 X.env)] := by rfl) :
    EN X G (.Tuple [e1, e2] k pos) (lift2 T2.mk oa ob) := fun t ht => by
  obtain ⟨x, y, h1, h2, h3⟩ := lift2_get ht
  subst h3
  exact tupN_of (an_cons ha (an_cons hb an_nil s2) s1 _ (by rw [h1, h2]; rfl)) (small_line (by show 2 ≤ 8; decide)) rfl
theorem en_t3 {e1 e2 e3 : Expr} {k : Nat} {oa : Option α} {ob : Option β} {oc : Option γ} (ha : EN X G e1 oa) (hb : EN X G e2 ob) (hc : EN X G e3 oc)
    (s1 : starEach [e1, e2, e3] X.env = (false, eval e1 X.env) :: starEach [e2, e3] X.env := by rfl) (s2 : starEach [e2, e3] X.env = (false, eval e2 X.env) :: starEach [e3] X.env := by rfl) (s3 : starEach [e3] X.env = [(false, eval e3 X.env)] := by rfl) :
    EN X G (.Tuple [e1, e2, e3] k pos) (lift3 T3.mk oa ob oc) := fun t ht => by
  obtain ⟨x, h1, ht⟩ := bind_get ht
  obtain ⟨y, h2, ht⟩ := bind_get ht
  obtain ⟨z, h3, ht⟩ := bind_get ht
  cases ht
  exact tupN_of (an_cons ha (an_cons hb (an_cons hc an_nil s3) s2) s1 _ (by rw [h1, h2, h3]; rfl)) (small_line (by show 3 ≤ 8; decide)) rfl
theorem en_t4 {e1 e2 e3 e4 : Expr} {k : Nat} {oa : Option α} {ob : Option β} {oc : Option γ} {od : Option δ} (ha : EN X G e1 oa) (hb : EN X G e2 ob) (hc : EN X G e3 oc) (hd : EN X G e4 od)
    (s1 : starEach [e1, e2, e3, e4] X.env = (false, eval e1 X.env) :: starEach [e2, e3, e4] X.env := by rfl) (s2 : starEach [e2, e3, e4] X.env = (false, eval e2 X.env) :: starEach [e3, e4] X.env := by rfl) (s3 : starEach [e3, e4] X.env = (false, eval e3 X.env) :: starEach [e4] X.env := by rfl) (s4 : starEach [e4] X.env = [(false, eval e4 X.env)] := by rfl) :
    EN X G (.Tuple [e1, e2, e3, e4] k pos) (lift4 T4.mk oa ob oc od) := fun t ht => by
  obtain ⟨x, h1, ht⟩ := bind_get ht
  obtain ⟨y, h2, ht⟩ := bind_get ht
  obtain ⟨z, h3, ht⟩ := bind_get ht
  obtain ⟨w, h4, ht⟩ := bind_get ht
  cases ht
  exact tupN_of (an_cons ha (an_cons hb (an_cons hc (an_cons hd an_nil s4) s3) s2) s1 _ (by rw [h1, h2, h3, h4]; rfl)) (small_line (by show 4 ≤ 8; decide)) rfl

/-! ### items -/
theorem tN_op {K : PySem.W.Frag} {r : R2} {d1 d2 d : PyData} (h : ∀ (F : Hp) (G : List Sl) (σ : L2.St) (H I : Hp) (ps : Nat → Option Addr) (v w : V) (Q : VK), RS K F G σ H I ps → Dq (rgN F I) v d1 → Dq I w d2 → (∀ u H' I', Grow F I I' → RS K F G σ H' I' ps → Dq (rgN F I') u d → Q u H') → r v w H Q) (σ : L2.St) (H : Hp) (Q : VK) (t : tN K G d σ H Q) : tOp r (tN K G d1) (tD K G d2) σ H Q := by
  obtain ⟨F, I, ps, R, q⟩ := t
  refine ⟨F, I, ps, R, fun v H1 I1 g1 R1 dv => ⟨F, I1, ps, R1, fun w H2 I2 g2 R2 dw => ?_⟩⟩
  exact h F G σ H2 I2 ps v w Q R2 (Dq_mono (rgN_mono g2.same) _ _ dv) dw fun u H3 I3 g3 R3 du => q u H3 I3 (g1.trans (g2.trans g3)) R3 du
theorem en_ix {ol : Option (List α)} {oi : Option Int} (ha : EN X G a ol) (hb : ED X G b oi) (hs : PlainIx b := by intro _ _; rfl) : EN X G (.Subscript a b pos) (bind2 atI ol oi) := fun z hz => by
  obtain ⟨l, i, h1, h2, h3⟩ := bind2_get hz
  refine (pe_ix ix_list (ha l h1) (hb i h2) hs).imp (tN_op ?_)
  intro F G σ H I ps v w Q R hv hw q
  cases hw
  cases hv with
  | lst k1 k2 =>
    obtain ⟨u, hu, du⟩ := k2.atI (atI_map h3)
    exact ⟨_, _, i, u, rfl, rfl, .inl (rd_mono (rgN_le.trans R.si) k1), hu, q u H I Grow.refl R du⟩
theorem en_proj {o : Option α} {i : Int} {j : Nat} {p : Pos} {f : α → β} (ha : EN X G a o) (hf : ∀ x, ∃ ds, enc x = .tuple ds ∧ atI ds i = some (enc (f x))) : EN X G (.Subscript a (.Constant (.int i) j p) pos) (lift1 f o) := fun z hz => by
  obtain ⟨x, h1, h2⟩ := lift1_get hz
  subst h2
  obtain ⟨ds, e1, e2⟩ := hf x
  refine (pe_ix ix_tup (ha x h1) (ed_num (G := G) i rfl) (fun _ _ => rfl)).imp (tN_op ?_)
  intro F G σ H I ps v w Q R hv hw q
  rw [e1] at hv
  cases hw
  cases hv with
  | tup k1 k2 =>
    obtain ⟨u, hu, du⟩ := k2.atI e2
    exact ⟨_, _, i, u, rfl, rfl, .inl (rd_mono (rgN_le.trans R.si) k1), hu, q u H I Grow.refl R du⟩
theorem en_20 {o : Option (T2 α β)} {j : Nat} {p : Pos} (h : EN X G a o) : EN X G (.Subscript a (.Constant (.int 0) j p) pos) (lift1 T2.a o) := en_proj h fun x => ⟨_, rfl, rfl⟩
theorem en_21 {o : Option (T2 α β)} {j : Nat} {p : Pos} (h : EN X G a o) : EN X G (.Subscript a (.Constant (.int 1) j p) pos) (lift1 T2.b o) := en_proj h fun x => ⟨_, rfl, rfl⟩
theorem en_30 {o : Option (T3 α β γ)} {j : Nat} {p : Pos} (h : EN X G a o) : EN X G (.Subscript a (.Constant (.int 0) j p) pos) (lift1 T3.a o) := en_proj h fun x => ⟨_, rfl, rfl⟩
theorem en_31 {o : Option (T3 α β γ)} {j : Nat} {p : Pos} (h : EN X G a o) : EN X G (.Subscript a (.Constant (.int 1) j p) pos) (lift1 T3.b o) := en_proj h fun x => ⟨_, rfl, rfl⟩
theorem en_32 {o : Option (T3 α β γ)} {j : Nat} {p : Pos} (h : EN X G a o) : EN X G (.Subscript a (.Constant (.int 2) j p) pos) (lift1 T3.c o) := en_proj h fun x => ⟨_, rfl, rfl⟩
theorem en_40 {o : Option (T4 α β γ δ)} {j : Nat} {p : Pos} (h : EN X G a o) : EN X G (.Subscript a (.Constant (.int 0) j p) pos) (lift1 T4.a o) := en_proj h fun x => ⟨_, rfl, rfl⟩
theorem en_41 {o : Option (T4 α β γ δ)} {j : Nat} {p : Pos} (h : EN X G a o) : EN X G (.Subscript a (.Constant (.int 1) j p) pos) (lift1 T4.b o) := en_proj h fun x => ⟨_, rfl, rfl⟩
theorem en_42 {o : Option (T4 α β γ δ)} {j : Nat} {p : Pos} (h : EN X G a o) : EN X G (.Subscript a (.Constant (.int 2) j p) pos) (lift1 T4.c o) := en_proj h fun x => ⟨_, rfl, rfl⟩
theorem en_43 {o : Option (T4 α β γ δ)} {j : Nat} {p : Pos} (h : EN X G a o) : EN X G (.Subscript a (.Constant (.int 3) j p) pos) (lift1 T4.d o) := en_proj h fun x => ⟨_, rfl, rfl⟩
theorem en_if {t : Expr} {oc : Option Bool} {oa ob : Option α} (hc : EB X G t oc) (ha : EN X G a oa) (hb : EN X G b ob) : EN X G (.IfExp t a b pos) (oc.bind fun c => bif c then oa else ob) := fun k hk => by
  obtain ⟨x, h1, hk⟩ := bind_get hk
  cases x with
  | true => exact (pe_ifExp (hc _ h1) (ha k hk) pe_never).imp fun σ H Q ⟨F, I, ps, R, q⟩ => ⟨F, I, ps, R, fun H' I' g R' => iteT (⟨F, I', ps, R', fun v H2 I2 g2 R2 d => q _ _ _ (g.trans g2) R2 d⟩)⟩
  | false => exact (pe_ifExp (hc _ h1) pe_never (hb k hk)).imp fun σ H Q ⟨F, I, ps, R, q⟩ => ⟨F, I, ps, R, fun H' I' g R' => iteF (⟨F, I', ps, R', fun v H2 I2 g2 R2 d => q _ _ _ (g.trans g2) R2 d⟩)⟩

/-! ### calls -/
theorem rgN_sub {F H I : Hp} (s : Same F H) : Same (rgN H I) (rgN F I) := fun a u h => by
  have h' := rgN_le _ _ h
  unfold rgN at h ⊢
  rw [h'] at h ⊢
  cases u with
  | lst xs =>
    cases e : H a with
    | none => rw [s.free e]
    | some w => rw [e] at h; cases h
  | frz o u => cases u <;> first | exact h | cases h
  | _ => exact h
section
variable {N : List Str} {sc : Scope} {fs : Option Scope} {k j : Nat} {x : Str} {prm : List Str} {g : List PyData → PyData → Prop} {ods : Option (List PyData)}
theorem en_call {o : Option α} (C : Ctx X N sc fs k) (c : Cal X.prog X.w X.K X.mg X.base CX0 j x prm (spD X.K .nw g)) (hj : j ≤ k) (hg : glbB sc x = true) (ha : AD X G (e :: es) ods) (ho : ∀ r, o = some r → ∃ ds, ods = some ds ∧ g ds (enc r))
    (he : starEach (e :: es) X.env = (false, eval e X.env) :: starEach es X.env := by rfl) (hp : (backTo pos (starEach es X.env)).any (·.1) = false := by rfl) : EN X G (.Call (.Name x p) (e :: es) [] pos) o := fun r hr => by
  obtain ⟨ds, h1, h2⟩ := ho r hr
  refine (pe_callG (c.up hj) C.gd C.rm C.s hg (pass0 (X := X)) (ha ds h1) he hp).imp fun σ H Q ⟨F, I, ps, R, q⟩ => ⟨F, I, ps, R, fun vs H1 I1 g1 R1 d => ⟨ds, _, I1, h2, R1.si, d, fun v H' I' s g' si rr => ?_⟩⟩
  obtain ⟨g2, R2⟩ := R1.called s g' si
  exact q v H' I' (g1.trans g2) R2 (Dq_mono (rgN_sub R1.sf) _ _ rr)
/-- a list of the caller's own, of data without lists -/
theorem eon_call [LF α] {o : Option (List α)} (C : Ctx X N sc fs k) (c : Cal X.prog X.w X.K X.mg X.base CX0 j x prm (spD X.K .ow g)) (hj : j ≤ k) (hg : glbB sc x = true) (ha : AD X G (e :: es) ods) (ho : ∀ r, o = some r → ∃ ds, ods = some ds ∧ g ds (enc r))
    (he : starEach (e :: es) X.env = (false, eval e X.env) :: starEach es X.env := by rfl) (hp : (backTo pos (starEach es X.env)).any (·.1) = false := by rfl) : EON X G (.Call (.Name x p) (e :: es) [] pos) o := eon_free (eo_call C c hj hg ha ho he hp)
end
/-- l + m -/
theorem eon_cat {oa ob : Option (List α)} (ha : EN X G a oa) (hb : EN X G b ob) : EON X G (.BinOp a .Add b pos) (bind2 catG oa ob) := fun z hz => by
  obtain ⟨l, m, h1, h2, h3⟩ := bind2_get hz
  obtain ⟨hc, h3⟩ := ite_get h3
  subst h3
  refine (pe_op op_catR (ha l h1) (hb m h2)).imp fun σ H Q ⟨F, I, ps, R, q⟩ => ⟨F, I, ps, R, fun v H1 I1 g1 R1 d1 => ⟨F, I1, ps, R1, fun w H2 I2 g2 R2 d2 => ?_⟩⟩
  have d1 := Dq_mono (rgN_mono g2.same) _ _ d1
  cases d1 with
  | lst k1 k2 =>
    cases d2 with
    | lst l1 l2 =>
      refine ⟨_, _, _, _, rfl, rfl, rd_mono (rgN_le.trans R2.si) k1, rd_mono (rgN_le.trans R2.si) l1, by rw [k2.len, l2.len, List.length_map, List.length_map]; exact hc, fun p hp => ?_⟩
      exact q p _ _ I2 (g1.trans g2) (R2.newOwn hp) (R2.si.free hp) (R2.sf.free hp) (fun i c => by obtain ⟨_, _, _, z⟩ := R2.own_at c; rw [hp] at z; cases z) upd_same (by rw [List.map_append]; exact k2.app l2)
end
end Lay

set_option Elab.async false
set_option linter.all false
set_option maxRecDepth 100000
/-! LayV: comprehensions and loops over data whose lists are new; stores that spoil it. -/
namespace Lay
open PySem PySem.Spec PyProof.Rows L2
open Lay.Enc (enc)
section
variable {K : PySem.W.Frag} {F : Hp} {G : List Sl} {σ : L2.St} {H H' I I' : Hp} {ps : Nat → Option Addr}
theorem RS.setNw (R : RS K F G σ H I ps) {i : Nat} {v : V} {d : PyData} (h : Dq (rgN F I) v d) : RS K F (G.set i (.nw d)) (σ.set i (some v)) H I (psDel ps i) where
  si := R.si
  sf := R.sf
  fo := fun j a h => by
    unfold psDel at h; split at h
    · cases h
    · exact R.fo j a h
  len := by simp [R.len]
  sl := fun j hj => by
    rw [List.length_set] at hj
    obtain ⟨w, h1, h2⟩ := R.sl j hj
    by_cases e : j = i
    · subst e
      refine ⟨some v, List.getElem?_set_self (by rw [← R.len]; exact hj), ?_⟩
      rw [slAt_set_self hj]
      exact ⟨if_pos rfl, v, rfl, h⟩
    · refine ⟨w, by rw [List.getElem?_set_ne (Ne.symm e)]; exact h1, ?_⟩
      rw [slAt_set_ne (Ne.symm e), show psDel ps i j = ps j from if_neg e]
      exact h2
  out := fun j hj => by
    unfold psDel; split
    · rfl
    · exact R.out j (by simpa using hj)
  dis := fun j l a h1 h2 => by
    unfold psDel at h1 h2
    split at h1
    · cases h1
    · split at h2
      · cases h2
      · exact R.dis j l a h1 h2
theorem RS.setOld (R : RS K F G σ H I ps) {i : Nat} {v : V} {d : PyData} (h : Dq (rgO F I) v d) : RS K F (G.set i (.old d)) (σ.set i (some v)) H I (psDel ps i) where
  si := R.si
  sf := R.sf
  fo := fun j a h => by
    unfold psDel at h; split at h
    · cases h
    · exact R.fo j a h
  len := by simp [R.len]
  sl := fun j hj => by
    rw [List.length_set] at hj
    obtain ⟨w, h1, h2⟩ := R.sl j hj
    by_cases e : j = i
    · subst e
      refine ⟨some v, List.getElem?_set_self (by rw [← R.len]; exact hj), ?_⟩
      rw [slAt_set_self hj]
      exact ⟨if_pos rfl, v, rfl, h⟩
    · refine ⟨w, by rw [List.getElem?_set_ne (Ne.symm e)]; exact h1, ?_⟩
      rw [slAt_set_ne (Ne.symm e), show psDel ps i j = ps j from if_neg e]
      exact h2
  out := fun j hj => by
    unfold psDel; split
    · rfl
    · exact R.out j (by simpa using hj)
  dis := fun j l a h1 h2 => by
    unfold psDel at h1 h2
    split at h1
    · cases h1
    · split at h2
      · cases h2
      · exact R.dis j l a h1 h2
end
/-- a comprehension of data whose lists are new -/
def LCN (X : Cx) (G : List Sl) (e : Expr) {α : Type} [Enc α] (o : Option (List α)) : Prop := ∀ l, o = some l → ∃ t : TE, PE X e t ∧
  (∀ (i : Nat) (y : Str) (py sp : Pos), X.N[i]? = some y → X.env.scope.names.lookup y = some .local → swapsWith e (some (.Name y py)) sp.line X.env = pure true → PS X (.Assign [.Name y py] e sp) (tAsg t (gName i))) ∧
  ∀ σ H Q, tON X.K G (l.map enc) σ H Q → t σ H Q
section
variable {X : Cx} {G : List Sl} {N : List Str} {sc : Scope} {fs : Option Scope} {k : Nat} {α β : Type} [Enc α] [Enc β] {elt tg iter : Expr} {ifs : List Expr} {scope : Scope} {pos : Pos} {g : L2.TG} {js : List Nat} {f : α → List Sl → List Sl}
theorem lcN_mk {own : List (Str × Nat)} {ol : Option (List α)} {oc : α → Option Bool} {oe : α → Option β} (C : Ctx X N sc fs k) (hi : IT X G tg iter ol) (ok : blkC N sc scope own = true)
    (hg : ∀ s H Ca cl fp, PG (X.blk s H scope (compEnvC scope cl Ca X.env) fp) tg g) (ht : Tgt X.K g js f) (hj : ∀ j ∈ js, j ∈ own.map (·.2)) (hf : ownFree G (own.map (·.2)) = true)
    (hc : ∀ s H Ca cl fp x, ETs (X.blk s H scope (compEnvC scope cl Ca X.env) fp) (f x (wipeG G (own.map (·.2)))) ifs (oc x))
    (he : ∀ s H Ca cl fp x, EN (X.blk s H scope (compEnvC scope cl Ca X.env) fp) (f x (wipeG G (own.map (·.2)))) elt (oe x)) (hs : ∀ x, foldedSetIterable iter X.env x = pure x := by intro _; rfl) :
    LCN X G (.ListComp elt [⟨tg, iter, ifs, 0⟩] scope pos) (ol.bind (lcL oc oe)) := fun r hr => by
  obtain ⟨l, h1, h2⟩ := bind_get hr
  obtain ⟨vs, hvs⟩ : ∃ vs, own.map (·.2) = vs := ⟨_, rfl⟩
  rw [hvs] at hj hf
  simp only [hvs] at hc he
  let te : TE := fun σ H Q => ∃ x y, oe x = some y ∧ tN X.K (f x (wipeG G vs)) (enc y) σ H Q
  let tt : TT := fun σ H Q => ∃ x b, oc x = some b ∧ tB X.K (f x (wipeG G vs)) b σ H Q
  have pe : ∀ s H Ca cl fp, PE (X.blk s H scope (compEnvC scope cl Ca X.env) fp) elt te := fun s H Ca cl fp => ⟨fun pins st σ H' Q I ⟨x, y, e, q⟩ => (he s H Ca cl fp x y e).run pins st σ H' Q I q⟩
  have pt : ∀ s H Ca cl fp, PTs (X.blk s H scope (compEnvC scope cl Ca X.env) fp) ifs tt := fun s H Ca cl fp => ⟨fun pins st σ H' Q I ⟨x, b, e, q⟩ => (hc s H Ca cl fp x b e).run pins st σ H' Q I q⟩
  have nd : X.N.Nodup := by rw [C.n]; exact C.nd
  have bk : BlkOk X.N X.env.scope scope own := by rw [C.n, C.s]; exact blkOk_by ok
  refine ⟨_, pe_lc C.calm nd (hi l h1) bk hg pt pe hs, fun i y py sp a b c => ps_setLc C.calm nd a b c (hi l h1) bk hg pt pe hs, fun σ H Q ⟨F, I, ps, R, q⟩ => ?_⟩
  rw [hvs]
  refine ⟨F, I, ps, R, fun J H1 I1 gr1 R1 wl ll D hD => ?_⟩
  have ll : l.length ≤ sizeLine := by rw [List.length_map] at ll; exact ll
  have hD1 : I1 D = none := R1.si.free hD
  have hDF : F D = none := R1.sf.free hD
  have hDp : ∀ i, ps i ≠ some D := fun i c => by obtain ⟨_, _, xs, z⟩ := R1.own_at c; rw [hD] at z; cases z
  -- the state between turns: the list made so far at D, the rest to be made
  refine ⟨fun i m H => m = l.length - i ∧ i ≤ l.length ∧ ∃ I' xs done rst, Grow F I1 I' ∧ RS X.K F G σ H I' ps ∧ I' D = none ∧ H D = some (.lst xs) ∧ DqAll (rgN F I') xs (done.map enc) ∧ done.length ≤ i ∧ lcL oc oe (l.drop i) = some rst ∧ r = done ++ rst,
    ⟨_, rfl, Nat.zero_le _, I1, [], [], r, Grow.refl, R1.newOwn hD, hD1, upd_same, .nil, Nat.le_refl _, h2, rfl⟩, ?_⟩
  rintro i m H3 ⟨rfl, hil, I3, xs, done, rst, gr3, R3, n3, hD3, d3, hlen, hr3, er⟩
  have sI : Same I1 H3 := gr3.same.trans R3.si
  by_cases hlt : i < l.length
  · have hx : l[i]? = some l[i] := List.getElem?_eq_getElem hlt
    obtain ⟨t, ht1, ht2⟩ := lcL_at hx hr3
    obtain ⟨go, yl⟩ := wl.go i (enc l[i]) H3 sI (by rw [List.getElem?_map, hx]; rfl)
    refine .inr ⟨go, fun H' => ∃ I' xs done rst, Grow F I1 I' ∧ RS X.K F G σ H' I' ps ∧ I' D = none ∧ H' D = some (.lst xs) ∧ DqAll (rgN F I') xs (done.map enc) ∧ done.length ≤ i + 1 ∧ lcL oc oe (l.drop (i + 1)) = some rst ∧ r = done ++ rst,
      fun H' hN => ⟨l.length - (i + 1), by omega, rfl, hlt, hN⟩, fun x H4 y4 => ?_⟩
    have item : ∃ I4, Grow F I3 I4 ∧ RS X.K F G σ H4 I4 ps ∧ Dq I4 x (enc l[i]) ∧ I4 D = none ∧ H4 D = some (.lst xs) := by
      rcases yl x H4 y4 with ⟨e, d⟩ | ⟨T, o, n, e, d⟩
      · subst e; exact ⟨I3, Grow.refl, R3, Dq_mono gr3.same _ _ d, n3, hD3⟩
      · subst e
        have nT : D ≠ T := ne_of_none hD3 n
        refine ⟨upd I3 T o, R3.grow_new n, R3.new n, Dq_mono (fun b u q => ?_) _ _ d, by rw [upd_ne nT]; exact n3, by rw [upd_ne nT]; exact hD3⟩
        by_cases c : b = T
        · subst c; rw [upd_same] at q ⊢; exact q
        · rw [upd_ne c] at q ⊢; exact gr3.same _ _ q
    obtain ⟨I4, g4, R4, d4, n4, hD4⟩ := item
    -- within the turn the new list stands for others
    have inner : ∀ {H' I'}, RS X.K F G σ H' I' ps → I' D = none → H' D = some (.lst xs) → RS X.K (upd F D (.lst xs)) G σ H' I' ps := fun {H' I'} r n h => r.frame (fun b o z => by
      by_cases c : b = D
      · subst c; rw [upd_same] at z; cases z; exact h
      · rw [upd_ne c] at z; exact r.sf _ _ z) (fun i a ha => by rw [upd_ne (fun c : a = D => hDp i (by rw [← c]; exact ha))]; exact r.fo i a ha) (upd_iff n)
    have sF : Same F (upd F D (.lst xs)) := same_upd hDF
    have outer : ∀ {I' I''}, Grow (upd F D (.lst xs)) I' I'' → Grow F I' I'' := fun {I' I''} g => ⟨g.same, fun a h => (g.out a h).imp_right sF.free⟩
    have keepD : ∀ {I' I''}, Grow (upd F D (.lst xs)) I' I'' → I' D = none → I'' D = none := fun {I' I''} g n => by
      cases z : I'' D with
      | none => rfl
      | some o =>
        rcases g.out D (by rw [z]; simp) with h | h
        · exact absurd n h
        · rw [upd_same] at h; cases h
    have hpv := ownFree_ps R4 hf
    have Rw := (inner R4 n4 hD4).wiped vs hpv
    refine ht.go l[i] _ _ _ H4 I4 ps x _ Rw (fun j h => hpv j (hj j h)) d4 fun σ5 R5 w5 o5 => ⟨(w5 vs hj).trans wipe_wipe, ?_⟩
    -- what stands of the outer state behind
    have hG : ∀ (j : Nat) ds, slAt G j = .own ds → slAt (f (l[i]'hlt) (wipeG G vs)) j = .own ds ∧ j < (f (l[i]'hlt) (wipeG G vs)).length := fun j ds h => by
      have nv : j ∉ vs := fun z => by
        have q := List.all_eq_true.mp hf j z
        rw [h] at q; cases q
      have e : slAt (f (l[i]'hlt) (wipeG G vs)) j = .own ds := by rw [o5 j (fun z => nv (hj j z)), wipeG_out nv]; exact h
      refine ⟨e, ?_⟩
      by_cases c : j < (f (l[i]'hlt) (wipeG G vs)).length
      · exact c
      · rw [slAt_out (by omega)] at e; cases e
    refine ⟨l[i], t, ht1, upd F D (.lst xs), I4, ps, R5, fun H6 I6 g6 R6 => ?_⟩
    rcases ht2 with ⟨rfl, y, r', hy, er2, hr4⟩ | ⟨rfl, hr4⟩
    · refine iteT ⟨l[i], y, hy, upd F D (.lst xs), I6, ps, R6, fun v H7 I7 g7 R7 d7 => ?_⟩
      have g47 := outer (g6.trans g7)
      have hD7 : H7 D = some (.lst xs) := R7.sf _ _ upd_same
      have n7 : I7 D = none := keepD (g6.trans g7) n4
      have R8 := (R4.back R7 sF (g6.trans g7).same hG).wr (o := .lst (xs ++ [v])) n7 hDF hDp
      have lx : xs.length = done.length := by rw [d3.len, List.length_map]
      refine ⟨xs, hD7, by omega, I7, xs ++ [v], done ++ [y], r', gr3.trans (g4.trans g47), R8, n7, upd_same, ?_, by rw [List.length_append]; show done.length + 1 ≤ i + 1; omega, hr4, by rw [er, er2, List.append_assoc]; rfl⟩
      rw [List.map_append]
      exact (DqAll_mono (rgN_mono (g4.trans g47).same) _ _ d3).app (.cons (by rw [rgN_same (upd_iff n7)] at d7; exact d7) .nil)
    · have hD6 : H6 D = some (.lst xs) := R6.sf _ _ upd_same
      exact iteF ⟨I6, xs, done, rst, gr3.trans (g4.trans (outer g6)), R4.back R6 sF g6.same hG, keepD g6 n4, hD6, DqAll_mono (rgN_mono (g4.trans (outer g6)).same) _ _ d3, by omega, hr4, er⟩
  · have e : i = l.length := by omega
    subst e
    rw [List.drop_length] at hr3
    cases hr3
    rw [List.append_nil] at er
    subst er
    have wst := wl.st H3 sI
    rw [List.length_map] at wst
    exact .inl ⟨wst, q D xs H3 I3 (gr1.trans gr3) R3 n3 hDF hDp hD3 d3⟩
theorem eon_lc {e : Expr} {o : Option (List α)} (h : LCN X G e o) : EON X G e o := fun l hl => let ⟨t, p, _, w⟩ := h l hl; p.imp w
theorem lc_of_lcn {e : Expr} {o : Option (List α)} (h : LCN X G e o) : LC X G e o := fun l hl => let ⟨t, p, s, w⟩ := h l hl; ⟨t, p, s, fun σ H Q ⟨F, I, ps, R, q⟩ => w σ H Q ⟨F, I, ps, R, fun p xs H' I' g R' n1 n2 n3 hH d => q p xs H' I' g R' n1 n2 n3 hH (DqAll_mono rgN_le _ _ d)⟩⟩
end
/-! ### walks over lists of such -/
structure WlkN (K : PySem.W.Frag) (J : It) (I : Hp) (ds : List PyData) : Prop where
  go : ∀ (i : Nat) (d : PyData) (H : Hp), Same I H → ds[i]? = some d → J.go i H ∧ ∀ x H', J.yld i H x H' → H' = H ∧ Dq I x d
  st : ∀ (H : Hp), Same I H → J.stop ds.length H
def tIN (K : PySem.W.Frag) (G : List Sl) (ds : List PyData) (σ : L2.St) (H : Hp) (R : It → Hp → Prop) : Prop :=
  ∃ F I ps, RS K F G σ H I ps ∧ ∀ J H' I', Grow F I I' → RS K F G σ H' I' ps → WlkN K J (rgN F I') ds → ds.length ≤ sizeLine → R J H'
def ITN (X : Cx) (G : List Sl) (tg iter : Expr) {α : Type} [Enc α] (o : Option (List α)) : Prop := ∀ l, o = some l → PI X tg iter (tIN X.K G (l.map enc))
structure TgtN (K : PySem.W.Frag) (g : L2.TG) (js : List Nat) {α : Type} [Enc α] (f : α → List Sl → List Sl) : Prop where
  go : ∀ (x : α) (G : List Sl) (F : Hp) (σ : L2.St) (H I : Hp) (ps : Nat → Option Addr) (v : V) (Q : L2.St → Hp → Prop), RS K F G σ H I ps → (∀ j ∈ js, ps j = none) → Dq (rgN F I) v (enc x) →
    (∀ σ', RS K F (f x G) σ' H I ps → (∀ vs, (∀ j ∈ js, j ∈ vs) → wipe σ' vs = wipe σ vs) → (∀ i, i ∉ js → slAt (f x G) i = slAt G i) → Q σ' H) → g v σ H Q
def fNameN {α : Type} [Enc α] (i : Nat) : α → List Sl → List Sl := fun x G => G.set i (.nw (enc x))
theorem tgt_nameN {K : PySem.W.Frag} {α : Type} [Enc α] {i : Nat} : TgtN K (gName i) [i] (fNameN (α := α) i) := ⟨fun x G F σ H I ps v Q R hp d q => by
  have R1 := R.setNw (i := i) d
  rw [psDel_none (hp i (by simp))] at R1
  exact q _ R1 (fun vs h => wipe_set (h i (by simp))) fun j hj => slAt_set_ne fun e => hj (by simp [e])⟩
section
variable {X : Cx} {G : List Sl} {α : Type} [Enc α] {tg e : Expr}
theorem wlkN_list {K : PySem.W.Frag} {I : Hp} {a : Addr} {xs : List V} {ds : List PyData} (h1 : Rd I a (.lst xs)) (h2 : DqAll I xs ds) : WlkN K (Itl K a) I ds := by
  refine ⟨fun i d H s hd => ?_, fun H s => ⟨xs, (.inl (rd_mono s h1)), by rw [h2.len]; exact Nat.le_refl _⟩⟩
  obtain ⟨v, hv, dv⟩ := h2.at hd
  refine ⟨⟨xs, v, (.inl (rd_mono s h1)), hv⟩, fun x H' y => ?_⟩
  obtain ⟨e, y⟩ := y
  subst e
  have e2 := y xs (.inl (rd_mono s h1))
  rw [hv] at e2; cases e2
  exact ⟨rfl, dv⟩
theorem it_listN {o : Option (List α)} (h : EN X G e o) : ITN X G tg e o := fun l hl =>
  (pi_len (pi_list (h l hl)) fun σ H R R' w ⟨F, I, ps, r, q⟩ => ⟨F, I, ps, r, fun v H' I' g r' d => by obtain ⟨a, e, z, q⟩ := q v H' I' g r' d; exact ⟨a, e, z, w _ _ q⟩⟩).imp
  fun σ H R ⟨F, I, ps, r, q⟩ => ⟨F, I, ps, r, fun v H' I' g r' d => by
    cases d with
    | lst h1 h2 =>
      have h3 := rd_mono (rgN_le.trans r'.si) h1
      exact ⟨_, rfl, ⟨_, (.inl h3)⟩, fun lo => q _ _ I' g r' (wlkN_list h1 h2) (by rw [← h2.len]; exact (lo _ _).1 (.inl h3))⟩⟩
end
section
variable {X : Cx} {G : List Sl} {S S1 B R : Type} [Enc R] {P : S → List Sl} {P1 : S1 → List Sl} {PB : B → List Sl} {own : Rk} {rest body : List Stmt} {α : Type} [Enc α] {N : List Str} {sc : Scope} {fs : Option Scope} {k : Nat} {tg iter : Expr} {g : L2.TG} {js : List Nat} {f : α → List Sl → List Sl} {pos : Pos}
theorem sv_forN {step : S1 → α → Option (Out S1 S1 R)} {s0 : S1} {ol : Option (List α)} {kk : S1 → Option (Out S B R)} (C : Ctx X N sc fs k) (hi : ITN X G tg iter ol) (hg : PG X tg g) (ht : TgtN X.K g js f) (hu : ∀ s, unAt (P1 s) js = true) (hw : WkR G (P1 s0))
    (hb : ∀ s x, SV X (f x (P1 s)) body P1 P1 own.s (step s x)) (hk : ∀ s, SV X (P1 s) rest P PB own (kk s)) (hs : ∀ x, foldedSetIterable iter X.env x = pure x := by intro _; rfl) :
    SV X G (.For tg iter body [] pos :: rest) P PB own (ol.bind fun l => bindOut (forL step s0 l) kk) := fun y hy => by
  obtain ⟨l, h1, h2⟩ := bind_get hy
  unfold bindOut at h2
  obtain ⟨z, hz, h2⟩ := bind_get h2
  have pb : PSs X body (fun D σ H => ∃ s x o, step s x = some o ∧ tS X.K (f x (P1 s)) P1 P1 own.s o D σ H) := ⟨fun pins st σ H D I ⟨s, x, o, e, t⟩ => (hb s x o e).run pins st σ H D I t⟩
  have pf := ps_for (pos := pos) C.px C.calm (hi l h1) hg pb hs
  -- the loop, for any end wished
  have key : ∀ (D : Ends) (σ : L2.St) (H F I : Hp) (ps : Nat → Option Addr), RS X.K F G σ H I ps →
      (match z with
        | .nx s => ∀ σ' H' I' ps', Grow F I I' → RS X.K F (P1 s) σ' H' I' ps' → D.nx σ' H'
        | .rt r => ∀ v H' I', Grow F I I' → Same F H' → Same I' H' → RetR X.K own.k F I' H' v (enc r) → D.rt v H'
        | _ => True) → tFor (tIN X.K G (l.map enc)) g (fun D σ H => ∃ s x o, step s x = some o ∧ tS X.K (f x (P1 s)) P1 P1 own.s o D σ H) D σ H := by
    intro D σ H F I ps r q
    refine ⟨F, I, ps, r, fun J H1 I1 g1 r1 wl lenl => ?_⟩
    obtain ⟨I2, ps2, g2, r2⟩ := hw _ _ _ _ _ _ r1
    have gI : Grow F I I2 := g1.trans g2
    refine ⟨fun i m σ H => m = l.length - i ∧ i ≤ l.length ∧ ∃ s I' ps', forL step s (l.drop i) = some z ∧ Grow F I2 I' ∧ RS X.K F (P1 s) σ H I' ps', ⟨_, rfl, Nat.zero_le _, s0, I2, ps2, hz, Grow.refl, r2⟩, ?_⟩
    rintro i m σ3 H3 ⟨rfl, hi, s, I3, ps3, ez, g3, r3⟩
    have sI : Same I1 H3 := (g2.same.trans g3.same).trans r3.si
    by_cases hlt : i < l.length
    · have hx : l[i]? = some l[i] := List.getElem?_eq_getElem hlt
      obtain ⟨o, ho, hm⟩ := forL_at hx ez
      obtain ⟨go, yl⟩ := wl.go i (enc l[i]) H3 (rgN_le.trans sI) (by rw [List.getElem?_map, hx]; rfl)
      refine .inr ⟨go, fun σ' H' => ∃ s I' ps', forL step s (l.drop (i + 1)) = some z ∧ Grow F I2 I' ∧ RS X.K F (P1 s) σ' H' I' ps', fun σ' H' hN => ⟨l.length - (i + 1), by omega, rfl, hlt, hN⟩, fun x H4 y4 => ?_⟩
      -- the item's data in a persistent part
      have item : ∃ I4, Grow F I3 I4 ∧ RS X.K F (P1 s) σ3 H4 I4 ps3 ∧ Dq (rgN F I4) x (enc l[i]) := by
        obtain ⟨e, d⟩ := yl x H4 y4
        subst e; exact ⟨I3, Grow.refl, r3, Dq_mono (rgN_mono (g2.same.trans g3.same)) _ _ d⟩
      obtain ⟨I4, g4, r4, d4⟩ := item
      refine ht.go l[i] (P1 s) F σ3 H4 I4 ps3 x _ r4 (unAt_ps r4 (hu s)) d4 fun σ5 r5 _ _ => ?_
      refine ⟨s, l[i], o, ho, F, I4, ps3, r5, ?_⟩
      cases o with
      | nx s' => exact fun σ' H' I' ps' g' r' => ⟨s', I', ps', hm, g3.trans (g4.trans g'), r'⟩
      | ct s' => exact fun σ' H' I' ps' g' r' => ⟨s', I', ps', hm, g3.trans (g4.trans g'), r'⟩
      | bk s' =>
        have hm : z = .nx s' := hm
        subst hm
        exact fun σ' H' I' ps' g' r' => q σ' H' I' ps' (gI.trans (g3.trans (g4.trans g'))) r'
      | rt w =>
        have hm : z = .rt w := hm
        subst hm
        exact fun v H' I' g' s1 s2 rr => q v H' I' (gI.trans (g3.trans (g4.trans g'))) s1 s2 rr
    · have e := forL_end (by omega) ez
      subst e
      have wst := wl.st H3 (rgN_le.trans sI)
      rw [List.length_map, show l.length = i by omega] at wst
      exact .inl ⟨wst, q σ3 H3 I3 ps3 (gI.trans g3) r3⟩
  cases z with
  | nx s => exact (pss_cons pf (hk s y h2)).imp fun D σ H ⟨F, I, ps, r, q⟩ => key _ σ H F I ps r fun σ1 H1 I1 ps1 g1 r1 => tS_after (H := H) (ps := ps) (σ := σ) g1 r1 q
  | rt w => cases h2; exact (pss_cons pf pss_never).imp fun D σ H ⟨F, I, ps, r, q⟩ => key _ σ H F I ps r fun v H' I' g s1 s2 rr => q v H' I' g.b s1 s2 rr
  | bk b => cases h2; exact (pss_cons pf pss_never).imp fun D σ H ⟨F, I, ps, r, q⟩ => False.elim (by
      have : ∀ (s : S1) (l : List α) (b : B), forL step s l ≠ some (Out.bk b) := by
        intro s l b
        induction l generalizing s with
        | nil => intro h; cases h
        | cons x xs ih =>
          intro h
          unfold forL at h
          obtain ⟨o, _, h⟩ := bind_get h
          cases o with
          | nx s => exact ih s h
          | ct s => exact ih s h
          | bk s => cases h
          | rt r => cases h
      exact this s0 l b hz)
  | ct b => cases h2; exact (pss_cons pf pss_never).imp fun D σ H ⟨F, I, ps, r, q⟩ => False.elim (by
      have : ∀ (s : S1) (l : List α) (b : B), forL step s l ≠ some (Out.ct b) := by
        intro s l b
        induction l generalizing s with
        | nil => intro h; cases h
        | cons x xs ih =>
          intro h
          unfold forL at h
          obtain ⟨o, _, h⟩ := bind_get h
          cases o with
          | nx s => exact ih s h
          | ct s => exact ih s h
          | bk s => cases h
          | rt r => cases h
      exact this s0 l b hz)
end

section
variable {X : Cx} {G : List Sl} {α β : Type} [Enc α] [Enc β] {e a : Expr} {pos p : Pos} {N : List Str} {sc : Scope} {fs : Option Scope} {k : Nat}
theorem tN_bO {K : PySem.W.Frag} {r : List V → Hp → VK → Prop} {ds es : List PyData} (h : ∀ (F : Hp) (G : List Sl) (σ : L2.St) (H I : Hp) (ps : Nat → Option Addr) (ad : Addr) (xs : List V) (Q : VK), RS K F G σ H I ps → SqL K H ad xs → DqAll (rgN F I) xs ds → (∀ p ys, H p = none → DqAll (rgN F I) ys es → Q (.ref p) (upd H p (.lst ys))) → r [.ref ad] H Q)
    (σ : L2.St) (H : Hp) (Q : VK) (t : tON K G es σ H Q) : tCB r (tCons (tN K G (.list ds)) tNil) σ H Q := by
  obtain ⟨F, I, ps, R, q⟩ := t
  refine ⟨F, I, ps, R, fun v H1 I1 g1 R1 dv => ?_⟩
  cases dv with
  | lst k1 k2 =>
    refine h F G σ H1 I1 ps _ _ Q R1 (.inl (rd_mono (rgN_le.trans R1.si) k1)) k2 fun p ys hp dy => ?_
    exact q p ys _ I1 g1 (R1.newOwn hp) (R1.si.free hp) (R1.sf.free hp) (fun i c => by obtain ⟨_, _, _, z⟩ := R1.own_at c; rw [hp] at z; cases z) upd_same dy
theorem eon_sortedD [S : SortT α] [T : Sh α] {ol : Option (List α)} (C : Ctx X N sc fs k) (hg : glbB sc "sorted" = true) (hm : X.mg "sorted" = none) (h : EN X G e ol) (hs : starEach [e] X.env = (false, eval e X.env) :: starEach [] X.env := by rfl) (hd : T.dp ≤ 60 := by decide) : EON X G (.Call (.Name "sorted" p) [e] [] pos) (ol.bind sortD) := fun z hz => by
  obtain ⟨l, h1, h2⟩ := bind_get hz
  obtain ⟨⟨hok, hL⟩, e1⟩ := ite_get h2
  refine (b1 (id := "sorted") C hg hm (by decide +kernel) (cr_sortedD (α := α) C.rm.units hd) (h l h1) (by decide) hs).imp (tN_bO fun F G σ H I ps ad xs Q R s d q => ?_)
  refine ⟨ad, xs, l, rfl, s, DqAll_dp _ _ (DqAll_mono (rgN_le.trans R.si) _ _ d), hok, hL, fun zs p hp hs hn => ?_⟩
  have dz := dq_of (fun z hz => dq_zip d z (hp.mem_iff.mp hz))
  rw [hs, e1] at dz
  exact q p _ hn dz
theorem eon_listL {ol : Option (List α)} (C : Ctx X N sc fs k) (hg : glbB sc "list" = true) (hm : X.mg "list" = none) (h : EN X G e ol) (hs : starEach [e] X.env = (false, eval e X.env) :: starEach [] X.env := by rfl) : EON X G (.Call (.Name "list" p) [e] [] pos) ol := fun l h1 => by
  refine (bT C hg hm (by decide +kernel) call_list_of (h l h1) (by decide) hs).imp (tN_bO fun F G σ H I ps ad xs Q R s d q => ?_)
  exact ⟨ad, xs, rfl, .inl s, fun l hl => q l xs hl d⟩
end

/-! ### statements -/
section
variable {X : Cx} {G : List Sl} {S B R : Type} [Enc R] {P : S → List Sl} {PB : B → List Sl} {own : Rk} {rest : List Stmt} {N : List Str} {sc : Scope} {fs : Option Scope} {k i : Nat} {x : Str} {α β : Type} [Enc α] [Enc β] {e elt : Expr} {gs : List Comprehension} {scope : Scope} {pos p sp py : Pos}
/-- name = data whose lists are new -/
theorem sv_setN {oe : Option α} {kk : α → Option (Out S B R)} (C : Ctx X N sc fs k) (hl : locB N sc fs i x = true) (he : EN X G e oe) (hk : ∀ v, SV X (G.set i (.nw (enc v))) rest P PB own (kk v))
    (hs : swapsWith e (some (.Name x p)) pos.line X.env = pure false := by rfl) : SV X G (.Assign [.Name x p] e pos :: rest) P PB own (oe.bind kk) := fun y hy => by
  obtain ⟨v, h1, h2⟩ := bind_get hy
  obtain ⟨a1, a2, a3, a4⟩ := locB_ok C hl
  exact (pss_cons (ps_set a1 a2 a3 (he v h1) hs a4) (hk v y h2)).imp fun D σ H ⟨F, I, ps, Rr, q⟩ => ⟨F, I, ps, Rr, fun w H1 I1 g R1 d => tS_after (H := H) (ps := ps) (σ := σ) g (R1.setNw d) q⟩
theorem sv_setLN {oe : Option (List α)} {kk : List α → Option (Out S B R)} (C : Ctx X N sc fs k) (hx : swB N sc scope i x = true) (hl : (py.line == pos.line) = true) (he : LCN X G (.ListComp elt gs scope pos) oe) (hk : ∀ v : List α, SV X (G.set i (.nw (enc v))) rest P PB own (kk v)) :
    SV X G (.Assign [.Name x py] (.ListComp elt gs scope pos) sp :: rest) P PB own (oe.bind kk) := fun y hy => by
  obtain ⟨v, h1, h2⟩ := bind_get hy
  obtain ⟨t, _, st, w⟩ := he v h1
  obtain ⟨a1, a2, a3⟩ := swB_ok (sp := sp) C hx hl
  refine (pss_cons (st i x py sp a1 a2 a3) (hk v y h2)).imp fun D σ H ⟨F, I, ps, R, q⟩ => w σ H _ ⟨F, I, ps, R, fun p xs H1 I1 g R1 n1 n2 n3 hH d => ?_⟩
  obtain ⟨g', R2, d2⟩ := frz_new g R1 n1 n2 n3 hH (DqAll_mono rgN_le _ _ d)
  exact tS_after (H := H) (ps := ps) (σ := σ) g' (R2.setNw (.lst (.inl (rgN_new n2)) (DqAll_mono (rgN_mono (same_upd n1)) _ _ d))) q
theorem sv_retN {m : Bool} {oe : Option R} (he : EN X G e oe) : SV X G (.Return (some e) pos :: rest) P PB ⟨.nw, m⟩ (oe.bind fun r => some (.rt r)) := fun y hy => by
  obtain ⟨v, h1, h2⟩ := bind_get hy
  cases h2
  exact (pss_cons (ps_ret (he v h1)) pss_never).imp fun D σ H ⟨F, I, ps, Rr, q⟩ => ⟨F, I, ps, Rr, fun w H1 I1 g R1 d => q w H1 I1 g.b R1.sf R1.si d⟩
/-- an own list of data without lists becomes persistent, and is known to be new -/
theorem sv_frzN {l : List α} [LF α] {o : Option (Out S B R)} (hs : slAt G i = .own (l.map enc)) (h : SV X (G.set i (.nw (enc l))) rest P PB own o) : SV X G rest P PB own o := fun x hx => (h x hx).imp fun D σ H ⟨F, I, ps, R, q⟩ => by
  have hi := slot_lt hs (by simp)
  obtain ⟨I', g, R'⟩ := R.frz hs
  obtain ⟨v, h1, h2⟩ := R.sl i hi
  rw [hs] at h2
  obtain ⟨a, xs, e1, e2, n, hH, r⟩ := h2
  subst e2
  have R2 : RS X.K F ((G.set i (.dat (.list (l.map enc)))).set i (.nw (enc l))) (σ.set i (some (.ref a))) H I' (psDel (psDel ps i) i) := by
    refine R'.setNw ?_
    obtain ⟨w, k1, k2⟩ := R'.sl i (by rw [List.length_set]; exact hi)
    rw [slAt_set_self hi] at k2
    obtain ⟨_, z, ez, d⟩ := k2
    rw [h1] at k1; cases k1; cases ez
    cases d with
    | lst q1 q2 =>
      have q3 : H a = _ := R'.si a _ (by
        rcases q1 with q1 | ⟨o, q1⟩
        · exact q1
        · have := R'.si _ _ q1; rw [hH] at this; cases this)
      refine .lst (.inl ?_) (lfAll q2)
      rcases q1 with q1 | ⟨o, q1⟩
      · unfold rgN; rw [q1, R.fo i a e1]
      · have := R'.si _ _ q1; rw [hH] at this; cases this
  have e : σ.set i (some (.ref a)) = σ := by
    have hl : i < σ.length := by rw [← R.len]; exact hi
    have h1' : σ[i]? = some (some (V.ref a)) := h1
    apply List.ext_getElem?
    intro j
    by_cases c : j = i
    · subst c; rw [List.getElem?_set_self hl, h1']
    · rw [List.getElem?_set_ne (Ne.symm c)]
  rw [e, List.set_set] at R2
  exact tS_after (H := H) (ps := ps) (σ := σ) g R2 q

/-! ### a place from which on what is new may be spoilt -/
def refS : Sl → Sl
  | .dat d => .old d
  | .nw d => .old d
  | s => s
def plainS : Sl → Bool
  | .old _ => false
  | .nw _ => false
  | _ => true
theorem RS.plain {K : PySem.W.Frag} {F F' H I : Hp} {σ : L2.St} {ps : Nat → Option Addr} (R : RS K F G σ H I ps) (hp : G.all plainS = true) (s : Same F' H) (n : ∀ i a, ps i = some a → F' a = none) : RS K F' G σ H I ps := by
  refine ⟨R.si, s, n, R.len, fun i hi => ?_, R.out, R.dis⟩
  obtain ⟨v, h1, h2⟩ := R.sl i hi
  refine ⟨v, h1, ?_⟩
  have hq : plainS (slAt G i) = true := by
    have : ∀ (G : List Sl) (i : Nat), i < G.length → G.all plainS = true → plainS (slAt G i) = true := by
      intro G
      induction G with
      | nil => intro i h; simp at h
      | cons s r ih => intro i h q; cases i with
        | zero => simp at q; exact q.1
        | succ i => simp only [List.all_cons, Bool.and_eq_true] at q; exact ih i (by simpa using h) q.2
    exact this G i hi hp
  cases e : slAt G i with
  | un => rw [e] at h2; exact h2
  | dat d => rw [e] at h2; exact h2
  | own d => rw [e] at h2; exact h2
  | rd d => rw [e] at h2; exact h2
  | old d => rw [e] at hq; cases hq
  | nw d => rw [e] at hq; cases hq
open Classical in
theorem RS.refr {K : PySem.W.Frag} {F H I : Hp} {σ : L2.St} {ps : Nat → Option Addr} (R : RS K F G σ H I ps) : ∃ F', RS K F' (G.map refS) σ H I ps ∧ Same F F' ∧ (∀ a, I a ≠ none → F' a ≠ none) := by
  let F' : Hp := fun a => if ∃ i, ps i = some a then none else H a
  have off : ∀ {a}, (¬ ∃ i, ps i = some a) → F' a = H a := fun h => if_neg h
  have hI : ∀ a u, I a = some u → F' a = some u := fun a u h => by
    rw [off (fun ⟨i, hi⟩ => by rw [(R.own_at hi).1] at h; cases h)]; exact R.si _ _ h
  have sI : Same I (rgO F' I) := fun a u h => by unfold rgO; rw [hI a u h]; exact h
  refine ⟨F', ⟨R.si, fun a u h => ?_, fun i a h => if_pos ⟨i, h⟩, by rw [List.length_map]; exact R.len, fun i hi => ?_, fun i hi => R.out i (by rw [List.length_map] at hi; exact hi), R.dis⟩, fun a u h => ?_, fun a h => ?_⟩
  · by_cases c : ∃ i, ps i = some a
    · have : F' a = none := if_pos c
      rw [this] at h; cases h
    · rw [off c] at h; exact h
  · rw [List.length_map] at hi
    obtain ⟨v, h1, h2⟩ := R.sl i hi
    refine ⟨v, h1, ?_⟩
    have hm : slAt (G.map refS) i = refS (slAt G i) := by
      have : ∀ (G : List Sl) (i : Nat), i < G.length → slAt (G.map refS) i = refS (slAt G i) := by
        intro G
        induction G with
        | nil => intro i h; simp at h
        | cons s r ih => intro i h; cases i with
          | zero => rfl
          | succ i => exact ih i (by simpa using h)
      exact this G i hi
    rw [hm]
    cases e : slAt G i with
    | un => rw [e] at h2; exact h2
    | dat d => rw [e] at h2; obtain ⟨e1, x, e2, q⟩ := h2; exact ⟨e1, x, e2, Dq_mono sI _ _ q⟩
    | own d => rw [e] at h2; exact h2
    | rd d => rw [e] at h2; exact h2
    | old d => rw [e] at h2; obtain ⟨e1, x, e2, q⟩ := h2; exact ⟨e1, x, e2, Dq_mono (rgO_le.trans sI) _ _ q⟩
    | nw d => rw [e] at h2; obtain ⟨e1, x, e2, q⟩ := h2; exact ⟨e1, x, e2, Dq_mono (rgN_le.trans sI) _ _ q⟩
  · rw [off (fun ⟨i, hi⟩ => by rw [R.fo i a hi] at h; cases h)]; exact R.sf _ _ h
  · cases e : I a with
    | none => exact absurd e h
    | some u => rw [hI a u e]; simp
theorem sv_refr {kd : Rq} {m : Bool} {o : Option (Out S B R)} (hp : ∀ s, (P s).all plainS = true) (hb : ∀ s, (PB s).all plainS = true) (hk : kd ≠ .nw) (h : SV X (G.map refS) rest P PB ⟨kd, true⟩ o) : SV X G rest P PB ⟨kd, m⟩ o := fun x hx => (h x hx).imp fun D σ H ⟨F, I, ps, R, q⟩ => by
  obtain ⟨F', R', sF, hI⟩ := R.refr
  have gr : ∀ {I'}, GrowB true F' I I' → Grow F I I' := fun {I'} g => ⟨fun a u h => g.same _ _ (by
    have hn := hI a (by rw [h]; simp)
    unfold rgO
    cases e : F' a with
    | none => exact absurd e hn
    | some w => exact h), fun a h => by
    rcases g.out a h with z | z
    · exact .inl fun w => z (by unfold rgO; cases F' a <;> simp [w])
    · exact .inr (sF.free z)⟩
  have pl : ∀ {G' : List Sl} {σ' H' I' ps'}, G'.all plainS = true → RS X.K F' G' σ' H' I' ps' → RS X.K F G' σ' H' I' ps' := fun hG r => r.plain hG (sF.trans r.sf) fun i a h => sF.free (r.fo i a h)
  refine ⟨F', I, ps, R', ?_⟩
  cases x with
  | nx s => exact fun σ' H' I' ps' g r => q σ' H' I' ps' (gr g).b (pl (hp s) r)
  | bk s => exact fun σ' H' I' ps' g r => q σ' H' I' ps' (gr g).b (pl (hb s) r)
  | ct s => exact fun σ' H' I' ps' g r => q σ' H' I' ps' (gr g).b (pl (hb s) r)
  | rt r => exact fun v H' I' g s1 s2 rr => q v H' I' (gr g).b (sF.trans s1) s2 (by
      cases kd with
      | dd => exact rr
      | nw => exact absurd rfl hk
      | ow => obtain ⟨p, xs, ds, e1, e2, n1, n2, r1, r2⟩ := rr; exact ⟨p, xs, ds, e1, e2, n1, sF.free n2, r1, r2⟩)

/-! ### a store to a new list -/
def spoilS : Sl → Sl
  | .old d => .old d
  | _ => .un
/-- what is left of data some of whose new lists have grown by n -/
inductive Spn (F H : Hp) (n : Nat) : V → PyData → Prop
  | lst {a : Addr} {ys : List V} {ds : List PyData} : F a = none → H a = some (.lst ys) → ys.length ≤ ds.length + n → Spn F H n (.ref a) (.list ds)
  | tup {a : Addr} {xs : List V} {ds : List PyData} : Rd H a (.tup xs) → xs.length = ds.length → (∀ (i : Nat) (v : V) (d : PyData), xs[i]? = some v → ds[i]? = some d → Spn F H n v d) → Spn F H n (.ref a) (.tuple ds)
  | oth {v : V} {d : PyData} : (∀ ds, d ≠ .list ds) → (∀ ds, d ≠ .tuple ds) → Spn F H n v d
theorem sp_of {F H I : Hp} (s : Same I H) : ∀ (d : PyData) (v : V), Dq (rgN F I) v d → Spn F H 0 v d
  | .list ds, v, h => by
    cases h with | lst h1 h2 =>
    obtain ⟨q1, q2⟩ := rgN_lst h1
    exact .lst q2 (s _ _ q1) (by rw [h2.len]; exact Nat.le_refl _)
  | .tuple ds, v, h => by
    cases h with | tup h1 h2 =>
    refine .tup (rd_mono (rgN_le.trans s) h1) h2.len fun i v d hv hd => ?_
    obtain ⟨w, k1, k2⟩ := h2.at hd
    rw [hv] at k1; cases k1
    exact sp_of s d v k2
  | .none, _, _ => .oth (fun _ h => nomatch h) (fun _ h => nomatch h)
  | .bool _, _, _ => .oth (fun _ h => nomatch h) (fun _ h => nomatch h)
  | .int _, _, _ => .oth (fun _ h => nomatch h) (fun _ h => nomatch h)
  | .str _, _, _ => .oth (fun _ h => nomatch h) (fun _ h => nomatch h)
  | .dict _, _, h => by cases h
termination_by d => sizeOf d
decreasing_by
  have := List.mem_of_getElem? hd
  have := List.sizeOf_lt_of_mem this
  simp_wf; omega
theorem Spn.grow {F H H' : Hp} {n : Nat} (s : Same H H') {v : V} {d : PyData} (h : Spn F H n v d) : Spn F H' n v d := by
  induction h with
  | lst h1 h2 h3 => exact .lst h1 (s _ _ h2) h3
  | tup h1 h2 h3 ih => exact .tup (rd_mono s h1) h2 ih
  | oth h1 h2 => exact .oth h1 h2
theorem Spn.store {F H : Hp} {n : Nat} {a : Addr} {xs : List V} {w : V} (ha : H a = some (.lst xs)) {v : V} {d : PyData} (h : Spn F H n v d) : Spn F (upd H a (.lst (xs ++ [w]))) (n + 1) v d := by
  induction h with
  | lst h1 h2 h3 =>
    rename_i b ys ds
    by_cases c : b = a
    · subst c
      rw [ha] at h2; cases h2
      exact .lst h1 upd_same (by rw [List.length_append]; show xs.length + 1 ≤ _; omega)
    · exact .lst h1 (by rw [upd_ne c]; exact h2) (by omega)
  | tup h1 h2 h3 ih =>
    rename_i b ys ds
    refine .tup ?_ h2 ih
    have c : b ≠ a := fun c => by
      subst c
      rcases h1 with h1 | ⟨o, h1⟩ <;> (rw [ha] at h1; cases h1)
    unfold Rd at h1 ⊢
    rw [upd_ne c]; exact h1
  | oth h1 h2 => exact .oth h1 h2
theorem RS.spoil {K : PySem.W.Frag} {F H I : Hp} {σ : L2.St} {ps : Nat → Option Addr} (R : RS K F G σ H I ps) {a : Addr} {u : HO} (hF : F a = none) : RS K F (G.map spoilS) σ (upd H a u) (rgO F I) (fun _ => none) := by
  have idem : rgO F (rgO F I) = rgO F I := funext fun b => by unfold rgO; cases F b <;> rfl
  refine ⟨fun b x h => ?_, same_upd2 R.sf hF, fun i a h => (nomatch h), by rw [List.length_map]; exact R.len, fun i hi => ?_, fun _ _ => rfl, fun i j a h => (nomatch h)⟩
  · have c : b ≠ a := fun c => by subst c; unfold rgO at h; rw [hF] at h; cases h
    rw [upd_ne c]; exact R.si _ _ (rgO_le _ _ h)
  · rw [List.length_map] at hi
    obtain ⟨v, h1, h2⟩ := R.sl i hi
    refine ⟨v, h1, ?_⟩
    have hm : slAt (G.map spoilS) i = spoilS (slAt G i) := by
      have : ∀ (G : List Sl) (i : Nat), i < G.length → slAt (G.map spoilS) i = spoilS (slAt G i) := by
        intro G
        induction G with
        | nil => intro i h; simp at h
        | cons s r ih => intro i h; cases i with
          | zero => rfl
          | succ i => exact ih i (by simpa using h)
      exact this G i hi
    rw [hm]
    cases e : slAt G i with
    | old d => rw [e] at h2; obtain ⟨_, x, e2, q⟩ := h2; exact ⟨rfl, x, e2, by rw [idem]; exact q⟩
    | _ => exact rfl
/-- behind such stores: slot i holds what is left of d, grown by at most n -/
def tK {S B R : Type} [Enc R] (K : PySem.W.Frag) (G : List Sl) (i n : Nat) (d : PyData) (P : S → List Sl) (PB : B → List Sl) (own : Rk) (o : Out S B R) : TS := fun D σ H => ∃ F I, RS K F G σ H I (fun _ => none) ∧ (∀ b, I b ≠ none → F b ≠ none) ∧ (∃ v, σ[i]? = some (some v) ∧ Spn F H n v d) ∧
  match o with
    | .nx s => ∀ σ' H' I' ps', GrowB own.m F I I' → RS K F (P s) σ' H' I' ps' → D.nx σ' H'
    | .bk b => ∀ σ' H' I' ps', GrowB own.m F I I' → RS K F (PB b) σ' H' I' ps' → D.bk σ' H'
    | .ct b => ∀ σ' H' I' ps', GrowB own.m F I I' → RS K F (PB b) σ' H' I' ps' → D.ct σ' H'
    | .rt r => ∀ v H' I', GrowB own.m F I I' → Same F H' → Same I' H' → RetR K own.k F I' H' v (enc r) → D.rt v H'
def SVK {S B R : Type} [Enc R] (X : Cx) (G : List Sl) (i n : Nat) (d : PyData) (st : List Stmt) (P : S → List Sl) (PB : B → List Sl) (own : Rk) (o : Option (Out S B R)) : Prop := ∀ x, o = some x → PSs X st (tK X.K G i n d P PB own x)
theorem svk_done {n : Nat} {d : PyData} {o : Option (Out S B R)} (h : SV X G rest P PB own o) : SVK X G i n d rest P PB own o := fun x hx => (h x hx).imp fun D σ H ⟨F, I, R, _, _, q⟩ => ⟨F, I, _, R, q⟩
/-- a place within tuples -/
def ESp (X : Cx) (i : Nat) (e : Expr) (d d' : PyData) : Prop := PE X e fun σ H Q => ∃ F n v, σ[i]? = some (some v) ∧ Spn F H n v d ∧ ∀ u, Spn F H n u d' → Q u H
theorem esp_name {d : PyData} (C : Ctx X N sc fs k) (hv : visB N sc i x = true) : ESp X i (.Name x pos) d d := (pe_name C hv).imp fun σ H Q ⟨F, n, v, h1, h2, q⟩ => ⟨v, h1, q v h2⟩
theorem esp_proj {d d' : PyData} {ds : List PyData} {t : Int} {j : Nat} (h : ESp X i e d (.tuple ds)) (hd : atI ds t = some d') : ESp X i (.Subscript e (.Constant (.int t) j p) pos) d d' := by
  refine (pe_ix ix_tup h (pe_int (i := t)) (fun _ _ => rfl)).imp fun σ H Q ⟨F, n, v, h1, h2, q⟩ => ⟨F, n, v, h1, h2, fun u hu => ?_⟩
  cases hu with
  | tup k1 k2 k3 =>
    rename_i a xs
    unfold L2.atI at hd
    cases c : ixN ds.length t with
    | none => rw [c] at hd; cases hd
    | some m =>
      rw [c] at hd
      have hd : ds[m]? = some d' := hd
      have hl : m < xs.length := by rw [k2]; exact (List.getElem?_eq_some_iff.mp hd).1
      exact ⟨_, _, t, xs[m], rfl, rfl, .inl k1, by unfold L2.atI; rw [k2, c]; exact List.getElem?_eq_getElem hl, q _ (k3 m _ _ (List.getElem?_eq_getElem hl) hd)⟩
  | oth k1 k2 => exact absurd rfl (k2 _)
theorem esp_some {d : PyData} {l : β} (h : ESp X i e d (enc l)) : ∀ l', some l = some l' → ESp X i e d (enc l') := fun l' e => by cases e; exact h
theorem esp_opt {d : PyData} {v : Option β} (h : ESp X i e d (enc v)) : ∀ l, v = some l → ESp X i e d (enc l) := fun l e => by subst e; exact h
def roomG {α : Type} (n : Nat) (l : List α) : Option Unit := if l.length + n < sizeLine then some () else none
theorem SqL_of {K : PySem.W.Frag} {H : Hp} {a : Addr} {xs : List V} (h : H a = some (.lst xs)) : SqL K H a xs := .inl (.inl h)
theorem svk_app {n m : Nat} {d : PyData} {ol : Option (List β)} {x : α} {ap cp : Pos} {kk : Option (Out S B R)} {path : Expr} (hp : ∀ l, ol = some l → ESp X i path d (enc l)) (he : ED X (List.replicate m .un) e (some x)) (hN : G.length = m) (hk : SVK X G i (n + 1) d rest P PB ⟨own.k, true⟩ kk) (hab : attributeBase path (Str.ofString "append") X.env (eval path X.env) = eval path X.env := by rfl)
    (hfew : ((backTo cp (starEach [e] X.env)).all (fun x => !x.1) && (backToKw cp (keywordEach [] X.env)).all (fun x => x.1.isSome) && decide (([e] : List Expr).length + ([] : List Keyword).length + (if ([] : List Keyword).isEmpty then 0 else 1) < 30)) = true := by rfl) (hline : (ap.endLine == cp.line) = true := by rfl)
    (hs : starEach [e] X.env = (false, eval e X.env) :: starEach [] X.env := by rfl) : SVK X G i n d (.Expr (.Call (.Attribute path "append" ap) [e] [] cp) sp :: rest) P PB ⟨own.k, true⟩ ((ol.bind (roomG n)).bind fun _ => kk) := fun y hy => by
  obtain ⟨_, h1, h2⟩ := bind_get hy
  obtain ⟨l, h0, h1⟩ := bind_get h1
  have hp := hp l h0
  have hc : l.length + n < sizeLine := by
    unfold roomG at h1
    by_cases c : l.length + n < sizeLine
    · exact c
    · rw [if_neg c] at h1; cases h1
  refine (pss_cons (ps_expr (pe_bm PySem.F.plainAttrs_list PySem.F.slot_list_append PySem.F.type_list_append mt_append hp (pa_cons (he x rfl) pa_nil hs) hab hfew hline hs)) (hk y h2)).imp fun D σ H ⟨F, I, R, hIF, ⟨v, hv, hsp⟩, q⟩ => ?_
  refine ⟨F, n, v, hv, hsp, fun u hu => ?_⟩
  cases hu with
  | oth k1 k2 => exact absurd rfl (k1 _)
  | lst k1 k2 k3 =>
    rename_i a ys
    have R0 : RS X.K H (List.replicate m .un) σ H (fun _ => none) (fun _ => none) := ⟨fun b o z => (nomatch z), Same.refl _, fun i a z => (nomatch z), by rw [List.length_replicate, ← hN]; exact R.len, fun j hj => by
      rw [List.length_replicate] at hj
      have hj' : j < σ.length := by rw [← R.len, hN]; exact hj
      exact ⟨_, List.getElem?_eq_getElem hj', by rw [slAt_rep]; rfl⟩, fun _ _ => rfl, fun i j a z => (nomatch z)⟩
    refine ⟨.inl ⟨rfl, _, SqL_of k2⟩, H, _, _, R0, fun w H2 I2 g2 R2 d2 => ?_⟩
    have sH : Same H H2 := R2.sf
    have k2' := sH _ _ k2
    refine ⟨a, ys, w, rfl, rfl, k2', by rw [List.length_map] at k3; omega, ?_⟩
    have R3 : RS X.K F G σ H2 I (fun _ => none) := R.grow sH (R.si.trans sH) (Same.refl _) fun i a z => (nomatch z)
    have hI : I a = none := by
      cases c : I a with
      | none => rfl
      | some o => exact absurd k1 (hIF a (by rw [c]; simp))
    exact ⟨F, I, R3.wr hI k1 (fun _ z => nomatch z), hIF, ⟨v, hv, (hsp.grow sH).store k2'⟩, q⟩
/-- the first store, to a list that is known -/
theorem sv_spoil {γ : Type} [Enc γ] {d : PyData} {oe : Option γ} {ol : Option (List β)} {ap cp : Pos} {kk : Option (Out S B R)} {path : Expr} {kd : Rq} (hsl : slAt G i = .nw d) (hp : EN X G path ol) (he : ED X G e oe) (hk : SVK X (G.map spoilS) i 1 d rest P PB ⟨kd, true⟩ kk) (hab : attributeBase path (Str.ofString "append") X.env (eval path X.env) = eval path X.env := by rfl)
    (hfew : ((backTo cp (starEach [e] X.env)).all (fun x => !x.1) && (backToKw cp (keywordEach [] X.env)).all (fun x => x.1.isSome) && decide (([e] : List Expr).length + ([] : List Keyword).length + (if ([] : List Keyword).isEmpty then 0 else 1) < 30)) = true := by rfl) (hline : (ap.endLine == cp.line) = true := by rfl)
    (hs : starEach [e] X.env = (false, eval e X.env) :: starEach [] X.env := by rfl) : SV X G (.Expr (.Call (.Attribute path "append" ap) [e] [] cp) sp :: rest) P PB ⟨kd, true⟩ (bind2 (fun l x => (roomG 0 l).bind fun _ => kk) ol oe) := fun y hy => by
  obtain ⟨l, x, h1, h2, h3⟩ := bind2_get hy
  obtain ⟨_, h4, h5⟩ := bind_get h3
  have hc : l.length + 0 < sizeLine := by
    unfold roomG at h4
    by_cases c : l.length + 0 < sizeLine
    · exact c
    · rw [if_neg c] at h4; cases h4
  refine (pss_cons (ps_expr (pe_bm PySem.F.plainAttrs_list PySem.F.slot_list_append PySem.F.type_list_append mt_append (hp l h1) (pa_cons (he x h2) pa_nil hs) hab hfew hline hs)) (hk y h5)).imp fun D σ H ⟨F, I, ps, R, q⟩ => ⟨F, I, ps, R, fun v H1 I1 g1 R1 dv => ?_⟩
  cases dv with
  | lst k1 k2 =>
    rename_i a xs
    obtain ⟨q1, q2⟩ := rgN_lst k1
    refine ⟨.inl ⟨rfl, _, SqL_of (R1.si _ _ q1)⟩, F, I1, ps, R1, fun w H2 I2 g2 R2 d2 => ?_⟩
    have q3 := R2.si _ _ (g2.same _ _ q1)
    refine ⟨a, xs, w, rfl, rfl, q3, by rw [k2.len, List.length_map]; omega, ?_⟩
    obtain ⟨v0, k3, k4⟩ := R2.sl i (slot_lt hsl (by simp))
    rw [hsl] at k4
    obtain ⟨_, v1, e1, d1⟩ := k4
    subst e1
    refine ⟨F, rgO F I2, R2.spoil q2, fun b h => ?_, ⟨v1, k3, (sp_of R2.si d v1 d1).store q3⟩, ?_⟩
    · intro c
      exact h (by unfold rgO; rw [c])
    · have gg : GrowB true F I (rgO F I2) := rgO_grow (g1.trans g2)
      cases y with
      | nx s => exact fun σ' H' I' ps' g r => q σ' H' I' ps' (gg.trans g) r
      | bk s => exact fun σ' H' I' ps' g r => q σ' H' I' ps' (gg.trans g) r
      | ct s => exact fun σ' H' I' ps' g r => q σ' H' I' ps' (gg.trans g) r
      | rt r => exact fun v H' I' g s1 s2 rr => q v H' I' (gg.trans g) s1 s2 rr
/-- such a store, what it was is left alone -/
theorem sv_spoil0 {oe : Option β} {ol : Option (List β)} {ap cp : Pos} {kk : Option (Out S B R)} {path : Expr} {kd : Rq} (hp : EN X G path ol) (he : ED X G e oe) (hk : SV X (G.map spoilS) rest P PB ⟨kd, true⟩ kk) (hab : attributeBase path (Str.ofString "append") X.env (eval path X.env) = eval path X.env := by rfl)
    (hfew : ((backTo cp (starEach [e] X.env)).all (fun x => !x.1) && (backToKw cp (keywordEach [] X.env)).all (fun x => x.1.isSome) && decide (([e] : List Expr).length + ([] : List Keyword).length + (if ([] : List Keyword).isEmpty then 0 else 1) < 30)) = true := by rfl) (hline : (ap.endLine == cp.line) = true := by rfl)
    (hs : starEach [e] X.env = (false, eval e X.env) :: starEach [] X.env := by rfl) : SV X G (.Expr (.Call (.Attribute path "append" ap) [e] [] cp) sp :: rest) P PB ⟨kd, true⟩ (bind2 (fun l x => (roomG 0 l).bind fun _ => kk) ol oe) := fun y hy => by
  obtain ⟨l, x, h1, h2, h3⟩ := bind2_get hy
  obtain ⟨_, h4, h5⟩ := bind_get h3
  have hc : l.length + 0 < sizeLine := by
    unfold roomG at h4
    by_cases c : l.length + 0 < sizeLine
    · exact c
    · rw [if_neg c] at h4; cases h4
  refine (pss_cons (ps_expr (pe_bm PySem.F.plainAttrs_list PySem.F.slot_list_append PySem.F.type_list_append mt_append (hp l h1) (pa_cons (he x h2) pa_nil hs) hab hfew hline hs)) (hk y h5)).imp fun D σ H ⟨F, I, ps, R, q⟩ => ⟨F, I, ps, R, fun v H1 I1 g1 R1 dv => ?_⟩
  cases dv with
  | lst k1 k2 =>
    rename_i a xs
    obtain ⟨q1, q2⟩ := rgN_lst k1
    refine ⟨.inl ⟨rfl, _, SqL_of (R1.si _ _ q1)⟩, F, I1, ps, R1, fun w H2 I2 g2 R2 d2 => ?_⟩
    have q3 := R2.si _ _ (g2.same _ _ q1)
    refine ⟨a, xs, w, rfl, rfl, q3, by rw [k2.len, List.length_map]; omega, ?_⟩
    refine ⟨F, rgO F I2, _, R2.spoil q2, ?_⟩
    · have gg : GrowB true F I (rgO F I2) := rgO_grow (g1.trans g2)
      cases y with
      | nx s => exact fun σ' H' I' ps' g r => q σ' H' I' ps' (gg.trans g) r
      | bk s => exact fun σ' H' I' ps' g r => q σ' H' I' ps' (gg.trans g) r
      | ct s => exact fun σ' H' I' ps' g r => q σ' H' I' ps' (gg.trans g) r
      | rt r => exact fun v H' I' g s1 s2 rr => q v H' I' (gg.trans g) s1 s2 rr
end
end Lay

set_option Elab.async false
set_option linter.all false
set_option maxRecDepth 100000
/-! LayC: own lists lent for data without lists; pairs of stores; unpacking; index. -/
namespace Lay
open PySem PySem.Spec PyProof.Rows L2
open Lay.Enc (enc)
/-! ### lending -/
open Classical in
/-- what is known, without the own lists -/
noncomputable def offOwn (ps : Nat → Option Addr) (I : Hp) : Hp := fun a => if ∃ i, ps i = some a then none else I a
open Classical in
theorem lend_back {K : PySem.W.Frag} {F H I : Hp} {G : List Sl} {σ : L2.St} {ps : Nat → Option Addr} (R : RS K F G σ H I ps) : ∃ I2, Grow F I I2 ∧ RS K F (frzAll G) σ H I2 (fun _ => none) ∧ (∀ i a, ps i = some a → I2 a ≠ none) ∧
    ∀ H' I', Grow F I2 I' → RS K F (frzAll G) σ H' I' (fun _ => none) → RS K F G σ H' (offOwn ps I') ps ∧ Grow F I (offOwn ps I') ∧ ∀ a xs, Rd I' a (.tup xs) → Rd (offOwn ps I') a (.tup xs) := by
  obtain ⟨I2, g, R2, n2, back⟩ := lend_rs R
  refine ⟨I2, g, R2, n2, fun H' I' g' R' => ?_⟩
  have R3 := back H' I' g'.same R'
  have off : ∀ {a}, (¬ ∃ i, ps i = some a) → offOwn ps I' a = I' a := fun h => if_neg h
  have on : ∀ {i a}, ps i = some a → offOwn ps I' a = none := fun {i a} h => if_pos ⟨i, h⟩
  have nown : ∀ {a u}, I a = some u → ¬ ∃ i, ps i = some a := fun {a u} h ⟨i, hi⟩ => by rw [(R.own_at hi).1] at h; cases h
  have sI : Same I (offOwn ps I') := fun a u h => by rw [off (nown h)]; exact (g.same.trans g'.same) _ _ h
  have lst : ∀ {i a}, ps i = some a → ∃ xs, H' a = some (.lst xs) := fun {i a} h => (R3.own_at h).2.2
  refine ⟨R3.grow (Same.refl _) (fun a u h => ?_) sI fun i a h => on h, ⟨sI, fun a h => ?_⟩, fun a xs h => ?_⟩
  · by_cases c : ∃ i, ps i = some a
    · have : offOwn ps I' a = none := if_pos c
      rw [this] at h; cases h
    · rw [off c] at h; exact R'.si _ _ h
  · have h2 : I' a ≠ none := fun z => h (by
      by_cases c : ∃ i, ps i = some a
      · exact if_pos c
      · rw [off c]; exact z)
    have c : ¬ ∃ i, ps i = some a := fun c => h (if_pos c)
    rcases g'.out a h2 with z | z
    · rcases g.out a z with z | z
      · exact .inl z
      · exact .inr z
    · exact .inr z
  · have c : ¬ ∃ i, ps i = some a := fun ⟨i, hi⟩ => by
      obtain ⟨ys, hy⟩ := lst hi
      rcases h with h | ⟨o, h⟩ <;> (have := R'.si _ _ h; rw [hy] at this; cases this)
    unfold Rd
    rw [off c]; exact h
section
variable {X : Cx} {G : List Sl} {α : Type} [Enc α] {e : Expr}
theorem ed_lendF [S : LF α] {o : Option α} (h : ED X (frzAll G) e o) : ED X G e o := fun x hx => (h x hx).imp fun σ H Q ⟨F, I, ps, R, q⟩ => by
  obtain ⟨I2, g, R2, _, back⟩ := lend_back R
  refine ⟨F, I2, _, R2, fun v H' I' g' R' d => ?_⟩
  obtain ⟨R3, g3, t⟩ := back H' I' g' R'
  exact q v H' _ g3 R3 (S.mv x _ _ v t d)
theorem tO_lendF [S : LF α] {K : PySem.W.Frag} {l : List α} {σ : L2.St} {H : Hp} {Q : VK} (h : tO K G (l.map enc) σ H Q) : tO K (frzAll G) (l.map enc) σ H Q := by
  obtain ⟨F, I, ps, R, q⟩ := h
  obtain ⟨I2, g, R2, n2, back⟩ := lend_back R
  refine ⟨F, I2, _, R2, fun p xs H' I' g' R' n hF hp hH d => ?_⟩
  obtain ⟨R3, g3, t⟩ := back H' I' g' R'
  have np : ∀ i, ps i ≠ some p := fun i z => n2 i p z (g'.same.free n)
  refine q p xs H' _ g3 R3 ?_ hF np hH (mvAll t d)
  have c : ¬ ∃ i, ps i = some p := fun ⟨i, hi⟩ => np i hi
  exact (if_neg c).trans n
theorem eo_lendF [S : LF α] {o : Option (List α)} (h : EO X (frzAll G) e o) : EO X G e o := fun x hx => (h x hx).imp fun σ H Q t => tO_lendF t
theorem lc_lendF [S : LF α] {o : Option (List α)} (h : LC X (frzAll G) e o) : LC X G e o := fun l hl => by
  obtain ⟨t, h1, h2, h3⟩ := h l hl
  exact ⟨t, h1, h2, fun σ H Q w => h3 σ H Q (tO_lendF w)⟩
end

/-! ### a new list that waits -/
theorem pend {K : PySem.W.Frag} {F H I : Hp} {G : List Sl} {σ : L2.St} {ps : Nat → Option Addr} {p : Addr} {xs : List V} (R : RS K F G σ H I ps) (n1 : I p = none) (n2 : F p = none) (n3 : ∀ i, ps i ≠ some p) (hH : H p = some (.lst xs)) :
    RS K (upd F p (.lst xs)) G σ H I ps ∧ ∀ H' I', Grow (upd F p (.lst xs)) I I' → RS K (upd F p (.lst xs)) G σ H' I' ps → RS K F G σ H' I' ps ∧ Grow F I I' ∧ I' p = none ∧ H' p = some (.lst xs) := by
  have sF : Same F (upd F p (.lst xs)) := same_upd n2
  refine ⟨R.frame (fun b o z => ?_) (fun i a ha => by rw [upd_ne (fun c : a = p => n3 i (by rw [← c]; exact ha))]; exact R.fo i a ha) (upd_iff n1), fun H' I' g R' => ?_⟩
  · by_cases c : b = p
    · subst c; rw [upd_same] at z; cases z; exact hH
    · rw [upd_ne c] at z; exact R.sf _ _ z
  · have n : I' p = none := by
      cases w : I' p with
      | none => rfl
      | some o =>
        rcases g.out p (by rw [w]; simp) with h | h
        · exact absurd n1 h
        · rw [upd_same] at h; cases h
    exact ⟨R'.frame (sF.trans R'.sf) R.fo fun a z => (upd_iff n a z).symm, ⟨g.same, fun a h => (g.out a h).imp_right sF.free⟩, n, R'.sf _ _ upd_same⟩

/-! ### pairs of stores -/
section
variable {X : Cx} {G : List Sl} {S B R : Type} [Enc R] {P : S → List Sl} {PB : B → List Sl} {own : Rk} {rest : List Stmt} {N : List Str} {sc : Scope} {fs : Option Scope} {k i j : Nat} {x y : Str} {α β : Type} [Enc α] [Enc β] {a b : Expr} {px py pt pt2 sp : Pos} {kt k2 : Nat}
/-- what the compiler makes of the two stores -/
structure ParOk (X : Cx) (N : List Str) (sc : Scope) (i j : Nat) (x y : Str) (px py : Pos) (a b : Expr) (kt : Nat) (pt : Pos) (k2 : Nat) (pt2 : Pos) (sp : Pos) : Prop where
  i1 : X.N[i]? = some x
  i2 : X.env.scope.names.lookup x = some .local
  j1 : X.N[j]? = some y
  j2 : X.env.scope.names.lookup y = some .local
  hij : i ≠ j
  hw : swappedStores [.Tuple [.Name x px, .Name y py] kt pt] (.Tuple [a, b] k2 pt2) X.env = pure (some [x, y])
  s1 : starEach [a, b] X.env = (false, eval a X.env) :: starEach [b] X.env
  s2 : starEach [b] X.env = (false, eval b X.env) :: starEach [] X.env
  hsw : swapsWithSole [.Tuple [.Name x px, .Name y py] kt pt] (.Tuple [a, b] k2 pt2) sp.line X.env = pure false
theorem par_ok (C : Ctx X N sc fs k) (h1 : lclB N sc i x = true) (h2 : lclB N sc j y = true) (hij : i ≠ j) (hne : (x == y) = false) (hl : (px.line == py.line) = true)
    (hf : ([a, b].any fun | .Starred .. => true | _ => false) = false := by rfl) (hc : ([a, b].all (foldedForSure 8)) = false := by rfl) (hc2 : ([a, b].all (constantsAlone 8)) = false := by rfl)
    (s1 : starEach [a, b] X.env = (false, eval a X.env) :: starEach [b] X.env := by rfl) (s2 : starEach [b] X.env = (false, eval b X.env) :: starEach [] X.env := by rfl)
    (hsw : swapsWithSole [.Tuple [.Name x px, .Name y py] kt pt] (.Tuple [a, b] k2 pt2) sp.line X.env = pure false := by rfl) : ParOk X N sc i j x y px py a b kt pt k2 pt2 sp := by
  obtain ⟨i1, i2⟩ := lclB_ok C h1
  obtain ⟨j1, j2⟩ := lclB_ok C h2
  refine ⟨i1, i2, j1, j2, hij, ?_, s1, s2, hsw⟩
  have kx : X.env.kindOf x = some .local := i2
  have ky : X.env.kindOf y = some .local := j2
  have bk : X.env.blockKind = .function := by unfold Env.blockKind; rw [C.s, C.fk]; rfl
  unfold swappedStores
  have l2 : (py.line == px.line) = true := by rw [beq_iff_eq] at hl ⊢; exact hl.symm
  simp only [List.length_cons, List.length_nil, bk, hf, hc, hc2, List.head?_cons, Option.map_some, Expr.pos, Option.getD_some, List.filterMap_cons, kx, ky, l2, List.filterMap_nil]
  rw [if_neg (by decide), if_neg (by rw [Bool.not_eq_true]; exact hf)]
  have e1 : (some NameKind.local == some NameKind.local) = true := by decide
  have e3 : (y == x) = false := by rw [beq_eq_false_iff_ne] at hne ⊢; exact fun c => hne c.symm
  simp [e1, List.eraseDups, List.eraseDupsBy, List.eraseDupsBy.loop, e3, hne]
theorem psSet_ne {ps : Nat → Option Addr} {i : Nat} {a b : Addr} (h : ∀ j, ps j ≠ some b) (hab : a ≠ b) : ∀ j, psSet ps i a j ≠ some b := fun j => by
  unfold psSet; split
  · exact fun c => hab (Option.some.inj c)
  · exact h j
theorem psDel_ne {ps : Nat → Option Addr} {i : Nat} {b : Addr} (h : ∀ j, ps j ≠ some b) : ∀ j, psDel ps i j ≠ some b := fun j => by
  unfold psDel; split
  · exact fun c => nomatch c
  · exact h j
theorem sv_parOO {oa : Option (List α)} {ob : Option (List β)} {kk : List α → List β → Option (Out S B R)} (C : Ctx X N sc fs k) (O : ParOk X N sc i j x y px py a b kt pt k2 pt2 sp) (hi : i < G.length) (hj : j < G.length) (ha : EO X G a oa) (hb : EO X G b ob)
    (hk : ∀ v w, SV X ((G.set i (.own (v.map enc))).set j (.own (w.map enc))) rest P PB own (kk v w)) : SV X G (.Assign [.Tuple [.Name x px, .Name y py] kt pt] (.Tuple [a, b] k2 pt2) sp :: rest) P PB own (oa.bind fun v => ob.bind fun w => kk v w) := fun z hz => by
  obtain ⟨v, e1, hz⟩ := bind_get hz
  obtain ⟨w, e2, hz⟩ := bind_get hz
  refine (pss_cons (ps_par C.calm (by rw [C.n]; exact C.nd) O.i1 O.j1 O.hij O.i2 O.j2 (pa_cons (ha v e1) (pa_cons (hb w e2) pa_nil O.s2) O.s1) O.hw O.hsw) (hk v w z hz)).imp fun D σ H ⟨F, I, ps, Rr, q⟩ => ?_
  refine ⟨F, I, ps, Rr, fun p xs H1 I1 g1 R1 n1 n2 n3 hH d1 => ?_⟩
  obtain ⟨R1', bk⟩ := pend R1 n1 n2 n3 hH
  refine ⟨_, I1, ps, R1', fun p2 ys H2 I2 g2 R2 m1 m2 m3 hH2 d2 => ⟨_, _, rfl, ?_⟩⟩
  obtain ⟨R3, g3, n4, hp⟩ := bk H2 I2 g2 R2
  have ne : p2 ≠ p := fun c => by subst c; rw [upd_same] at m2; cases m2
  rw [upd_ne ne] at m2
  have R4 := R3.setOwn hi n4 n2 n3 hp (DqAll_mono g2.same _ _ d1)
  exact tS_after (H := H) (ps := ps) (σ := σ) (g1.trans g3) (R4.setOwn (by rw [List.length_set]; exact hj) m1 m2 (psSet_ne m3 (Ne.symm ne)) hH2 d2) q
theorem sv_parDO {oa : Option α} {ob : Option (List β)} {kk : α → List β → Option (Out S B R)} (C : Ctx X N sc fs k) (O : ParOk X N sc i j x y px py a b kt pt k2 pt2 sp) (hj : j < G.length) (ha : ED X G a oa) (hb : EO X G b ob)
    (hk : ∀ v w, SV X ((G.set i (.dat (enc v))).set j (.own (w.map enc))) rest P PB own (kk v w)) : SV X G (.Assign [.Tuple [.Name x px, .Name y py] kt pt] (.Tuple [a, b] k2 pt2) sp :: rest) P PB own (oa.bind fun v => ob.bind fun w => kk v w) := fun z hz => by
  obtain ⟨v, e1, hz⟩ := bind_get hz
  obtain ⟨w, e2, hz⟩ := bind_get hz
  refine (pss_cons (ps_par C.calm (by rw [C.n]; exact C.nd) O.i1 O.j1 O.hij O.i2 O.j2 (pa_cons (ha v e1) (pa_cons (hb w e2) pa_nil O.s2) O.s1) O.hw O.hsw) (hk v w z hz)).imp fun D σ H ⟨F, I, ps, Rr, q⟩ => ?_
  refine ⟨F, I, ps, Rr, fun v1 H1 I1 g1 R1 d1 => ⟨F, I1, ps, R1, fun p2 ys H2 I2 g2 R2 m1 m2 m3 hH2 d2 => ⟨_, _, rfl, ?_⟩⟩⟩
  exact tS_after (H := H) (ps := ps) (σ := σ) (g1.trans g2) ((R2.setDat (Dq_mono g2.same _ _ d1)).setOwn (by rw [List.length_set]; exact hj) m1 m2 (psDel_ne m3) hH2 d2) q
theorem sv_parOD {oa : Option (List α)} {ob : Option β} {kk : List α → β → Option (Out S B R)} (C : Ctx X N sc fs k) (O : ParOk X N sc i j x y px py a b kt pt k2 pt2 sp) (hi : i < G.length) (ha : EO X G a oa) (hb : ED X G b ob)
    (hk : ∀ v w, SV X ((G.set i (.own (v.map enc))).set j (.dat (enc w))) rest P PB own (kk v w)) : SV X G (.Assign [.Tuple [.Name x px, .Name y py] kt pt] (.Tuple [a, b] k2 pt2) sp :: rest) P PB own (oa.bind fun v => ob.bind fun w => kk v w) := fun z hz => by
  obtain ⟨v, e1, hz⟩ := bind_get hz
  obtain ⟨w, e2, hz⟩ := bind_get hz
  refine (pss_cons (ps_par C.calm (by rw [C.n]; exact C.nd) O.i1 O.j1 O.hij O.i2 O.j2 (pa_cons (ha v e1) (pa_cons (hb w e2) pa_nil O.s2) O.s1) O.hw O.hsw) (hk v w z hz)).imp fun D σ H ⟨F, I, ps, Rr, q⟩ => ?_
  refine ⟨F, I, ps, Rr, fun p xs H1 I1 g1 R1 n1 n2 n3 hH d1 => ?_⟩
  obtain ⟨R1', bk⟩ := pend R1 n1 n2 n3 hH
  refine ⟨_, I1, ps, R1', fun w1 H2 I2 g2 R2 d2 => ⟨_, _, rfl, ?_⟩⟩
  obtain ⟨R3, g3, n4, hp⟩ := bk H2 I2 g2 R2
  have R4 := R3.setOwn hi n4 n2 n3 hp (DqAll_mono g2.same _ _ d1)
  exact tS_after (H := H) (ps := ps) (σ := σ) (g1.trans g3) (R4.setDat d2) q
def list2 {α : Type} (l : List α) : Option (T2 α α) := match l with
  | [v, w] => some ⟨v, w⟩
  | _ => none
/-- two items of a list are unpacked -/
theorem sv_unl2 {oe : Option (List α)} {kk : T2 α α → Option (Out S B R)} {e : Expr} (C : Ctx X N sc fs k) (h1 : locB N sc fs i x = true) (h2 : locB N sc fs j y = true) (hij : i ≠ j) (he : EO X G e oe)
    (hk : ∀ t : T2 α α, SV X ((G.set i (.dat (enc t.a))).set j (.dat (enc t.b))) rest P PB own (kk t)) (hs : swapsWithSole [.Tuple [.Name x px, .Name y py] kt pt] e sp.line X.env = pure false := by rfl) (hw : swappedStores [.Tuple [.Name x px, .Name y py] kt pt] e X.env = pure none := by rfl) (h3 : (assignEach [.Tuple [.Name x px, .Name y py] kt pt] X.env).map (·.2) = [assign (.Tuple [.Name x px, .Name y py] kt pt) X.env] := by rfl) :
    SV X G (.Assign [.Tuple [.Name x px, .Name y py] kt pt] e sp :: rest) P PB own ((oe.bind list2).bind kk) := fun z hz => by
  obtain ⟨t, e1, hz⟩ := bind_get hz
  obtain ⟨l, e2, e3⟩ := bind_get e1
  obtain ⟨v, w, el, et⟩ : ∃ v w, l = [v, w] ∧ t = ⟨v, w⟩ := by
    unfold list2 at e3
    split at e3
    · exact ⟨_, _, rfl, (Option.some.inj e3).symm⟩
    · cases e3
  subst el et
  refine (pss_cons (ps_asg (he _ e2) (pg_unl C.calm (pgs_cons (pgN C h1) (pgs_cons (pgN C h2) pgs_nil))) hs hw h3) (hk ⟨v, w⟩ z hz)).imp fun D σ H ⟨F, I, ps, Rr, q⟩ => ⟨F, I, ps, Rr, fun p xs H1 I1 g1 R1 n1 n2 n3 hH d1 => ?_⟩
  cases d1 with
  | cons d1 r => cases r with
    | cons d2 r =>
      cases r
      exact ⟨p, _, rfl, .inl (.inl hH), rfl, _, _, rfl, _, _, rfl, rfl, tS_after (H := H) (ps := ps) (σ := σ) g1 ((R1.setDat d1).setDat d2) q⟩
end

/-! ### tuples of one kind, unpacked -/
def tup2 {α : Type} (t : Tup α) : Option (T2 α α) := match t.l with
  | [a, b] => some ⟨a, b⟩
  | _ => none
def tup3 {α : Type} (t : Tup α) : Option (T3 α α α) := match t.l with
  | [a, b, c] => some ⟨a, b, c⟩
  | _ => none
theorem tup2_enc {α : Type} [Enc α] (t : Tup α) (y : T2 α α) (h : tup2 t = some y) : enc y = enc t := by
  obtain ⟨l⟩ := t
  unfold tup2 at h
  split at h
  · rename_i e; have e : l = _ := e; subst e; cases h; rfl
  · cases h
theorem tup3_enc {α : Type} [Enc α] (t : Tup α) (y : T3 α α α) (h : tup3 t = some y) : enc y = enc t := by
  obtain ⟨l⟩ := t
  unfold tup3 at h
  split at h
  · rename_i e; have e : l = _ := e; subst e; cases h; rfl
  · cases h
def mapO {α β : Type} (c : α → Option β) : List α → Option (List β)
  | [] => some []
  | x :: r => (c x).bind fun y => (mapO c r).bind fun s => some (y :: s)
theorem mapO_enc {α β : Type} [Enc α] [Enc β] (c : α → Option β) (hc : ∀ x y, c x = some y → enc y = enc x) : ∀ {l : List α} {m : List β}, mapO c l = some m → m.map enc = l.map enc
  | [], m, h => by cases h; rfl
  | x :: r, m, h => by
    obtain ⟨y, h1, h⟩ := bind_get h
    obtain ⟨s, h2, h⟩ := bind_get h
    cases h
    rw [List.map_cons, List.map_cons, hc x y h1, mapO_enc c hc h2]
section
variable {X : Cx} {G : List Sl} {α β : Type} [Enc α] [Enc β] {tg e a b : Expr} {pos p : Pos} {N : List Str} {sc : Scope} {fs : Option Scope} {k : Nat}
theorem it_coeP {o : Option (List α)} (c : α → Option β) (hc : ∀ x y, c x = some y → enc y = enc x) (h : IT X G tg e o) : IT X G tg e (o.bind (mapO c)) := fun m hm => by
  obtain ⟨l, h1, h2⟩ := bind_get hm
  rw [mapO_enc c hc h2]; exact h l h1

end
/-! ### truth of lists, numbers -/
class Tru (α : Type) [Enc α] where
  tr : α → Bool
  ok : ∀ (x : α) (K : PySem.W.Frag) (I H : Hp) (v : V), Same I H → Dq I v (enc x) → TruV K v H (tr x)
theorem isEmpty_len {xs : List V} {ds : List PyData} {H : Hp} (h : DqAll H xs ds) : xs.isEmpty = ds.isEmpty := by cases h <;> rfl
instance : Tru Int := ⟨fun i => i != 0, fun x K I H v s d => by cases d; rfl⟩
instance : Tru Bool := ⟨fun i => i, fun x K I H v s d => by cases d; rfl⟩
instance {α : Type} [Enc α] : Tru (List α) := ⟨fun l => !l.isEmpty, fun x K I H v s d => by
  cases d with | lst h1 h2 => exact .inl ⟨_, .inl (rd_mono s h1), by rw [isEmpty_len h2]; cases x <;> rfl⟩⟩
instance {α : Type} [Enc α] : Tru (Tup α) := ⟨fun l => !l.l.isEmpty, fun x K I H v s d => by
  cases d with | tup h1 h2 => exact .inr (.inl ⟨_, .inl (rd_mono s h1), by rw [isEmpty_len h2]; obtain ⟨l⟩ := x; cases l <;> rfl⟩)⟩
instance {α β : Type} [Enc α] [Enc β] : Tru (T2 α β) := ⟨fun _ => true, fun x K I H v s d => by
  cases d with | tup h1 h2 => exact .inr (.inl ⟨_, .inl (rd_mono s h1), by rw [isEmpty_len h2]; rfl⟩)⟩
instance {α β γ : Type} [Enc α] [Enc β] [Enc γ] : Tru (T3 α β γ) := ⟨fun _ => true, fun x K I H v s d => by
  cases d with | tup h1 h2 => exact .inr (.inl ⟨_, .inl (rd_mono s h1), by rw [isEmpty_len h2]; rfl⟩)⟩
instance {α : Type} [Enc α] [S : Tru α] : Tru (Option α) := ⟨fun o => match o with | none => false | some x => S.tr x, fun x K I H v s d => by
  cases x with
  | none => cases d; rfl
  | some x => exact S.ok x K I H v s d⟩
section
variable {X : Cx} {G : List Sl} {α β : Type} [Enc α] [Enc β] {tg e a b : Expr} {pos p : Pos} {N : List Str} {sc : Scope} {fs : Option Scope} {k : Nat}
theorem eb_truth [S : Tru α] {o : Option α} (h : ED X G e o) (he : ∀ whole, isTrue e X.env whole = (do let v ← whole; standAt e.pos; holding [v] (truthy v)) := by intro _; rfl) : EB X G e (lift1 S.tr o) := fun k hk => by
  obtain ⟨x, h1, h2⟩ := lift1_get hk
  subst h2
  exact (pt_truth (h x h1) he).imp fun σ H Q ⟨F, I, ps, R, q⟩ => ⟨F, I, ps, R, fun v H' I' g R' d => ⟨_, S.ok x _ _ _ _ R'.si d, q _ _ g R'⟩⟩
/-! ### is True -/
theorem ec_isB {oa ob : Option Bool} (ha : ED X G a oa) (hb : ED X G b ob) (hm : behindInMarks .Is b = false := by rfl) : EC X G .Is a b (lift2 (fun i j => decide (i = j)) oa ob) := ec_of op_isBl (fun x y => by
  intro F G σ H I ps v w Q R hv hw q
  cases hv; cases hw
  exact ⟨x, y, rfl, rfl, q _ _ _ Grow.refl R (.bl _)⟩) hm ha hb
theorem ec_notB {oa ob : Option Bool} (ha : ED X G a oa) (hb : ED X G b ob) (hm : behindInMarks .IsNot b = false := by rfl) : EC X G .IsNot a b (lift2 (fun i j => !decide (i = j)) oa ob) := ec_of op_notBl (fun x y => by
  intro F G σ H I ps v w Q R hv hw q
  cases hv; cases hw
  exact ⟨x, y, rfl, rfl, q _ _ _ Grow.refl R (.bl _)⟩) hm ha hb
/-! ### l.index(x) -/
def indexG {α : Type} [DecidableEq α] (l : List α) (x : α) : Option Int := (l.findIdx? fun y => decide (y = x)).map fun i => (i : Int)
theorem index_spec {α : Type} [DecidableEq α] {l : List α} {x : α} {z : Int} (h : indexG l x = some z) : ∃ j : Nat, z = j ∧ l[j]? = some x ∧ ∀ m, m < j → l[m]? ≠ some x := by
  unfold indexG at h
  cases e : l.findIdx? fun y => decide (y = x) with
  | none => rw [e] at h; cases h
  | some j =>
    rw [e] at h
    cases h
    obtain ⟨hj, h1, h2⟩ := List.findIdx?_eq_some_iff_getElem.mp e
    refine ⟨j, rfl, ?_, fun m hm c => ?_⟩
    · rw [List.getElem?_eq_getElem hj]; simpa using h1
    · have := h2 m hm
      have hl : m < l.length := by omega
      rw [List.getElem?_eq_getElem hl] at c
      simp only [Option.some.injEq] at c
      rw [c] at this
      simp at this
theorem ed_index [DecidableEq α] [EqL α] [S : Sh α] {ol : Option (List α)} {oe : Option α} {ap cp : Pos} (C : Ctx X N sc fs k) (hl : ED X G a ol) (he : ED X G e oe) (hd : S.dp ≤ 59 := by decide)
    (hab : attributeBase a (Str.ofString "index") X.env (eval a X.env) = eval a X.env := by rfl)
    (hfew : ((backTo cp (starEach [e] X.env)).all (fun x => !x.1) && (backToKw cp (keywordEach [] X.env)).all (fun x => x.1.isSome) && decide (([e] : List Expr).length + ([] : List Keyword).length + (if ([] : List Keyword).isEmpty then 0 else 1) < 30)) = true := by rfl) (hline : (ap.endLine == cp.line) = true := by rfl)
    (hs : starEach [e] X.env = (false, eval e X.env) :: starEach [] X.env := by rfl) : ED X G (.Call (.Attribute a "index" ap) [e] [] cp) (bind2 indexG ol oe) := fun z hz => by
  obtain ⟨l, x, h1, h2, h3⟩ := bind2_get hz
  obtain ⟨j, e1, e2, e3⟩ := index_spec h3
  subst e1
  refine (pe_bm PySem.F.plainAttrs_list PySem.F.slot_list_index PySem.F.type_list_index (mt_indexD (by have := C.rm.un; omega)) (hl l h1) (pa_cons (he x h2) pa_nil hs) hab hfew hline hs).imp fun σ H Q ⟨F, I, ps, R, q⟩ => ?_
  refine ⟨F, I, ps, R, fun v H1 I1 g1 R1 d1 => ⟨?_, F, I1, ps, R1, fun w H2 I2 g2 R2 d2 => ?_⟩⟩
  · cases d1 with | lst k1 k2 => exact .inl ⟨rfl, _, .inl (rd_mono R1.si k1)⟩
  · have d1 := Dq_mono g2.same _ _ d1
    have hno : ∀ (m : Nat) (z' : PyData), m < j → (l.map enc)[m]? = some z' → PyData.eqv z' (enc x) = false := fun m z' hm hz => by
      rw [List.getElem?_map] at hz
      cases c : l[m]? with
      | none => rw [c] at hz; cases hz
      | some y =>
        rw [c] at hz; cases hz
        rw [EqL.eqv, decide_eq_false_iff_not]
        exact fun q => e3 m hm (by rw [c, q])
    cases d1 with
    | lst k1 k2 => exact ⟨_, w, enc x, l.map enc, j, enc x, rfl, rfl, .lst (.inl (rd_mono R2.si k1)) (DqAll_toDp R2.si k2), Dq_dp _ _ (Dq_mono R2.si _ _ d2), shaped_of (α := List α) (Nat.succ_le_succ hd) l, shaped_of (Nat.le_trans hd (by decide)) x, by rw [List.getElem?_map, e2]; rfl, by rw [EqL.eqv]; simp, hno, q _ _ _ (g1.trans g2) R2 (.int _)⟩
end
end Lay

set_option Elab.async false
set_option linter.all false
set_option maxRecDepth 100000
set_option maxHeartbeats 4000000
/-! LayD: a tuple repeated. -/
namespace Lay
open PySem PySem.Spec PyProof.Rows L2
open Lay.Enc (enc)
/-- a tuple times 1 is the tuple itself -/
theorem mul_once (a : Addr) (its : Array Value) (n : Nat) (dd : Option Addr) (sl : Array (Option Value)) (u : Tok) (c0 : its.isEmpty = false) :
    Meets (Builtin.«tuple.__mul__» ⟨[.ref a, .int 1 u], []⟩) (fun _ R s => s.heap.get? a = some { cls := .type "tuple", dict := dd, data := .seq its n, slots := sl } ∧ R (.ok (.ret (.ref a))) s) := by
  refine .of_wp fun prog w A R s h => ?_
  obtain ⟨hp, g, d, tk, os⟩ := s
  obtain ⟨ha, h⟩ := h
  have f1 := AutoSeq1.idx_int
  have c1 : (its.isEmpty || (1 : Int) == 1) = true := by rw [c0]; rfl
  wp_walk using wpAny_loadPart' ha
  exact ⟨_, rfl, h⟩
section
variable {X : Cx}
def rOnceT (K : PySem.W.Frag) : R2 := fun x y H Q => ∃ l xs, x = .ref l ∧ y = .int 1 ∧ SqT K H l xs ∧ xs ≠ [] ∧ Q (.ref l) H
theorem op_onceT : OpR X (binaryOp .Mult) (rOnceT X.K) := by
  intro pins s σ H x y v u Q I rx ry ⟨l, xs, ex, ey, hT, ne, q⟩
  subst ex ey
  cases rx
  obtain ⟨t, e⟩ := ry
  subst e
  obtain ⟨its, rv, ⟨⟨cls, dd, data, sl⟩, ho, hc, n, hd⟩, _⟩ := I.tuple hT
  change cls = _ at hc
  change data = _ at hd
  subst hc hd
  have full : its.toArray.isEmpty = false := by
    cases its with
    | cons _ _ => rfl
    | nil => cases rv; exact absurd rfl ne
  have typ : ∀ s' : Shared, s'.TypeIs (Value.int 1 t) "int" := fun s' => typeIs_int s' 1 t
  refine wpAny_binaryOp_repeat_ref (T := "tuple") (U := "int") (by decide) ⟨_, ho, rfl⟩ typ noFill_tuple_mul F.fills_int_mul F.slot_int_rmul repeat_tuple F.slot_int_index.lookup ?_
  refine call_meets F.slot_int_rmul (typ s) F.entry_int_rmul (F.args_int_rmul_2 _ _) (int_rmul_tuple 1 t l its.toArray n dd sl) ⟨ho, rfl, ⟨_, ho, rfl⟩, ?_⟩
  exact call_meets F.slot_tuple_mul ⟨_, ho, rfl⟩ F.entry_tuple_mul (F.args_tuple_mul_2 _ _) (mul_once l its.toArray n dd sl t full) ⟨ho, .ref l, H, I, rfl, q⟩
theorem op_either {op : Value → Value → Sem Value} {r r' : R2} (h : OpR X op r) (h' : OpR X op r') : OpR X op (fun x y H Q => r x y H Q ∨ r' x y H Q) := by
  intro pins s σ H x y v u Q I rx ry q
  rcases q with q | q
  · exact h pins s σ H x y v u Q I rx ry q
  · exact h' pins s σ H x y v u Q I rx ry q
def repTG {α : Type} (t : Tup α) (k : Int) : Option (Tup α) := if (t.l.length ≤ 1000 ∧ 1 ≤ t.l.length) ∧ (1 ≤ k ∧ k ≤ 1000) then some ⟨(List.replicate k.toNat t.l).flatten⟩ else none
variable {G : List Sl} {α : Type} [Enc α] {a b : Expr} {pos : Pos}
theorem ed_repT {oa : Option (Tup α)} {ob : Option Int} (ha : ED X G a oa) (hb : ED X G b ob) : ED X G (.BinOp a .Mult b pos) (bind2 repTG oa ob) := fun z hz => by
  obtain ⟨t, k, h1, h2, h3⟩ := bind2_get hz
  obtain ⟨⟨⟨c1, c2⟩, c3, c4⟩, e⟩ := ite_get h3
  subst e
  refine (pe_op (op_either op_onceT op_repT) (ha t h1) (hb k h2)).imp (tD_op ?_)
  intro F G σ H I ps v w Q R hv hw q
  cases hw
  cases hv with
  | tup k1 k2 =>
    rename_i ad xs
    have lx : xs.length = t.l.length := by rw [k2.len, List.length_map]
    have hne : xs ≠ [] := fun c => by rw [c] at lx; simp at lx; omega
    have hs : SqT X.K H ad xs := .inl (rd_mono R.si k1)
    by_cases c : k = 1
    · subst c
      refine .inl ⟨ad, xs, rfl, rfl, hs, hne, q _ _ _ Grow.refl R ?_⟩
      show Dq I (.ref ad) (.tuple ((List.replicate (1 : Int).toNat t.l).flatten.map enc))
      rw [show (List.replicate (1 : Int).toNat t.l).flatten = t.l by simp]
      exact .tup k1 k2
    · refine .inr ⟨ad, k, xs, rfl, rfl, hs, hne, by omega, c4, by omega, fun p hp => q (.ref p) _ _ (R.grow_new hp) (R.new hp) ?_⟩
      have := (DqAll_mono (R.grow_new (o := .tup (List.replicate k.toNat xs).flatten) hp).same _ _ k2).rep k.toNat
      refine .tup (.inl upd_same) ?_
      rw [show (List.replicate k.toNat (t.l.map enc)).flatten = ((List.replicate k.toNat t.l).flatten).map enc by rw [List.map_flatten, List.map_replicate]] at this
      exact this
end
end Lay

set_option Elab.async false
set_option linter.all false
set_option maxRecDepth 100000
/-! LayQ: fractions as rational numbers. -/
namespace Lay
open PySem PySem.Spec PyProof.Rows L2
open Lay.Enc (enc)
/-! ### step by step -/
section
variable {α β S S' B R : Type}
theorem ok_set {m : Option α} {k : α → Option β} {P : β → Prop} {v : α} (h : m = some v) (p : Ok (k v) P) : Ok (m.bind k) P := ok_bind.mpr ⟨v, h, p⟩
theorem ok_let {m : Option α} {k : α → Option β} {P : β → Prop} (Q : α → Prop) (h : Ok m Q) (p : ∀ v, Q v → Ok (k v) P) : Ok (m.bind k) P := ok_bind.mpr (ok_mono h p)
/-- the test fails -/
theorem ok_skip {m : Option Bool} {a : Option (Out S B R)} {s : S} {k : S → Option (Out S' B R)} {P : Out S' B R → Prop} (h : Ok m fun t => t = false) (p : Ok (k s) P) : Ok (m.bind fun t => bindOut (bif t then a else some (.nx s)) k) P := by
  obtain ⟨t, e, rfl⟩ := h
  exact ok_set e (ok_bindOut.mpr ⟨_, rfl, p⟩)
theorem ok_ifS {m : Option Bool} {a b : Option (Out S B R)} {k : S → Option (Out S' B R)} {P : Out S' B R → Prop} (I : S → Prop) (h : Ok m fun t => (t = true → Ok a (Nx I)) ∧ (t = false → Ok b (Nx I))) (p : ∀ s, I s → Ok (k s) P) : Ok (m.bind fun t => bindOut (bif t then a else b) k) P := by
  obtain ⟨t, e, h1, h2⟩ := h
  have : ∀ o : Option (Out S B R), Ok o (Nx I) → Ok (bindOut o k) P := fun o ⟨x, ex, hx⟩ => by
    cases x with
    | nx s => exact ok_bindOut.mpr ⟨_, ex, p s hx⟩
    | bk s => exact hx.elim
    | ct s => exact hx.elim
    | rt s => exact hx.elim
  refine ok_set e ?_
  cases t with
  | true => exact this _ (h1 rfl)
  | false => exact this _ (h2 rfl)
/-- the test holds, or not, for all that follows -/
theorem ok_caseS {m : Option Bool} {a b : Option (Out S B R)} {k : S → Option (Out S' B R)} {P : Out S' B R → Prop} {t : Bool} (e : m = some t) (h1 : t = true → Ok (bindOut a k) P) (h2 : t = false → Ok (bindOut b k) P) : Ok (m.bind fun t => bindOut (bif t then a else b) k) P := by
  refine ok_set e ?_
  cases t with
  | true => exact h1 rfl
  | false => exact h2 rfl
theorem ok_forS {step : S → α → Option (Out S S R)} {m : Option (List α)} {l : List α} {s : S} {k : S → Option (Out S' B R)} {P : Out S' B R → Prop} (e : m = some l) (I : Nat → S → Prop) (h0 : I 0 s) (hs : ∀ i s x, l[i]? = some x → I i s → Ok (step s x) (Nx (I (i + 1)))) (p : ∀ s, I l.length s → Ok (k s) P) :
    Ok (m.bind fun l => bindOut (forL step s l) k) P := ok_set e (ok_bindOut.mpr (ok_for I h0 hs p))
theorem ok_retS {d : Option R} {m : Option R} {P : R → Prop} (h : Ok m P) : Ok (m.bind fun r => some (Out.rt r : Out Unit Unit R)) (FO d P) := by
  obtain ⟨x, e, p⟩ := h
  exact ok_set e ⟨_, rfl, p⟩
theorem rng1_at {j : Nat} (h : j ≤ 16777216) : rng1 (j : Int) = some (rngL 0 j) := rng1_of (by omega) (by omega)
end
def ofR (r : Rat) : Q := ⟨r.num, r.den⟩
theorem ofR_a (r : Rat) : (ofR r).a = r.num := rfl
theorem ofR_b (r : Rat) : (ofR r).b = r.den := rfl
theorem ofR_inj {r s : Rat} : ofR r = ofR s ↔ r = s := ⟨fun h => by
  have h1 : r.num = s.num := congrArg T2.a h
  have h2 : ((r.den : Nat) : Int) = s.den := congrArg T2.b h
  exact Rat.ext h1 (by omega), fun h => by rw [h]⟩
theorem den_pos (r : Rat) : (0 : Int) < r.den := by have := r.den_pos; omega
theorem frac_mk {n d : Int} (h : 0 < d) : frac n d = ofR (mkRat n d.toNat) := by
  have h0 : d.toNat ≠ 0 := by omega
  have e : ((d.toNat.gcd n.natAbs : Nat) : Int) = gcdI n d := by
    unfold gcdI; rw [Nat.gcd_comm, show d.natAbs = d.toNat by omega]
  unfold frac ofR
  rw [Rat.num_mkRat, Rat.den_mkRat, if_neg h0, if_neg h0, e, Int.natCast_ediv, e, show ((d.toNat : Nat) : Int) = d by omega]
theorem frac_div {n d : Int} (h : 0 < d) : frac n d = ofR ((n : Rat) / (d : Rat)) := by
  rw [frac_mk h, Rat.mkRat_eq_div]
  have : ((d.toNat : Nat) : Rat) = ((d : Int) : Rat) := by rw [← Rat.intCast_natCast]; congr 1; omega
  rw [this]
theorem ofR_int (n : Int) : ofR (n : Rat) = ⟨n, 1⟩ := rfl
theorem ofR_zero : ofR 0 = ⟨0, 1⟩ := rfl
theorem ofR_one : ofR 1 = ⟨1, 1⟩ := rfl
theorem add_frac (x y : Rat) : frac ((ofR x).a * (ofR y).b + (ofR y).a * (ofR x).b) ((ofR x).b * (ofR y).b) = ofR (x + y) := by
  have : 0 < (ofR x).b * (ofR y).b := Int.mul_pos (den_pos x) (den_pos y)
  rw [frac_mk this, Rat.add_def']
  have e : ((ofR x).b * (ofR y).b).toNat = x.den * y.den := by
    show (((x.den : Nat) : Int) * ((y.den : Nat) : Int)).toNat = x.den * y.den
    rw [← Int.natCast_mul]; exact Int.toNat_natCast _
  rw [e]; rfl
theorem sub_frac (x y : Rat) : frac ((ofR x).a * (ofR y).b - (ofR y).a * (ofR x).b) ((ofR x).b * (ofR y).b) = ofR (x - y) := by
  have : 0 < (ofR x).b * (ofR y).b := Int.mul_pos (den_pos x) (den_pos y)
  rw [frac_mk this, Rat.sub_def']
  have e : ((ofR x).b * (ofR y).b).toNat = x.den * y.den := by
    show (((x.den : Nat) : Int) * ((y.den : Nat) : Int)).toNat = x.den * y.den
    rw [← Int.natCast_mul]; exact Int.toNat_natCast _
  rw [e]; rfl
theorem mul_frac (x y : Rat) : frac ((ofR x).a * (ofR y).a) ((ofR x).b * (ofR y).b) = ofR (x * y) := by
  have : 0 < (ofR x).b * (ofR y).b := Int.mul_pos (den_pos x) (den_pos y)
  rw [frac_mk this, Rat.mul_def']
  have e : ((ofR x).b * (ofR y).b).toNat = x.den * y.den := by
    show (((x.den : Nat) : Int) * ((y.den : Nat) : Int)).toNat = x.den * y.den
    rw [← Int.natCast_mul]; exact Int.toNat_natCast _
  rw [e]; rfl
theorem lt_ofR (x y : Rat) : (ofR x).a * (ofR y).b < (ofR y).a * (ofR x).b ↔ x < y := (Rat.lt_iff x y).symm
theorem le_ofR (x y : Rat) : (ofR x).a * (ofR y).b ≤ (ofR y).a * (ofR x).b ↔ x ≤ y := (Rat.le_iff x y).symm
theorem a_nonneg (x : Rat) : 0 ≤ (ofR x).a ↔ 0 ≤ x := Rat.num_nonneg
theorem a_neg (x : Rat) : (ofR x).a < 0 ↔ x < 0 := by
  have := a_nonneg x
  rw [← Rat.not_le, ← this]
  omega
theorem a_zero (x : Rat) : (ofR x).a = 0 ↔ x = 0 := by
  show x.num = 0 ↔ _
  exact Rat.num_eq_zero
theorem a_pos (x : Rat) : 0 < (ofR x).a ↔ 0 < x := by
  have h1 := a_nonneg x; have h2 := a_zero x
  constructor
  · intro h
    have : 0 ≤ x := h1.mp (by omega)
    have : x ≠ 0 := fun c => by have := h2.mpr c; omega
    grind
  · intro h
    have : 0 ≤ (ofR x).a := h1.mpr (by grind)
    have : (ofR x).a ≠ 0 := fun c => by have := h2.mp c; grind
    omega
theorem gcd_ofR (x : Rat) : gcdI (ofR x).a (ofR x).b = 1 := by
  have := x.reduced
  unfold gcdI ofR
  show ((Nat.gcd x.num.natAbs (x.den : Int).natAbs : Nat) : Int) = 1
  rw [Int.natAbs_natCast]
  have : Nat.gcd x.num.natAbs x.den = 1 := this
  omega
/-- a pair that is a fraction -/
theorem of_fraction {q : Q} (h : 0 < q.b) (h2 : gcdI q.a q.b = 1) : ∃ r, q = ofR r := by
  obtain ⟨a, b⟩ := q
  have h : 0 < b := h
  refine ⟨⟨a, b.toNat, by omega, ?_⟩, ?_⟩
  · unfold gcdI at h2
    have h2 : ((Nat.gcd a.natAbs b.natAbs : Nat) : Int) = 1 := h2
    show Nat.gcd a.natAbs b.toNat = 1
    rw [show b.toNat = b.natAbs by omega]
    omega
  · show (⟨a, b⟩ : Q) = ⟨a, (b.toNat : Nat)⟩
    rw [show ((b.toNat : Nat) : Int) = b by omega]

/-! ### sizes -/
/-- both parts have at most k bits -/
def Bq (k : Nat) (r : Rat) : Prop := r.num.natAbs < 2 ^ k ∧ r.den < 2 ^ k
theorem Bq.mono {j k : Nat} {r : Rat} (h : Bq j r) (hk : j ≤ k) : Bq k r :=
  ⟨Nat.lt_of_lt_of_le h.1 (Nat.pow_le_pow_right (by decide) hk), Nat.lt_of_lt_of_le h.2 (Nat.pow_le_pow_right (by decide) hk)⟩
theorem bq_int {n : Int} {k : Nat} (h : n.natAbs < 2 ^ k) (hk : 0 < k) : Bq k (n : Rat) := by
  refine ⟨h, ?_⟩
  show 1 < 2 ^ k
  exact Nat.one_lt_two_pow (by omega)
theorem bq_mk {n : Int} {d k : Nat} (h : n.natAbs < 2 ^ k) (h2 : d < 2 ^ k) (hd : d ≠ 0) : Bq k (mkRat n d) := by
  unfold Bq
  rw [Rat.num_mkRat, Rat.den_mkRat, if_neg hd, if_neg hd]
  refine ⟨?_, Nat.lt_of_le_of_lt (Nat.div_le_self _ _) h2⟩
  rw [Int.natAbs_ediv_of_dvd (by
    exact Int.ofNat_dvd_left.mpr (Nat.gcd_dvd_right _ _))]
  exact Nat.lt_of_le_of_lt (Nat.div_le_self _ _) h
theorem lt_mul {a b j k : Nat} (h1 : a < 2 ^ j) (h2 : b < 2 ^ k) : a * b < 2 ^ (j + k) := by
  rw [Nat.pow_add]
  exact Nat.mul_lt_mul_of_lt_of_le h1 (Nat.le_of_lt h2) (Nat.two_pow_pos k)
theorem bq_add {j k : Nat} {x y : Rat} (hx : Bq j x) (hy : Bq k y) : Bq (j + k + 1) (x + y) := by
  rw [Rat.add_def']
  have hd : x.den * y.den ≠ 0 := Nat.mul_ne_zero x.den_nz y.den_nz
  have h1 := lt_mul hx.1 hy.2
  have h2 := lt_mul hx.2 hy.1
  have h3 := lt_mul hx.2 hy.2
  have e : 2 ^ (j + k + 1) = 2 ^ (j + k) + 2 ^ (j + k) := by rw [Nat.pow_succ]; omega
  refine bq_mk ?_ (by omega) hd
  have e1 : (x.num * (y.den : Int)).natAbs = x.num.natAbs * y.den := by rw [Int.natAbs_mul]; rfl
  have e2 : (y.num * (x.den : Int)).natAbs = x.den * y.num.natAbs := by rw [Int.natAbs_mul, Nat.mul_comm]; rfl
  omega
theorem bq_neg {k : Nat} {x : Rat} (hx : Bq k x) : Bq k (-x) := by
  refine ⟨?_, hx.2⟩
  show (-x.num).natAbs < _
  rw [Int.natAbs_neg]; exact hx.1
theorem bq_sub {j k : Nat} {x y : Rat} (hx : Bq j x) (hy : Bq k y) : Bq (j + k + 1) (x - y) := by
  rw [Rat.sub_eq_add_neg]; exact bq_add hx (bq_neg hy)
theorem bq_mul {j k : Nat} {x y : Rat} (hx : Bq j x) (hy : Bq k y) : Bq (j + k) (x * y) := by
  rw [Rat.mul_def']
  have hd : x.den * y.den ≠ 0 := Nat.mul_ne_zero x.den_nz y.den_nz
  refine bq_mk ?_ (lt_mul hx.2 hy.2) hd
  rw [Int.natAbs_mul]; exact lt_mul hx.1 hy.1
theorem bq_div {n d : Int} {k : Nat} (h : n.natAbs < 2 ^ k) (h2 : d < 2 ^ k) (hd : 0 < d) : Bq k ((n : Rat) / (d : Rat)) := by
  have e : ((n : Rat) / (d : Rat)) = mkRat n d.toNat := by
    rw [Rat.mkRat_eq_div]
    have : ((d.toNat : Nat) : Rat) = ((d : Int) : Rat) := by rw [← Rat.intCast_natCast]; congr 1; omega
    rw [this]
  rw [e]
  have h2' : ((2 ^ k : Nat) : Int) = 2 ^ k := by simp
  exact bq_mk h (by omega) (by omega)
theorem log2_bq {n k : Nat} (h : n < 2 ^ k) : n.log2 ≤ k := by
  by_cases c : n = 0
  · subst c; show Nat.log2 0 ≤ k; simp
  · exact Nat.le_of_lt ((Nat.log2_lt c).mpr h)
theorem mulOk_bits {i j : Int} {a b : Nat} (hi : i.natAbs < 2 ^ a) (hj : j.natAbs < 2 ^ b) (h : a + b < 1000000) : MulOk i j := by
  have := log2_bq hi; have := log2_bq hj
  unfold MulOk; omega
/-- a sum of fractions, from the left -/
def sumR (l : List Rat) : Rat := l.foldl (· + ·) 0
theorem foldl_add (l : List Rat) : ∀ x : Rat, l.foldl (· + ·) x = x + sumR l := by
  unfold sumR
  induction l with
  | nil => intro x; simp [Rat.add_zero]
  | cons y r ih => intro x; rw [List.foldl_cons, ih, List.foldl_cons, ih (0 + y)]; grind
@[simp] theorem sumR_nil : sumR [] = 0 := rfl
@[simp] theorem sumR_cons (x : Rat) (l : List Rat) : sumR (x :: l) = x + sumR l := by
  show (l.foldl (· + ·) (0 + x)) = _
  rw [foldl_add, Rat.zero_add]
theorem sumR_append (l m : List Rat) : sumR (l ++ m) = sumR l + sumR m := by
  induction l with
  | nil => simp [Rat.zero_add]
  | cons x l ih => rw [List.cons_append, sumR_cons, sumR_cons, ih]; grind
theorem sumR_map_int (l : List Int) : sumR (l.map fun (x : Int) => (x : Rat)) = ((l.sum : Int) : Rat) := by
  induction l with
  | nil => rfl
  | cons x l ih => rw [List.map_cons, sumR_cons, ih, List.sum_cons]; grind
theorem sumR_neg (l : List Rat) : sumR (l.map fun x => -x) = - sumR l := by
  induction l with
  | nil => rfl
  | cons x l ih => rw [List.map_cons, sumR_cons, ih, sumR_cons]; grind
theorem bq_sum {k : Nat} : ∀ {l : List Rat}, (∀ x, x ∈ l → Bq k x) → Bq (l.length * (k + 1) + 1) (sumR l)
  | [], _ => (bq_int (n := 0) (k := 1) (by decide) (by decide)).mono (by omega)
  | x :: l, h => by
    rw [sumR_cons]
    have h1 := h x (by simp)
    have h2 := bq_sum fun y hy => h y (List.mem_cons_of_mem _ hy)
    refine (bq_add h1 h2).mono ?_
    rw [List.length_cons, Nat.add_mul]; omega
theorem rb_q {r : Rat} {k : Nat} (h : Bq k r) (hk : k < 1900) : RB (ofR r) (2 * (k + 3) + 7) := by
  have h1 : RB (ofR r).a (k + 3) := rb_bits h.1 hk
  have h2 : RB (ofR r).b (k + 3) := rb_bits h.2 hk
  have := rb_t2 (t := ofR r) h1 h2
  exact ⟨this.1, Nat.le_trans this.2 (by omega)⟩
theorem RB.mono {α : Type} [Enc α] [S : Rp α] {x : α} {m n : Nat} (h : RB x m) (hm : m ≤ n) : RB x n := ⟨h.1, Nat.le_trans h.2 hm⟩
theorem num_den (x : Rat) : (x.num : Rat) / ((x.den : Nat) : Rat) = x := by
  rw [← Rat.mkRat_eq_div]; exact Rat.mkRat_self x
theorem den_ne (x : Rat) : ((x.den : Nat) : Rat) ≠ 0 := fun h => x.den_nz (Rat.natCast_eq_zero_iff.mp h)
theorem num_ne {x : Rat} (h : 0 < x) : (x.num : Rat) ≠ 0 := fun c => by
  have h1 : x.num = 0 := Rat.intCast_inj.mp (by rw [c]; rfl)
  have := (a_pos x).mpr h
  have : 0 < x.num := this
  omega
theorem over_pos {x y : Rat} (h : 0 < y) : 0 < (ofR x).b * (ofR y).a := Int.mul_pos (den_pos x) ((a_pos y).mpr h)
theorem over_frac {x y : Rat} (h : 0 < y) : frac ((ofR x).a * (ofR y).b) ((ofR x).b * (ofR y).a) = ofR (x / y) := by
  rw [frac_div (over_pos h), ofR_inj]
  have e1 := num_den x
  have e2 := num_den y
  have h1 := den_ne x
  have h2 := den_ne y
  have h3 := num_ne h
  have e3 : (((ofR x).a * (ofR y).b : Int) : Rat) = (x.num : Rat) * ((y.den : Nat) : Rat) := by rw [Rat.intCast_mul]; rfl
  have e4 : (((ofR x).b * (ofR y).a : Int) : Rat) = ((x.den : Nat) : Rat) * (y.num : Rat) := by rw [Rat.intCast_mul]; rfl
  rw [e3, e4]
  generalize (x.num : Rat) = a at *
  generalize ((x.den : Nat) : Rat) = b at *
  generalize (y.num : Rat) = c at *
  generalize ((y.den : Nat) : Rat) = d at *
  subst e1 e2
  grind
theorem bq_inv {k : Nat} {y : Rat} (hy : Bq k y) (h : 0 < y) {j : Nat} {x : Rat} (hx : Bq j x) : Bq (j + k) (x / y) := by
  rw [← ofR_inj.mp (show ofR (x / y) = ofR (x / y) from rfl)]
  have e : x / y = mkRat ((ofR x).a * (ofR y).b) ((ofR x).b * (ofR y).a).toNat := by
    rw [← ofR_inj, ← over_frac h, frac_mk (over_pos h)]
  rw [e]
  have hp := over_pos (x := x) h
  refine bq_mk ?_ ?_ (by omega)
  · rw [Int.natAbs_mul]; exact lt_mul hx.1 hy.2
  · have h1 : ((ofR x).b * (ofR y).a).natAbs < 2 ^ (j + k) := by rw [Int.natAbs_mul]; exact lt_mul hx.2 hy.1
    omega
end Lay

set_option Elab.async false
set_option linter.all false
set_option maxRecDepth 100000
/-! LayT: tasks, their tuples and plans; the first of the greatest. -/
namespace Lay
open PySem PySem.Spec PyProof.Rows L2
open Lay.Enc (enc)
abbrev Task := T4 (List Int) (List (List Int)) (List Int) (List Int)
/-! ### lists side by side -/
theorem zip_get {α β : Type} {l : List α} {m : List β} {i : Nat} {x : α} {y : β} (h1 : l[i]? = some x) (h2 : m[i]? = some y) : (zipL l m)[i]? = some ⟨x, y⟩ := by
  unfold zipL
  rw [List.getElem?_zipWith, h1, h2]
theorem zip_inv {α β : Type} {l : List α} {m : List β} {i : Nat} {z : T2 α β} (h : (zipL l m)[i]? = some z) : l[i]? = some z.a ∧ m[i]? = some z.b := by
  unfold zipL at h
  rw [List.getElem?_zipWith] at h
  cases e1 : l[i]? with
  | none => rw [e1] at h; cases h
  | some x =>
    cases e2 : m[i]? with
    | none => rw [e1, e2] at h; cases h
    | some y => rw [e1, e2] at h; cases h; exact ⟨rfl, rfl⟩
theorem zip_len {α β : Type} {l : List α} {m : List β} : (zipL l m).length = min l.length m.length := by unfold zipL; exact List.length_zipWith
theorem inBox_zip : ∀ {xs ts : List Int}, xs.length = ts.length → (inBox xs ts ↔ ∀ z, z ∈ zipL xs ts → 0 ≤ z.a ∧ z.a ≤ z.b)
  | [], [], _ => by simp [inBox, zipL]
  | x :: xs, t :: ts, h => by
    have ih := inBox_zip (xs := xs) (ts := ts) (by simpa using h)
    show (0 ≤ x ∧ x ≤ t ∧ inBox xs ts) ↔ ∀ z, z ∈ (⟨x, t⟩ : T2 Int Int) :: zipL xs ts → _
    rw [ih]
    constructor
    · rintro ⟨a, b, c⟩ z hz
      rw [List.mem_cons] at hz
      rcases hz with rfl | hz
      · exact ⟨a, b⟩
      · exact c z hz
    · intro q
      have := q ⟨x, t⟩ (by simp)
      exact ⟨this.1, this.2, fun z hz => q z (by simp [hz])⟩
theorem take1 {α : Type} {l : List α} {i : Nat} {x : α} (h : l[i]? = some x) : l.take (i + 1) = l.take i ++ [x] := by
  rw [List.take_add_one, h]; rfl
theorem atn {l : List Int} {k : Int} (h : 0 ≤ k) (h2 : k < l.length) : atI l k = some (l.getD k.toNat 0) := by
  rw [atI_eq h h2]
  have : k.toNat < l.length := by omega
  simp [List.getD, List.getElem?_eq_getElem this]
theorem atD {α : Type} {l : List α} {k : Int} (d : α) (h : 0 ≤ k) (h2 : k < l.length) : atI l k = some (l.getD k.toNat d) := by
  rw [atI_eq h h2]
  have : k.toNat < l.length := by omega
  simp [List.getD, List.getElem?_eq_getElem this]
theorem at_map {α γ : Type} {l : List α} {f : α → γ} {k : Int} {x : α} (h : 0 ≤ k) (e : atI l k = some x) (h2 : k < l.length) : atI (l.map f) k = some (f x) := by
  rw [atI_eq h h2] at e
  rw [atI_eq h (by rw [List.length_map]; exact h2), List.getElem?_map, e]; rfl
theorem getD_mem {l : List Int} {k : Int} (h : 0 ≤ k) (h2 : k < l.length) : l.getD k.toNat 0 ∈ l := by
  have : k.toNat < l.length := by omega
  simp [List.getD, List.getElem?_eq_getElem this]
theorem getD_memD {α : Type} {l : List α} {k : Int} {d : α} (h : 0 ≤ k) (h2 : k < l.length) : l.getD k.toNat d ∈ l := by
  have : k.toNat < l.length := by omega
  simp [List.getD, List.getElem?_eq_getElem this]
theorem atE {α : Type} {l : List α} {i : Nat} {x : α} (h : l[i]? = some x) : atI l (i : Int) = some x := by
  have := (List.getElem?_eq_some_iff.mp h).1
  rw [atI_eq (by omega) (by omega)]; simpa using h
/-! ### how many tuples there are -/
def boxN : List Int → Nat
  | [] => 1
  | t :: r => (t + 1).toNat * boxN r
theorem boxN_app (l m : List Int) : boxN (l ++ m) = boxN l * boxN m := by
  induction l with
  | nil => show boxN m = 1 * boxN m; omega
  | cons x l ih => show (x + 1).toNat * boxN (l ++ m) = (x + 1).toNat * boxN l * boxN m; rw [ih, Nat.mul_assoc]
theorem boxStep_len (f : List (Tup Int)) (x : Int) : (boxStep f x).length = f.length * (x + 1).toNat := by
  unfold boxStep
  induction f with
  | nil => simp
  | cons u f ih => rw [List.flatMap_cons, List.length_append, ih, List.length_map, rng_len, List.length_cons, Nat.add_mul, Nat.one_mul, Nat.add_comm]
theorem box_snoc (l : List Int) (x : Int) : box (l ++ [x]) = boxStep (box l) x := by unfold box; rw [List.foldl_append]; rfl
theorem box_length : ∀ (n : Nat) (l : List Int), l.length = n → (box l).length = boxN l := by
  intro n
  induction n with
  | zero => intro l h; have := List.eq_nil_of_length_eq_zero h; subst this; rfl
  | succ n ih =>
    intro l h
    have hne : l ≠ [] := by intro c; subst c; simp at h
    rw [← List.dropLast_concat_getLast hne]
    generalize l.getLast hne = x
    have hl : l.dropLast.length = n := by rw [List.length_dropLast]; omega
    rw [box_snoc, boxStep_len, ih _ hl, boxN_app]
    show boxN l.dropLast * (x + 1).toNat = boxN l.dropLast * ((x + 1).toNat * 1)
    rw [Nat.mul_one]
theorem boxN_pos : ∀ {l : List Int}, (∀ x, x ∈ l → 0 ≤ x) → 1 ≤ boxN l
  | [], _ => Nat.le_refl 1
  | x :: l, h => by
    have h1 := h x (by simp)
    have h2 := boxN_pos fun y hy => h y (List.mem_cons_of_mem _ hy)
    show 1 ≤ (x + 1).toNat * boxN l
    exact Nat.mul_pos (by omega) h2
theorem boxN_take {l : List Int} (h : ∀ x, x ∈ l → 0 ≤ x) (i : Nat) : boxN (l.take i) ≤ boxN l := by
  have e : boxN l = boxN (l.take i) * boxN (l.drop i) := by rw [← boxN_app, List.take_append_drop]
  rw [e]
  exact Nat.le_mul_of_pos_right _ (boxN_pos fun x hx => h x (List.mem_of_mem_drop hx))
theorem boxN_le {T : Nat} : ∀ {l : List Int}, (∀ x, x ∈ l → 0 ≤ x ∧ x ≤ T) → boxN l ≤ (T + 1) ^ l.length
  | [], _ => Nat.le_refl 1
  | x :: l, h => by
    have h1 := h x (by simp)
    have h2 := boxN_le fun y hy => h y (List.mem_cons_of_mem _ hy)
    show (x + 1).toNat * boxN l ≤ _
    rw [List.length_cons, Nat.pow_succ, Nat.mul_comm]
    exact Nat.mul_le_mul h2 (by omega)
/-! ### tasks -/
structure TK (t : Task) : Prop where
  n1 : 1 ≤ t.a.length
  n6 : t.a.length ≤ 6
  g : ∀ x, x ∈ t.a → x.natAbs ≤ 20
  b6 : t.b.length ≤ 6
  rl : ∀ r, r ∈ t.b → r.length = t.a.length
  r : ∀ r, r ∈ t.b → ∀ x, x ∈ r → x.natAbs ≤ 20
  cl : t.c.length = t.b.length
  c : ∀ x, x ∈ t.c → x.natAbs ≤ 200
  dl : t.d.length = t.a.length
  d : ∀ x, x ∈ t.d → 0 ≤ x ∧ x ≤ 12
  s : boxN t.d ≤ 20000
/-- values within bounds -/
def UB (T : Nat) (u : Tup Int) : Prop := ∀ x, x ∈ u.l → x.natAbs ≤ T
theorem box_mem {t : Task} (h : TK t) {u : Tup Int} : u ∈ box t.d ↔ inBox u.l t.d := mem_box _ _ rfl (fun x hx => (h.d x hx).1) u
theorem box_len6 {t : Task} (h : TK t) {u : Tup Int} (hu : u ∈ box t.d) : u.l.length = t.a.length := by
  rw [inBox_len ((box_mem h).mp hu), h.dl]
theorem box_ub {t : Task} (h : TK t) {u : Tup Int} (hu : u ∈ box t.d) : ∀ x, x ∈ u.l → 0 ≤ x ∧ x ≤ 12 :=
  inBox_mem ((box_mem h).mp hu) fun y hy => (h.d y hy).2
theorem box_UB {t : Task} (h : TK t) {u : Tup Int} (hu : u ∈ box t.d) : UB 12 u := fun x hx => by have := box_ub h hu x hx; omega
theorem box_part {t : Task} (h : TK t) (i : Nat) : (box (t.d.take i)).length ≤ 20000 ∧ ∀ u, u ∈ box (t.d.take i) → u.l.length ≤ 6 := by
  have h0 : ∀ x, x ∈ t.d.take i → 0 ≤ x := fun x hx => (h.d x (List.mem_of_mem_take hx)).1
  refine ⟨?_, fun u hu => ?_⟩
  · rw [box_length _ _ rfl]
    exact Nat.le_trans (boxN_take (fun x hx => (h.d x hx).1) i) h.s
  · have := inBox_len ((mem_box _ _ rfl h0 u).mp hu)
    rw [this, List.length_take]
    have := h.dl; have := h.n6
    omega
theorem box_all {t : Task} (h : TK t) : (box t.d).length ≤ 20000 := by
  rw [box_length _ _ rfl]; exact h.s
theorem dot_le {A B n : Nat} {r : List Int} {u : List Int} (hn : r.length ≤ n) (hr : ∀ x, x ∈ r → x.natAbs ≤ A) (hu : ∀ x, x ∈ u → x.natAbs ≤ B) : (dot r u).natAbs ≤ n * (A * B) :=
  Nat.le_trans (dot_bound hr hu) (Nat.mul_le_mul_right _ hn)
theorem row_dot {t : Task} (h : TK t) {r : List Int} (hr : r ∈ t.b) {u : Tup Int} (hu : UB 100 u) : (dot r u.l).natAbs ≤ 12000 :=
  dot_le (n := 6) (A := 20) (B := 100) (by rw [h.rl r hr]; exact h.n6) (h.r r hr) hu
theorem gain_dot {t : Task} (h : TK t) {u : Tup Int} (hu : UB 100 u) : (dot t.a u.l).natAbs ≤ 12000 :=
  dot_le (n := 6) (A := 20) (B := 100) h.n6 h.g hu
theorem UB.mono {S T : Nat} {u : Tup Int} (h : UB S u) (hs : S ≤ T) : UB T u := fun x hx => Nat.le_trans (h x hx) hs
/-- all rows are kept -/
def keepsB (t : Task) (u : List Int) : Bool := (zipL t.b t.c).all fun z => decide (dot z.a u ≤ z.b)
def plansP (t : Task) : List (Tup Int) := (box t.d).filter fun u => keepsB t u.l
def isPlan (t : Task) (u : Tup Int) : Prop := u ∈ plansP t
theorem plan_box {t : Task} {u : Tup Int} (h : u ∈ plansP t) : u ∈ box t.d := (List.mem_filter.mp h).1
theorem plan_iff {t : Task} {u : Tup Int} : u ∈ plansP t ↔ u ∈ box t.d ∧ keepsB t u.l = true := by unfold plansP; rw [List.mem_filter]
theorem plans_len {t : Task} (h : TK t) : (plansP t).length ≤ 20000 := Nat.le_trans (List.length_filter_le _ _) (box_all h)
theorem keeps_idx {t : Task} {u : List Int} (hl : t.c.length = t.b.length) : keepsB t u = true ↔ ∀ k : Int, k ∈ rngL 0 t.b.length → ¬ t.c.getD k.toNat 0 < dot (t.b.getD k.toNat []) u := by
  unfold keepsB
  rw [List.all_eq_true]
  constructor
  · intro q k hk
    have hk := mem_rng.mp hk
    have k1 : k.toNat < t.c.length := by omega
    have k2 : k.toNat < t.b.length := by omega
    have z := List.mem_of_getElem? (zip_get (List.getElem?_eq_getElem k2) (List.getElem?_eq_getElem k1))
    have := of_decide_eq_true (q _ z)
    simp [k1, k2]
    omega
  · intro q z hz
    obtain ⟨i, hi, e⟩ := List.mem_iff_getElem.mp hz
    obtain ⟨e1, e2⟩ := zip_inv (show (zipL t.b t.c)[i]? = some z by rw [List.getElem?_eq_getElem hi, e])
    have i2 := (List.getElem?_eq_some_iff.mp e1).1
    have := q (i : Int) (mem_rng.mpr ⟨by omega, by omega⟩)
    simp only [List.getD, Int.toNat_natCast, e1, e2, Option.getD_some] at this
    exact decide_eq_true (by omega)
theorem filter_nil {α : Type} {l : List α} {p : α → Bool} : l.filter p = [] ↔ ∀ x, x ∈ l → ¬ p x = true := List.filter_eq_nil_iff
/-! ### the first of the greatest -/
def upB {α β : Type} [LT β] [DecidableRel (α := β) (· < ·)] (f : α → β) (b : Option (T2 β α)) (x : α) : Option (T2 β α) := match b with
  | none => some ⟨f x, x⟩
  | some p => if p.a < f x then some ⟨f x, x⟩ else some p
def bestB {α β : Type} [LT β] [DecidableRel (α := β) (· < ·)] (f : α → β) (l : List α) : Option (T2 β α) := l.foldl (upB f) none
section
variable {α β : Type} [LT β] [DecidableRel (α := β) (· < ·)] {f : α → β}
theorem bestB_snoc {l : List α} {x : α} : bestB f (l ++ [x]) = upB f (bestB f l) x := by unfold bestB; rw [List.foldl_append]; rfl
theorem bestB_take {l : List α} {i : Nat} {x : α} (h : l[i]? = some x) : bestB f (l.take (i + 1)) = upB f (bestB f (l.take i)) x := by
  rw [take1 h, bestB_snoc]
theorem bestB_congr {g : α → β} {l : List α} (h : ∀ x, x ∈ l → f x = g x) : bestB f l = bestB g l := by
  have : ∀ (l : List α) (b : Option (T2 β α)), (∀ x, x ∈ l → f x = g x) → l.foldl (upB f) b = l.foldl (upB g) b := by
    intro l
    induction l with
    | nil => intro b _; rfl
    | cons x l ih =>
      intro b h
      have e : upB f b x = upB g b x := by unfold upB; rw [h x (by simp)]
      rw [List.foldl_cons, List.foldl_cons, e]
      exact ih _ fun y hy => h y (List.mem_cons_of_mem _ hy)
  exact this l none h
theorem upB_none {x : α} : upB f none x = some ⟨f x, x⟩ := rfl
theorem upB_lt {x : α} {p : T2 β α} (h : p.a < f x) : upB f (some p) x = some ⟨f x, x⟩ := if_pos h
theorem upB_ge {x : α} {p : T2 β α} (h : ¬ p.a < f x) : upB f (some p) x = some p := if_neg h
theorem bestB_mem : ∀ (n : Nat) (l : List α), l.length = n → ∀ p, bestB f l = some p → p.b ∈ l ∧ p.a = f p.b := by
  intro n
  induction n with
  | zero => intro l h p hp; have := List.eq_nil_of_length_eq_zero h; subst this; cases hp
  | succ n ih =>
    intro l h p hp
    have hne : l ≠ [] := by intro c; subst c; simp at h
    rw [← List.dropLast_concat_getLast hne] at hp ⊢
    generalize l.getLast hne = x at *
    have ih := ih l.dropLast (by rw [List.length_dropLast]; omega)
    generalize l.dropLast = m at *
    rw [bestB_snoc] at hp
    cases q : bestB f m with
    | none => rw [q, upB_none] at hp; cases hp; exact ⟨by simp, rfl⟩
    | some p0 =>
      rw [q] at hp
      by_cases c : p0.a < f x
      · rw [upB_lt c] at hp; cases hp; exact ⟨by simp, rfl⟩
      · rw [upB_ge c] at hp; cases hp
        obtain ⟨h1, h2⟩ := ih p q
        exact ⟨by simp [h1], h2⟩
theorem bestB_in {l : List α} {p : T2 β α} (h : bestB f l = some p) : p.b ∈ l ∧ p.a = f p.b := bestB_mem _ l rfl p h
theorem bestB_max (irr : ∀ a : β, ¬ a < a) (tr : ∀ a b c : β, ¬ a < b → ¬ b < c → ¬ a < c) (as : ∀ a b : β, a < b → ¬ b < a) : ∀ (n : Nat) (l : List α), l.length = n → ∀ x, x ∈ l → ∃ p, bestB f l = some p ∧ ¬ p.a < f x := by
  intro n
  induction n with
  | zero => intro l h x hx; have := List.eq_nil_of_length_eq_zero h; subst this; simp at hx
  | succ n ih =>
    intro l h x hx
    have hne : l ≠ [] := by intro c; subst c; simp at h
    rw [← List.dropLast_concat_getLast hne] at hx ⊢
    generalize l.getLast hne = y at *
    have ih := ih l.dropLast (by rw [List.length_dropLast]; omega)
    generalize l.dropLast = m at *
    rw [bestB_snoc]
    rw [List.mem_append, List.mem_singleton] at hx
    cases q : bestB f m with
    | none =>
      refine ⟨_, upB_none, ?_⟩
      rcases hx with hx | rfl
      · obtain ⟨p, e, _⟩ := ih x hx; rw [q] at e; cases e
      · exact irr _
    | some p0 =>
      by_cases c : p0.a < f y
      · refine ⟨_, upB_lt c, ?_⟩
        rcases hx with hx | rfl
        · obtain ⟨p, e, le⟩ := ih x hx
          rw [q] at e; cases e
          exact tr _ _ _ (as _ _ c) le
        · exact irr _
      · refine ⟨_, upB_ge c, ?_⟩
        rcases hx with hx | rfl
        · obtain ⟨p, e, le⟩ := ih x hx
          rw [q] at e; cases e
          exact le
        · exact c
theorem bestB_none {l : List α} : bestB f l = none ↔ l = [] := by
  constructor
  · intro h
    have : ∀ (n : Nat) (l : List α), l.length = n → bestB f l = none → l = [] := by
      intro n
      cases n with
      | zero => intro l h _; exact List.eq_nil_of_length_eq_zero h
      | succ n =>
        intro l h hb
        have hne : l ≠ [] := by intro c; subst c; simp at h
        rw [← List.dropLast_concat_getLast hne, bestB_snoc] at hb
        generalize bestB f l.dropLast = b at hb
        cases b with
        | none => cases hb
        | some p => unfold upB at hb; simp only at hb; split at hb <;> cases hb
    exact this _ l rfl h
  · intro h; subst h; rfl
end
theorem best_int {α : Type} {f : α → Int} {l : List α} {x : α} (h : x ∈ l) : ∃ p, bestB f l = some p ∧ f x ≤ p.a := by
  obtain ⟨p, e, q⟩ := bestB_max (f := f) (fun a => by omega) (fun a b c => by omega) (fun a b => by omega) _ l rfl x h
  exact ⟨p, e, by omega⟩
theorem best_rat {α : Type} {f : α → Rat} {l : List α} {x : α} (h : x ∈ l) : ∃ p, bestB f l = some p ∧ f x ≤ p.a := by
  obtain ⟨p, e, q⟩ := bestB_max (f := f) (fun a => by grind) (fun a b c => by grind) (fun a b => by grind) _ l rfl x h
  exact ⟨p, e, by grind⟩
/-! ### some rows alone -/
def sub (t : Task) (I : List Int) : Task := ⟨t.a, I.map fun i => t.b.getD i.toNat [], I.map fun i => t.c.getD i.toNat 0, t.d⟩
def rowB (t : Task) (u : List Int) (i : Int) : Bool := decide (dot (t.b.getD i.toNat []) u ≤ t.c.getD i.toNat 0)
theorem keeps_sub (t : Task) (I : List Int) (u : List Int) : keepsB (sub t I) u = I.all (rowB t u) := by
  unfold keepsB sub
  induction I with
  | nil => rfl
  | cons i I ih =>
    show (decide (dot (t.b.getD i.toNat []) u ≤ t.c.getD i.toNat 0) && (zipL (I.map _) (I.map _)).all _) = (rowB t u i && I.all (rowB t u))
    rw [← ih]; rfl
theorem keeps_all {t : Task} (hl : t.c.length = t.b.length) (u : List Int) : keepsB t u = (rngL 0 t.b.length).all (rowB t u) := by
  rw [Bool.eq_iff_iff, keeps_idx hl, List.all_eq_true]
  constructor
  · intro q k hk
    have := q k hk
    unfold rowB
    exact decide_eq_true (by omega)
  · intro q k hk
    have := of_decide_eq_true (q k hk)
    omega
theorem row_mem {t : Task} {i : Int} (h : 0 ≤ i) (h2 : i < t.b.length) : t.b.getD i.toNat [] ∈ t.b := getD_memD h h2
theorem lim_mem {t : Task} (hl : t.c.length = t.b.length) {i : Int} (h : 0 ≤ i) (h2 : i < t.b.length) : t.c.getD i.toNat 0 ∈ t.c := getD_memD h (by omega)
theorem TK.sub {t : Task} (h : TK t) {I : List Int} (hI : ∀ i, i ∈ I → 0 ≤ i ∧ i < t.b.length) (hn : I.length ≤ 6) : TK (sub t I) := by
  refine ⟨h.n1, h.n6, h.g, by show (I.map _).length ≤ 6; rw [List.length_map]; exact hn, fun r hr => ?_, fun r hr => ?_, by show (I.map _).length = (I.map _).length; simp, fun x hx => ?_, h.dl, h.d, h.s⟩
  · obtain ⟨i, hi, rfl⟩ := List.mem_map.mp hr
    exact h.rl _ (row_mem (hI i hi).1 (hI i hi).2)
  · obtain ⟨i, hi, rfl⟩ := List.mem_map.mp hr
    exact h.r _ (row_mem (hI i hi).1 (hI i hi).2)
  · obtain ⟨i, hi, rfl⟩ := List.mem_map.mp hx
    exact h.c _ (lim_mem h.cl (hI i hi).1 (hI i hi).2)
theorem rng_pairwise (lo : Int) (n : Nat) : (rngL lo n).Pairwise (· < ·) := by
  unfold rngL
  rw [List.pairwise_map]
  exact List.pairwise_lt_range.imp fun h => by omega
/-- the rows that are not soft -/
def hardI (t : Task) (soft : List Int) : List Int := (rngL 0 t.b.length).filter fun i => !decide (i ∈ soft)
theorem hard_mem {t : Task} {soft : List Int} {i : Int} : i ∈ hardI t soft ↔ (0 ≤ i ∧ i < t.b.length) ∧ i ∉ soft := by
  unfold hardI
  rw [List.mem_filter, mem_rng]
  simp
theorem hard_len {t : Task} {soft : List Int} : (hardI t soft).length ≤ t.b.length := by
  unfold hardI
  exact Nat.le_trans (List.length_filter_le _ _) (by rw [rng_len]; omega)
def restP (t : Task) (soft : List Int) : List (Tup Int) := plansP (sub t (hardI t soft))
theorem tk_hard {t : Task} (h : TK t) (soft : List Int) : TK (sub t (hardI t soft)) :=
  h.sub (fun i hi => (hard_mem.mp hi).1) (Nat.le_trans hard_len h.b6)
theorem plan_rest {t : Task} (h : TK t) {soft : List Int} {u : Tup Int} (hu : u ∈ plansP t) : u ∈ restP t soft := by
  obtain ⟨h1, h2⟩ := plan_iff.mp hu
  refine plan_iff.mpr ⟨h1, ?_⟩
  rw [keeps_all h.cl, List.all_eq_true] at h2
  rw [keeps_sub, List.all_eq_true]
  exact fun i hi => h2 i (mem_rng.mpr (by have := (hard_mem.mp hi).1; omega))
theorem plan_row {t : Task} (h : TK t) {u : Tup Int} (hu : u ∈ plansP t) {i : Int} (hi : 0 ≤ i) (hi2 : i < t.b.length) : dot (t.b.getD i.toNat []) u.l ≤ t.c.getD i.toNat 0 := by
  obtain ⟨_, h2⟩ := plan_iff.mp hu
  rw [keeps_all h.cl, List.all_eq_true] at h2
  exact of_decide_eq_true (h2 i (mem_rng.mpr (by omega)))
/-- rows that ascend -/
structure SF (t : Task) (soft : List Int) : Prop where
  asc : soft.Pairwise (· < ·)
  mem : ∀ i, i ∈ soft → 0 ≤ i ∧ i < t.b.length
theorem asc_le : ∀ {l : List Int} {lo hi : Int}, l.Pairwise (· < ·) → (∀ i, i ∈ l → lo ≤ i ∧ i < hi) → l.length ≤ (hi - lo).toNat
  | [], _, _, _, _ => Nat.zero_le _
  | x :: l, lo, hi, hp, hm => by
    rw [List.pairwise_cons] at hp
    have h1 := hm x (by simp)
    have := asc_le (lo := x + 1) (hi := hi) hp.2 fun i h => ⟨by have := hp.1 i h; omega, (hm i (by simp [h])).2⟩
    rw [List.length_cons]; omega
theorem nodup_le {l : List Int} {n : Nat} (hp : l.Pairwise (· < ·)) (hm : ∀ i, i ∈ l → 0 ≤ i ∧ i < n) : l.length ≤ n := by
  have := asc_le (lo := 0) (hi := n) hp hm
  omega
theorem SF.len {t : Task} {soft : List Int} (h : SF t soft) : soft.length ≤ t.b.length := nodup_le h.asc h.mem
/-! ### by index -/
theorem idx_zip {α β γ : Type} {l : List α} {m : List β} {n : Nat} (hl : l.length = n) (hm : m.length = n) (da : α) (db : β) (f : α → β → γ) :
    ((rngL 0 n).map fun k => f (l.getD k.toNat da) (m.getD k.toNat db)) = (zipL l m).map fun z => f z.a z.b := by
  apply List.ext_getElem?
  intro i
  unfold rngL
  rw [List.map_map, List.getElem?_map, List.getElem?_map]
  by_cases c : i < n
  · have c1 : i < l.length := by omega
    have c2 : i < m.length := by omega
    rw [List.getElem?_range c, zip_get (List.getElem?_eq_getElem c1) (List.getElem?_eq_getElem c2)]
    simp [c1, c2]
  · rw [List.getElem?_eq_none (by rw [List.length_range]; omega), List.getElem?_eq_none (by rw [zip_len]; omega)]
    rfl
theorem idx_map {α γ : Type} {l : List α} {n : Nat} (hl : l.length = n) (da : α) (f : α → γ) : ((rngL 0 n).map fun k => f (l.getD k.toNat da)) = l.map f := by
  apply List.ext_getElem?
  intro i
  unfold rngL
  rw [List.map_map, List.getElem?_map, List.getElem?_map]
  by_cases c : i < n
  · have c1 : i < l.length := by omega
    rw [List.getElem?_range c, List.getElem?_eq_getElem c1]
    simp [c1]
  · rw [List.getElem?_eq_none (by rw [List.length_range]; omega), List.getElem?_eq_none (by omega)]
    rfl
theorem zip_map1 {α β γ : Type} {f : α → γ} : ∀ {l : List α} {m : List β}, zipL (l.map f) m = (zipL l m).map fun z => ⟨f z.a, z.b⟩
  | [], m => by simp [zipL]
  | _ :: _, [] => by simp [zipL]
  | x :: l, y :: m => by
    show (⟨f x, y⟩ : T2 γ β) :: zipL (l.map f) m = ⟨f x, y⟩ :: (zipL l m).map _
    rw [zip_map1]
theorem lcL_over {α β γ : Type} {c : α → Option Bool} {e : α → Option β} {g : γ → α} : ∀ {l : List γ}, lcL c e (l.map g) = lcL (fun z => c (g z)) (fun z => e (g z)) l
  | [] => rfl
  | x :: l => by
    show ((c (g x)).bind fun t => _) = ((c (g x)).bind fun t => _)
    rw [lcL_over]
/-! ### slices -/
theorem mem_cut {α : Type} {l : List α} {a b : Option Int} {x : α} (h : x ∈ cutL l a b) : x ∈ l := List.mem_of_mem_drop (List.mem_of_mem_take h)
theorem cut_last {α : Type} {l : List α} : cutL l none (some (-1)) = l.take (l.length - 1) := by
  unfold cutL
  rw [HT.sIx_none, List.drop_zero, Nat.sub_zero]
  have : HT.sIx l.length l.length (some (-1)) = (-1 + (l.length : Int)).toNat := by
    unfold HT.sIx
    exact if_pos (by decide)
  rw [this]
  congr 1; omega
theorem cut_to {α : Type} {l : List α} {n : Nat} (h : n ≤ l.length) : cutL l none (some (n : Int)) = l.take n := by
  unfold cutL
  rw [HT.sIx_none, List.drop_zero, Nat.sub_zero, HT.sIx_nat, Nat.min_eq_left h]
theorem cut_from {α : Type} {l : List α} {n : Nat} (h : n ≤ l.length) : cutL l (some (n : Int)) none = l.drop n := by
  unfold cutL
  rw [HT.sIx_none, HT.sIx_nat, Nat.min_eq_left h]
  exact List.take_of_length_le (by rw [List.length_drop]; omega)
/-! ### lists of fractions -/
theorem ofR_list {P : Rat → Prop} : ∀ {l : List Q}, (∀ y, y ∈ l → ∃ x, y = ofR x ∧ P x) → ∃ f : List Rat, l = f.map ofR ∧ f.length = l.length ∧ ∀ x, x ∈ f → P x
  | [], _ => ⟨[], rfl, rfl, fun x h => (by simp at h)⟩
  | y :: l, h => by
    obtain ⟨x, e, p⟩ := h y (by simp)
    obtain ⟨f, e2, e3, q⟩ := ofR_list fun z hz => h z (List.mem_cons_of_mem _ hz)
    refine ⟨x :: f, by rw [List.map_cons, ← e2, e], by simp [e3], fun z hz => ?_⟩
    rw [List.mem_cons] at hz
    rcases hz with rfl | hz
    · exact p
    · exact q z hz
theorem sumR_perm {l m : List Rat} (h : l.Perm m) : sumR l = sumR m := by
  induction h with
  | nil => rfl
  | cons x _ ih => rw [sumR_cons, sumR_cons, ih]
  | swap x y l => rw [sumR_cons, sumR_cons, sumR_cons, sumR_cons]; grind
  | trans _ _ h1 h2 => rw [h1, h2]
theorem sortI_strict {l : List Int} (h : l.Nodup) : (sortI l).Pairwise (· < ·) := by
  have h1 := sortI_sorted l
  have h2 : (sortI l).Nodup := (sortI_perm l).nodup_iff.mpr h
  exact (h1.and h2).imp fun ⟨a, b⟩ => by omega
theorem nodup_asc {l : List Int} (h : l.Pairwise (· < ·)) : l.Nodup := h.imp fun h => by omega
end Lay

set_option Elab.async false
set_option linter.all false
set_option maxRecDepth 100000
/-! LayP: tuples of a known length used as tuples of any length; tuple(t). -/
namespace Lay
open PySem PySem.Spec PyProof.Rows L2
open Lay.Enc (enc)
def tp2 {α : Type} (t : T2 α α) : Tup α := ⟨[t.a, t.b]⟩
def tp3 {α : Type} (t : T3 α α α) : Tup α := ⟨[t.a, t.b, t.c]⟩
def tp4 {α : Type} (t : T4 α α α α) : Tup α := ⟨[t.a, t.b, t.c, t.d]⟩
section
variable {X : Cx} {G : List Sl} {α β : Type} [Enc α] [Enc β] {e : Expr} {N : List Str} {sc : Scope} {fs : Option Scope} {k : Nat} {p pos : Pos}
theorem ed_tp2 {o : Option (T2 α α)} (h : ED X G e o) : ED X G e (lift1 tp2 o) := ed_coe tp2 (fun _ => rfl) h
theorem ed_tp3 {o : Option (T3 α α α)} (h : ED X G e o) : ED X G e (lift1 tp3 o) := ed_coe tp3 (fun _ => rfl) h
theorem ed_tp4 {o : Option (T4 α α α α)} (h : ED X G e o) : ED X G e (lift1 tp4 o) := ed_coe tp4 (fun _ => rfl) h
theorem ed_tupT {ol : Option α} (ht : ∀ x : α, ∃ ds, enc x = PyData.tuple ds) (C : Ctx X N sc fs k) (hg : glbB sc "tuple" = true) (hm : X.mg "tuple" = none) (h : ED X G e ol) (hs : starEach [e] X.env = (false, eval e X.env) :: starEach [] X.env := by rfl) : ED X G (.Call (.Name "tuple" p) [e] [] pos) ol := fun z hz => by
  refine (bT C hg hm (by decide +kernel) call_tuple_of (h z hz) (by decide) hs).imp fun σ H Q ⟨F, I, ps, R, q⟩ => ⟨F, I, ps, R, fun v H1 I1 g1 R1 d => ?_⟩
  obtain ⟨ds, e1⟩ := ht z
  rw [e1] at d
  cases d with
  | tup k1 k2 => exact ⟨_, _, rfl, .inr ⟨.inl (rd_mono R1.si k1), q _ _ I1 g1 R1 (by rw [e1]; exact .tup k1 k2)⟩⟩
theorem ed_tupT2 {ol : Option (T2 α β)} (C : Ctx X N sc fs k) (hg : glbB sc "tuple" = true) (hm : X.mg "tuple" = none) (h : ED X G e ol) (hs : starEach [e] X.env = (false, eval e X.env) :: starEach [] X.env := by rfl) : ED X G (.Call (.Name "tuple" p) [e] [] pos) ol := ed_tupT (fun _ => ⟨_, rfl⟩) C hg hm h hs
end
end Lay

set_option Elab.async false
set_option linter.all false
set_option maxRecDepth 100000
/-! LayG: enumerate over a tuple (or a list), by what its iterator draws. -/
namespace Lay
open PySem PySem.Spec PyProof.Rows L2
open Lay.Enc (enc)
set_option maxHeartbeats 1000000 in
theorem enum_fresh {v : Value} {io : Obj} {Z : Heap → Prop} (B : Begins v io Z) :
    Meets (Builtin.«enumerate.__new__» ⟨[.type "enumerate", v], []⟩) (fun _ R st => Z st.heap ∧
      R (.ok (.ret (.ref (st.heap.push io).objs.size))) { st with heap := (st.heap.push io).push { cls := .type "enumerate", data := .fields #[.none, .bool false, .ref st.heap.objs.size, rawInt 0, .none, .none] } }) :=
  .of_wp fun pr wo A R st hyp => by
    obtain ⟨hp, gs, dr, tk, os⟩ := st
    obtain ⟨z, fin⟩ := hyp
    have hsub := sub_enumerate
    have start : ∀ {A2 : Around} {E : Value → Shared → Prop} {Q : Value → Shared → Prop}, Q (.ref hp.objs.size) ⟨hp.push io, gs, dr, tk, os⟩ → wpAny (model pr wo) A2 (pyIter v) Q E ⟨hp, gs, dr, tk, os⟩ := fun q => B.iter pr wo _ _ ⟨hp, gs, dr, tk, os⟩ _ z q
    wp_walk using start
    refine wpAny_stack_any fun bl => wpAny_pure ?_
    split
    · rename_i c _ _ _ _ _
      cases (c == Value.type "enumerate") <;> (wp_walk using start; exact ⟨_, rfl, fin⟩)
    · wp_walk using start
      exact ⟨_, rfl, fin⟩
theorem enum_made {pr : Program} {wo : World} {A : Around} {E : Value → Shared → Prop} {st : Shared} {v : Value} {io : Obj} {Z : Heap → Prop} {Q : Value → Shared → Prop} (B : Begins v io Z) (z : Z st.heap)
    (fin : ∀ hh, IsEnum hh (st.heap.objs.size + 1) st.heap.objs.size 0 .none → hh.get? st.heap.objs.size = some io → (∀ b ob, st.heap.get? b = some ob → hh.get? b = some ob) → Q (.ref (st.heap.objs.size + 1)) { st with heap := hh }) :
    wpAny (model pr wo) A (call (.type "enumerate") [v]) Q E st := by
  refine callType_new F.called_enumerate (by decide) (F.typeCall_enumerate_1 _) (F.newCall_enumerate_1 _) (fun ob => F.args_object_init_2 ob _) F.entry_enumerate_new (enum_fresh B) ⟨z, ?_⟩
  have sz : (st.heap.push io).objs.size = st.heap.objs.size + 1 := Heap.size_push ..
  show _ ∧ _
  rw [sz]
  have last := Heap.get?_push_size (st.heap.push io) (o := { cls := .type "enumerate", data := .fields #[.none, .bool false, .ref st.heap.objs.size, rawInt 0, .none, .none] }) rfl
  rw [sz] at last
  exact ⟨⟨_, last, rfl⟩, fin _ last (Heap.get?_push_of_some _ (Heap.get?_push_size _ B.free)) fun b ob q => Heap.get?_push_of_some _ (Heap.get?_push_of_some _ q)⟩
/-- the one at a as it stands, item by item, with its number in a new pair -/
def IteB (K : PySem.W.Frag) (b : Bool) (a : Addr) : It where
  go i H := ∃ (xs : List V) (x : V), SqB K b H a xs ∧ xs[i]? = some x
  yld i H v H' := ∃ T x, v = .ref T ∧ H T = none ∧ H' = upd H T (.tup [.int (i : Nat), x]) ∧ ∀ xs, SqB K b H a xs → xs[i]? = some x
  stop i H := ∃ xs : List V, SqB K b H a xs ∧ i = xs.length
theorem turn_enumB {P : Program} {w : World} {K : PySem.W.Frag} {es : List Expr} {kk : Nat} {tp : Pos} {b : Bool} {a n : Addr} (ha : a < n) :
    Turn P w K (.Tuple es kk tp) (IteB K b a) [n + 1, n] (n + 1) (fun i h => (∃ old, IsEnum h (n + 1) n ((i : Nat) : Int) old) ∧ IterB b h n a i) := by
  have two : ∀ {c : Addr}, c ∈ [n + 1, n] → c = n + 1 ∨ c = n := fun h => by simpa using h
  have ne : n + 1 ≠ n := Nat.succ_ne_self n
  refine { mem := by simp, obj := ?_, keep := ?_, item := ?_, done := ?_, self := ?_ }
  · rintro i h ⟨⟨old, e1⟩, e2⟩ c hc
    rcases two hc with e | e <;> subst e
    · exact ⟨_, e1, fun _ z => nomatch z⟩
    · exact e2.obj
  · rintro i h h' ⟨⟨old, e1⟩, e2⟩ kp
    exact ⟨⟨old, kp _ (by simp) _ e1⟩, e2.at (kp _ (by simp))⟩
  · intro X e1 e2 e3 calm i pins s σ H E I hf st hg
    subst e1 e2 e3
    obtain ⟨⟨old, z1⟩, z2⟩ := st
    obtain ⟨xs, x, qa, hx⟩ := hg
    obtain ⟨ia, ra, pa⟩ := sqB_items I qa
    have hd : X.A.in1.handled = none := I.ok.hd calm
    have la : i < ia.toArray.size := by rw [List.size_toArray, ← ra.length]; exact (List.getElem?_eq_some_iff.mp hx).1
    have noin : n + 1 ∉ [n, a] := fun z => (List.mem_cons.mp z).elim ne fun z => absurd ha (by rw [← List.mem_singleton.mp z]; exact Nat.not_lt.mpr (Nat.le_succ n))
    refine wpAny_pyNext_enum_itemC (draws_b hd b n a (Nat.ne_of_lt ha) ia.toArray) z1 ⟨z2, pa⟩ la ne noin fun u h1 tk p1 y1 y2 hT hsz kp => ?_
    have zlt : n + 1 < s.heap.objs.size := Heap.lt_size z1
    refine ⟨_, rfl, wpAny_letOwnedTupleGo_enum (s := { s with heap := h1, toks := tk + 1 }) y1 fun h2 y1' sb => ?_⟩
    obtain ⟨w1, hw1, r1⟩ := ra.get hx
    have q1 : u = w1 := by
      have := p1; simp only [List.getElem?_toArray] at this; rw [hw1] at this; exact (Option.some.inj this).symm
    subst q1
    have hT2 : h2.get? s.heap.objs.size = some { cls := .type "tuple", data := .seq #[.int i tk, u] } := (sb.2 _ (Nat.ne_of_gt zlt)).trans hT
    have ok : ObjOk X.prog X.w (upd H s.heap.objs.size (.tup [.int (i : Nat), x])) h2 s.heap.objs.size (.tup [.int (i : Nat), x]) := ⟨small_line (by show 2 ≤ 8; decide), [.int i tk, u], .cons ⟨_, rfl⟩ (.cons r1 .nil), ⟨_, hT2, rfl, _, rfl⟩⟩
    have kp2 : ∀ c o, c ∉ [n + 1, n] → s.heap.get? c = some o → h2.get? c = some o := fun c o hb e => by
      simp only [List.mem_cons, List.not_mem_nil, or_false, not_or] at hb
      exact (sb.2 c hb.1).trans (kp c o hb.1 hb.2 e)
    have I1 : Inv X pins σ (upd H s.heap.objs.size (.tup [.int (i : Nat), x])) { s with heap := h2, toks := tk + 1 } := I.turnedNew (t' := tk + 1) (ch := [n + 1, n]) kp2 hf (Nat.le_refl _) ok
    refine ⟨.ref s.heap.objs.size, _, I1, rfl, ⟨_, x, rfl, I.hok.fresh (Nat.le_refl _), rfl, fun l hl => ?_⟩, ⟨⟨u, ?_⟩, y2.1.at fun o e => (sb.2 _ (Ne.symm ne)).trans e⟩, fun c hb => ?_⟩
    · rw [sqB_inj I hl qa]; exact hx
    · have e1 : ((i + 1 : Nat) : Int) = (i : Int) + 1 := by omega
      rw [e1]; exact y1'
    · have lt : c < s.heap.objs.size := by
        rcases two hb with e | e <;> subst e
        · exact zlt
        · exact Nat.lt_of_succ_lt zlt
      rw [upd_ne (Nat.ne_of_lt lt)]
      exact (hf c hb).1
  · intro X e1 e2 e3 calm i pins s σ H E I hf st hg
    subst e1 e2 e3
    obtain ⟨⟨old, z1⟩, z2⟩ := st
    obtain ⟨xs, qa, hi⟩ := hg
    obtain ⟨ia, ra, pa⟩ := sqB_items I qa
    have hd : X.A.in1.handled = none := I.ok.hd calm
    obtain ⟨f0, f1, f2, f3, f4, f5⟩ := hf n (by simp)
    have sz : i = ia.toArray.size := by rw [List.size_toArray, ← ra.length]; exact hi
    exact wpAny_pyNext_enum_endD (draws_b hd b n a (Nat.ne_of_lt ha) ia.toArray) z1 (by rw [← sz]; exact ⟨z2, pa⟩) fun h' eb => ⟨rfl, I.turned (t' := s.toks) (fun c o hb q => eb c o hb q) f0 f1 f3 f4 f5⟩
  · exact fun A i s Q E st h => let ⟨⟨_, e⟩, _⟩ := st; wpAny_pyIter_enum e h
def iEnumB (K : PySem.W.Frag) (b : Bool) (ta : TA) : TI := fun σ H R => ta σ H fun vs H1 => ∃ a xs, vs = [.ref a] ∧ SqB K b H1 a xs ∧ R (IteB K b a) H1
theorem pi_enumB {X : Cx} {e : Expr} {ta : TA} {p pos tp : Pos} {es : List Expr} {kk : Nat} (b : Bool) (gl : Gl X "enumerate") (hm : X.mg "enumerate" = none) (hA : PA X [e] ta) (s1 : starEach [e] X.env = [(false, eval e X.env)]) :
    PI X (.Tuple es kk tp) (.Call (.Name "enumerate" p) [e] [] pos) (iEnumB X.K b ta) := ⟨fun pins s σ H R I h => by
  refine Call_ (ld_blt I gl hm boot_enumerate (PyProof.Rows.callWith_type1 (thn (hA.run pos pins s σ H _ I h) fun us st q => ?_) s1 rfl))
  obtain ⟨vs, H1, I1, rv, a, xs, ev, qa, q⟩ := q
  subst ev
  cases rv with
  | cons r rr =>
    cases rr
    cases r
    obtain ⟨ia, ra, pa⟩ := sqB_items I1 qa
    obtain ⟨o1, B1, w1⟩ := begins_b b a ia.toArray
    refine enum_made B1 pa fun h' z1 z2 kp => wpAny_pyIter_enum z1 ?_
    exact ⟨_, [st.heap.objs.size + 1, st.heap.objs.size], _, _, H1, rfl, I1.kept (t' := st.toks) kp, turn_enumB (objB_lt pa), ⟨⟨_, z1⟩, w1 _ _ z2⟩, fun c hb => by
      have le : st.heap.objs.size ≤ c := by
        simp only [List.mem_cons, List.not_mem_nil, or_false] at hb
        rcases hb with e | e <;> (rw [e]; first | exact Nat.le_refl _ | exact Nat.le_add_right _ _)
      exact I1.fpOk le (I1.hok.fresh le), q⟩⟩
section
variable {X : Cx} {G : List Sl} {α β : Type} [Enc α] [Enc β] {e : Expr} {N : List Str} {sc : Scope} {fs : Option Scope} {k : Nat} {p pos tpos : Pos} {elts : List Expr} {kk : Nat}
theorem it_enumT {o : Option (Tup α)} (C : Ctx X N sc fs k) (hg : glbB sc "enumerate" = true) (hm : X.mg "enumerate" = none) (h : ED X G e o) (hs : starEach [e] X.env = [(false, eval e X.env)] := by rfl) :
    IT X G (.Tuple elts kk tpos) (.Call (.Name "enumerate" p) [e] [] pos) (lift1 (fun t => enumL t.l) o) := fun l hl => by
  obtain ⟨t, h1, h2⟩ := lift1_get hl
  subst h2
  have pa : PA X [e] (tA X.K G [enc t]) := ad_cons h ad_nil hs _ (by rw [h1]; rfl)
  refine (pi_len (pi_enumB true (glbB_gl C.s hg).1 hm pa hs) fun σ H R R' w ⟨F, I, ps, r, q⟩ => ⟨F, I, ps, r, fun v H' I' g r' d => by obtain ⟨a, xs, e, z, q⟩ := q v H' I' g r' d; exact ⟨a, xs, e, z, w _ _ q⟩⟩).imp
    fun σ H R ⟨F, I, ps, r, q⟩ => ⟨F, I, ps, r, fun vs H' I' g r' d => ?_⟩
  cases d with
  | cons d1 d2 =>
    cases d2
    cases d1 with
    | tup k1 k2 =>
      have lx := k2.len
      rw [List.length_map] at lx
      refine ⟨_, _, rfl, (.inl (rd_mono r'.si k1)), fun lo => q _ _ I' g r' ⟨fun i d H s hd => ?_, fun H s => ⟨_, (.inl (rd_mono s k1)), ?_⟩⟩ ?_⟩
      · have hi : i < t.l.length := by
          have := (List.getElem?_eq_some_iff.mp hd).1
          rw [List.length_map, enumL_length] at this; exact this
        have hx := List.getElem?_eq_getElem hi
        rw [List.getElem?_map, enumL_get hx] at hd
        have hd := Option.some.inj hd
        subst hd
        obtain ⟨v, hv, dv⟩ := k2.at (show (t.l.map enc)[i]? = some (enc t.l[i]) by rw [List.getElem?_map, hx]; rfl)
        refine ⟨⟨_, v, (.inl (rd_mono s k1)), hv⟩, fun x H' y => ?_⟩
        obtain ⟨T, z, e1, e2, e3, e4⟩ := y
        have e5 := e4 _ (.inl (rd_mono s k1))
        rw [hv] at e5; cases e5
        subst e1
        exact .inr ⟨T, _, e2, e3, .tup (.inl upd_same) (.cons (.int _) (.cons (Dq_mono (same_upd (s.free e2)) _ _ dv) .nil))⟩
      · rw [lx, List.length_map, enumL_length]
      · rw [List.length_map, enumL_length]; have := (lo _ _).2 (.inl (rd_mono r'.si k1)); omega
theorem sw_nest {a1 a2 : List Expr} {k1 k2 k3 k4 : Nat} {p1 p2 p3 p4 : Pos} {env : Env} {a b : Expr} : swappedStores [.Tuple [.Tuple a1 k1 p1, .Tuple a2 k2 p2] k3 p3] (.Tuple [a, b] k4 p4) env = pure none := by
  unfold swappedStores
  simp only []
  split
  · rfl
  · split
    · rfl
    · split
      · rfl
      · rename_i h
        exact absurd h (by simp)
theorem OpR.either {op : Value → Value → Sem Value} {r1 r2 : R2} (h1 : OpR X op r1) (h2 : OpR X op r2) : OpR X op (fun x y H Q => r1 x y H Q ∨ r2 x y H Q) := fun pins s σ H x y v u Q I rx ry h => h.elim (h1 pins s σ H x y v u Q I rx ry) (h2 pins s σ H x y v u Q I rx ry)
/-- floor division, the divisor may be below 0 -/
def divN (i j : Int) : Option Int := if 0 < j ∧ j.natAbs.log2 < 9000 then some (i / j) else if j < 0 ∧ j.natAbs < 1073741824 then some (i.fdiv j) else none
theorem ed_fdivN {a b : Expr} {oa ob : Option Int} (ha : ED X G a oa) (hb : ED X G b ob) : ED X G (.BinOp a .FloorDiv b pos) (bind2 divN oa ob) :=
  ed_op2 (f := divN) (OpR.either op_fdivW op_fdivN) (fun x y z h => by
    unfold divN at h
    intro F G σ H I ps v w Q R hv hw q
    split at h
    · rename_i c; cases h
      exact .inl (Sem2.int (K := X.K) c F G σ H I ps v w Q R hv hw q)
    · obtain ⟨c, e⟩ := ite_get h
      subst e
      exact .inr (Sem2.int (K := X.K) (C := CDivN) (g := fun i j => i.fdiv j) ⟨by omega, c.2⟩ F G σ H I ps v w Q R hv hw q)) ha hb
/-- a range whose ends may be below 0 -/
def rng2N (i j : Int) : Option (List Int) := if (-1000000 ≤ i ∧ i ≤ 1000000) ∧ (-1000000 ≤ j ∧ j ≤ 1000000) then some (rngL i (j - i).toNat) else none
theorem it_rng2N {tg e2 : Expr} {o o2 : Option Int} (C : Ctx X N sc fs k) (hg : glbB sc "range" = true) (hm : X.mg "range" = none) (h : ED X G e o) (h' : ED X G e2 o2) (hs : starEach [e, e2] X.env = [(false, eval e X.env), (false, eval e2 X.env)] := by rfl) (hs2 : starEach [e2] X.env = [(false, eval e2 X.env)] := by rfl) :
    IT X G tg (.Call (.Name "range" p) [e, e2] [] pos) (bind2 rng2N o o2) := fun l hl => by
  obtain ⟨i, j, h1, h2, h3⟩ := bind2_get hl
  obtain ⟨hc, h3⟩ := ite_get h3
  subst h3
  refine (pi_range2 (glbB_gl C.s hg).1 hm (ad_cons h (ad_cons h' ad_nil hs2) (by rw [hs, hs2]) _ (by rw [h1, h2]; rfl)) hs hs2).imp fun σ H R ⟨F, I, ps, r, q⟩ => ⟨F, I, ps, r, fun vs H' I' g r' d => ?_⟩
  cases d with
  | cons d1 d2 =>
    cases d2 with
    | cons d2 d3 =>
      cases d3; cases d1; cases d2
      refine ⟨i, j, rfl, ⟨by omega, by omega, by omega, by omega⟩, q _ _ I' g r' wlk_rng (by rw [List.length_map, rngL_length, sizeLine_eq]; omega)⟩
end
end Lay

set_option Elab.async false
set_option linter.all false
set_option maxRecDepth 100000
/-! LayI: data in order (a < b), the least of a list of data, lists of optional items that are all there. -/
namespace Lay
open PySem PySem.Spec PyProof.Rows L2
open Lay.Enc (enc)
/-- a < b of data of one kind -/
def ltD {α : Type} [Enc α] (x y : α) : Bool := PySem.W.dataLt (enc x) (enc y)
def rLtD (K : PySem.W.Frag) : R2 := fun v w H Q => ∃ da db, Dp K H v da ∧ Dp K H w db ∧ PySem.W.alike da db = true ∧ da ≠ .none ∧ da.depth ≤ 60 ∧ Q (.bl (PySem.W.dataLt da db)) H
section
variable {X : Cx}
theorem op_ltD (hu : X.A.units + 64 < cLine) : OpR X (compareOp .Lt) (rLtD X.K) := by
  intro pins s σ H x y v u Q I rx ry h
  obtain ⟨d, e, hd, he, ha, hn, hp, q⟩ := h
  obtain ⟨as, r1⟩ := Dp.reads I d x v hd rx
  obtain ⟨bs, r2⟩ := Dp.reads I e y u he ry
  exact PySem.W.lt_data r1 r2 ha hn (by have := Nat.min_le_left d.depth e.depth; omega) ⟨.bl _, H, I, rfl, q⟩
end
section
variable {X : Cx} {G : List Sl} {α : Type} [Enc α] [SortT α] [NonNone α] {a b : Expr} {N : List Str} {sc : Scope} {fs : Option Scope} {k : Nat}
theorem ec_ltD [S : Sh α] {oa ob : Option α} (C : Ctx X N sc fs k) (ha : ED X G a oa) (hb : ED X G b ob) (hd : S.dp ≤ 60 := by decide) : EC X G .Lt a b (lift2 ltD oa ob) :=
  ec_of (op_ltD C.rm.units) (fun x y F G σ H I ps v w Q R dv dw q => ⟨_, _, Dq_dp _ _ (Dq_mono R.si _ _ dv), Dq_dp _ _ (Dq_mono R.si _ _ dw), SortT.one x y, NonNone.ne x, Nat.le_trans (S.dep x) hd, q _ _ _ Grow.refl R (.bl _)⟩) (nomark _) ha hb
end
def rGtD (K : PySem.W.Frag) : R2 := fun v w H Q => ∃ da db, Dp K H v da ∧ Dp K H w db ∧ PySem.W.alike da db = true ∧ da ≠ .none ∧ da.depth ≤ 60 ∧ Q (.bl (PySem.W.dataLt db da)) H
section
variable {X : Cx}
theorem op_gtD (hu : X.A.units + 64 < cLine) : OpR X (compareOp .Gt) (rGtD X.K) := by
  intro pins s σ H x y v u Q I rx ry h
  obtain ⟨d, e, hd, he, ha, hn, hp, q⟩ := h
  obtain ⟨as, r1⟩ := Dp.reads I d x v hd rx
  obtain ⟨bs, r2⟩ := Dp.reads I e y u he ry
  exact PySem.W.gt_data r1 r2 ha hn (by have := Nat.min_le_left d.depth e.depth; omega) ⟨.bl _, H, I, rfl, q⟩
end
section
variable {X : Cx} {G : List Sl} {α : Type} [Enc α] [SortT α] [NonNone α] {a b : Expr} {N : List Str} {sc : Scope} {fs : Option Scope} {k : Nat}
theorem ec_gtD [S : Sh α] {oa ob : Option α} (C : Ctx X N sc fs k) (ha : ED X G a oa) (hb : ED X G b ob) (hd : S.dp ≤ 60 := by decide) : EC X G .Gt a b (lift2 (fun x y => ltD y x) oa ob) :=
  ec_of (op_gtD C.rm.units) (fun x y F G σ H I ps v w Q R dv dw q => ⟨_, _, Dq_dp _ _ (Dq_mono R.si _ _ dv), Dq_dp _ _ (Dq_mono R.si _ _ dw), SortT.one x y, NonNone.ne x, Nat.le_trans (S.dep x) hd, q _ _ _ Grow.refl R (.bl _)⟩) (nomark _) ha hb
end
/-- the first of the least -/
def minLD {α : Type} [Enc α] : List α → Option α
  | [] => none
  | x :: xs => some (xs.foldl (fun a y => if ltD y a = true then y else a) x)
theorem minD_enc {α : Type} [Enc α] : ∀ (xs : List α) (x : α), PySem.W.minD (enc x) (xs.map enc) = enc (xs.foldl (fun a y => if ltD y a = true then y else a) x)
  | [], _ => rfl
  | y :: ys, x => by
    show PySem.W.minD (if PySem.W.dataLt (enc y) (enc x) = true then enc y else enc x) (ys.map enc) = _
    rw [List.foldl_cons]
    by_cases c : PySem.W.dataLt (enc y) (enc x) = true
    · have c' : ltD y x = true := c
      rw [if_pos c, if_pos c', minD_enc ys y]
    · have c' : ¬ ltD y x = true := c
      rw [if_neg c, if_neg c', minD_enc ys x]
def rMinD (α : Type) [Enc α] (K : PySem.W.Frag) : List V → Hp → VK → Prop := fun vs H Q => ∃ (a : Addr) (xs : List V) (l : List α), vs = [.ref a] ∧ SqL K H a xs ∧ DpAll K H xs (l.map enc) ∧ l ≠ [] ∧
  ∀ (i : Nat) (v : V) (z m : α), xs[i]? = some v → l[i]? = some z → minLD l = some m → (enc z : PyData) = enc m → Q v H
section
variable {X : Cx} {α : Type} [Enc α] [S : SortT α] [N : NonNone α] [T : Sh α]
theorem cr_minD (hc : X.calm = true) (hu : X.A.units + 64 < cLine) (hd : T.dp ≤ 60) : CallR X (.builtin "min") (rMinD α X.K) := by
  intro pins s σ H vs us Q I r h
  obtain ⟨a, xs, l, rfl, hs, hdp, hne, q⟩ := h
  obtain ⟨its, rv, hl, _⟩ := I.list hs
  rw [Vals.ref1 r]
  obtain ⟨as, rd⟩ := Dp.readsAll I _ _ _ hdp rv
  cases l with
  | nil => exact absurd rfl hne
  | cons x m =>
    have rd' : ReadsAll s.heap its.toArray.toList (enc x :: m.map enc) as := rd
    have al : ∀ y ∈ (enc x :: m.map enc : List PyData), ∃ z : α, y = enc z := fun y hy => by
      rcases List.mem_cons.mp hy with e | e
      · exact ⟨x, e⟩
      · obtain ⟨z, _, e⟩ := List.mem_map.mp e; exact ⟨z, e.symm⟩
    have dep : PyData.depthAll (enc x :: m.map enc) ≤ T.dp := depAll (x :: m)
    refine PySem.W.min_list_data (x := enc x) (xs := m.map enc) (I.ok.hd hc) hl.isList rd' ⟨fun y hy z hz => ?_, fun y hy => ?_⟩ (by omega) fun i v h' tk bs hv hr hk => ?_
    · obtain ⟨y, rfl⟩ := al y hy
      obtain ⟨z, rfl⟩ := al z hz
      exact S.one y z
    · obtain ⟨y, rfl⟩ := al y hy
      exact N.ne y
    · have hv : its[i]? = some v := by simpa using hv
      obtain ⟨bs', r1, il, _, _⟩ := PySem.W.readsAll_at rd i v hv
      have il : i < (x :: m).length := by rw [List.length_map] at il; exact il
      obtain ⟨z, hz⟩ : ∃ z, (x :: m)[i]? = some z := ⟨_, List.getElem?_eq_getElem il⟩
      have ez : ((x :: m).map (enc : α → PyData)).getD i .none = enc z := by rw [List.getD_eq_getElem?_getD, List.getElem?_map, hz]; rfl
      rw [ez] at r1
      rw [minD_enc] at hr
      have e := PySem.W.alike_unique _ _ _ _ _ (S.one _ _) (PySem.W.reads_keeps hk r1) hr
      obtain ⟨w, hw⟩ : ∃ w, xs[i]? = some w := ⟨_, List.getElem?_eq_getElem (by rw [dpAll_len hdp, List.length_map]; exact il)⟩
      obtain ⟨u, hu, ru⟩ := rv.get hw
      rw [hv] at hu
      cases hu
      exact ⟨w, H, I.kept hk, ru, q i w z _ hw hz rfl e⟩
end
section
variable {X : Cx} {G : List Sl} {α : Type} [Enc α] [S : SortT α] [NN : NonNone α] [T : Sh α] {e : Expr} {pos p : Pos} {N : List Str} {sc : Scope} {fs : Option Scope} {k : Nat}
theorem ed_minD {ol : Option (List α)} (C : Ctx X N sc fs k) (hg : glbB sc "min" = true) (hm : X.mg "min" = none) (h : ER X G e ol) (hs : starEach [e] X.env = (false, eval e X.env) :: starEach [] X.env := by rfl) (hd : T.dp ≤ 60 := by decide) : ED X G (.Call (.Name "min" p) [e] [] pos) (ol.bind minLD) := fun z hz => by
  obtain ⟨l, h1, h2⟩ := bind_get hz
  refine (b1 (id := "min") C hg hm (by decide +kernel) (cr_minD (α := α) C.calm C.rm.units hd) (h l h1) (by decide) hs).imp (tR_b1 fun F G σ H I ps ad xs Q R s d q => ?_)
  refine ⟨ad, xs, l, rfl, s, DqAll_dp _ _ (DqAll_mono R.si _ _ d), (fun c => by subst c; cases h2), fun i v y m hv hy hm' em => ?_⟩
  rw [h2] at hm'
  cases hm'
  refine q _ _ _ Grow.refl R ?_
  rw [← em]
  obtain ⟨w, hw, dw⟩ := d.at (i := i) (d := enc y) (by rw [List.getElem?_map, hy]; rfl)
  rw [hv] at hw
  cases hw
  exact dw
end
/-! ### lists of optional items that are all there -/
def seqO {α : Type} : List (Option α) → Option (List α)
  | [] => some []
  | none :: _ => none
  | some x :: r => (seqO r).map (x :: ·)
theorem seqO_eq {α : Type} : ∀ {l : List (Option α)} {m : List α}, seqO l = some m → l = m.map some
  | [], m, h => by cases h; rfl
  | none :: _, m, h => by cases h
  | some x :: r, m, h => by
    unfold seqO at h
    cases e : seqO r with
    | none => rw [e] at h; cases h
    | some t =>
      rw [e] at h
      cases h
      rw [seqO_eq e]; rfl
theorem seqO_some {α : Type} : ∀ m : List α, seqO (m.map some) = some m
  | [] => rfl
  | x :: m => by
    show (seqO (m.map some)).map (x :: ·) = _
    rw [seqO_some m]; rfl
theorem enc_some {α : Type} [Enc α] (m : List α) : (m.map some).map (enc : Option α → PyData) = m.map enc := by
  rw [List.map_map]; rfl
section
variable {X : Cx} {G : List Sl} {α : Type} [Enc α] {e tg : Expr}
theorem it_seq {ol : Option (List (Option α))} (h : IT X G tg e ol) : IT X G tg e (ol.bind seqO) := fun m hm => by
  obtain ⟨l, h1, h2⟩ := bind_get hm
  have := seqO_eq h2
  subst this
  have z := h _ h1
  rw [enc_some] at z
  exact z
theorem ed_seq {ol : Option (List (Option α))} (h : ED X G e ol) : ED X G e (ol.bind seqO) := fun m hm => by
  obtain ⟨l, h1, h2⟩ := bind_get hm
  have := seqO_eq h2
  subst this
  have z := h _ h1
  have q : (enc (m.map some) : PyData) = enc m := by
    show PyData.list ((m.map some).map (enc : Option α → PyData)) = PyData.list (m.map enc)
    rw [enc_some]
  rw [q] at z
  exact z
end
/-! ### a range with a step upwards -/
def rngC (lo c : Int) (n : Nat) : List Int := (List.range n).map fun i => lo + (i : Nat) * c
theorem rngC_length (lo c : Int) (n : Nat) : (rngC lo c n).length = n := by simp [rngC]
def rng3 (i j c : Int) : Option (List Int) := if ((0 ≤ i ∧ i ≤ 1000000) ∧ (0 ≤ j ∧ j ≤ 1000000)) ∧ (1 ≤ c ∧ c ≤ 1000000) then some (rngC i c (Builtin.Range.rangeSize i j c).toNat) else none
theorem rng3_size {i j c : Int} (h : ((0 ≤ i ∧ i ≤ 1000000) ∧ (0 ≤ j ∧ j ≤ 1000000)) ∧ (1 ≤ c ∧ c ≤ 1000000)) : (Builtin.Range.rangeSize i j c).toNat ≤ 1000000 := by
  have := PyProof.Rows.rangeSize_toNat_le i j c
  unfold Builtin.Range.rangeSize at *
  have hc : c > 0 := by omega
  rw [if_pos hc] at *
  split
  · have : (j - i - 1) / c ≤ j - i - 1 := Int.ediv_le_self _ (by omega)
    omega
  · omega
theorem wlk_rngC {K : PySem.W.Frag} {I : Hp} {lo c : Int} {n : Nat} : Wlk K (Itc lo c n) I ((rngC lo c n).map enc) := by
  refine ⟨fun i d H s hd => ?_, fun H s => by rw [List.length_map, rngC_length]; exact Nat.le_refl _⟩
  have hi : i < n := by
    have := (List.getElem?_eq_some_iff.mp hd).1
    rw [List.length_map, rngC_length] at this; exact this
  refine ⟨hi, fun x H' y => ?_⟩
  obtain ⟨e, y⟩ := y
  subst e y
  have : d = .int (lo + (i : Nat) * c) := by
    unfold rngC at hd
    rw [List.map_map, List.getElem?_map, List.getElem?_range hi] at hd
    exact (Option.some.inj hd).symm
  subst this
  exact .inl ⟨rfl, .int _⟩
section
variable {X : Cx} {G : List Sl} {e tg e2 e3 : Expr} {N : List Str} {sc : Scope} {fs : Option Scope} {k : Nat} {p pos : Pos}
def bind3 {α β γ δ : Type} (f : α → β → γ → Option δ) (a : Option α) (b : Option β) (c : Option γ) : Option δ := a.bind fun x => b.bind fun y => c.bind fun z => f x y z
theorem bind3_get {α β γ δ : Type} {f : α → β → γ → Option δ} {a : Option α} {b : Option β} {c : Option γ} {d : δ} (h : bind3 f a b c = some d) : ∃ x y z, a = some x ∧ b = some y ∧ c = some z ∧ f x y z = some d := by
  obtain ⟨x, h1, h⟩ := bind_get h
  obtain ⟨y, h2, h⟩ := bind_get h
  obtain ⟨z, h3, h⟩ := bind_get h
  exact ⟨x, y, z, h1, h2, h3, h⟩
theorem it_rng3 {o o2 o3 : Option Int} (C : Ctx X N sc fs k) (hg : glbB sc "range" = true) (hm : X.mg "range" = none) (h : ED X G e o) (h' : ED X G e2 o2) (h'' : ED X G e3 o3)
    (hs : starEach [e, e2, e3] X.env = (false, eval e X.env) :: starEach [e2, e3] X.env := by rfl) (hs2 : starEach [e2, e3] X.env = (false, eval e2 X.env) :: starEach [e3] X.env := by rfl) (hs3 : starEach [e3] X.env = [(false, eval e3 X.env)] := by rfl) (hpl : (backTo pos (starEach [e2, e3] X.env)).any (·.1) = false := by rfl) :
    IT X G tg (.Call (.Name "range" p) [e, e2, e3] [] pos) (bind3 rng3 o o2 o3) := fun l hl => by
  obtain ⟨i, j, c, h1, h2, h3, h4⟩ := bind3_get hl
  obtain ⟨hc, h4⟩ := ite_get h4
  subst h4
  refine (pi_range3 (glbB_gl C.s hg).1 hm (ad_cons h (ad_cons h' (ad_cons h'' ad_nil hs3) (by rw [hs2, hs3])) (by rw [hs, hs2, hs3]) _ (by rw [h1, h2, h3]; rfl)) hs hpl).imp fun σ H R ⟨F, I, ps, r, q⟩ => ⟨F, I, ps, r, fun vs H' I' g r' d => ?_⟩
  cases d with
  | cons d1 d2 =>
    cases d2 with
    | cons d2 d3 =>
      cases d3 with
      | cons d3 d4 =>
        cases d4; cases d1; cases d2; cases d3
        have sz := rng3_size hc
        refine ⟨i, j, c, (Builtin.Range.rangeSize i j c).toNat, rfl, ⟨by omega, by omega, ?_, PyProof.Rows.rangeSize_toNat i j c⟩, q _ _ I' g r' wlk_rngC (by rw [List.length_map, rngC_length, sizeLine_eq]; omega)⟩
        have e := PyProof.Rows.rangeSize_toNat i j c
        unfold Builtin.Range.small
        have hpos : c > 0 := by omega
        generalize Builtin.Range.rangeSize i j c = n at *
        simp only [Builtin.Range.rangeFitsLong, Bool.and_eq_true, Bool.or_eq_true, decide_eq_true_eq, beq_iff_eq, hpos, if_true]
        omega
end
end Lay

set_option Elab.async false
set_option linter.all false
set_option maxRecDepth 100000
namespace Lay.K17
open PySem PySem.Spec PyProof.Rows L2 Lay
open Lay.Enc (enc)
def b__law_draws (a_script : (List Int)) : Option (Out Unit Unit (List Int)) := (Option.bind (Option.bind (some ([] : List Int)) szG) fun (v_draws_1 : (List Int)) => (Option.bind (Option.bind (lift2 (fun i j => if j < i then j else i) (some (63 : Int)) (lift1 (fun l => (l.length : Int)) (some a_script))) rng1) fun l => bindOut (forL (fun (s2 : (List Int)) (y3 : Int) => (Option.bind (lift1 (fun i => if i < 0 then -i else i) (Option.bind (some y3) fun j => atI a_script j)) fun (v_rest_4 : Int) => (Option.bind (lift2 (fun i j => decide (j ≤ i)) (some v_rest_4) (bind2 powG (some (10 : Int)) (some (18 : Int)))) fun t => bindOut (bif t then (Option.bind (Option.bind (some (60 : Int)) rng1) fun l => bindOut (forL (fun (s6 : ((List Int) × Int)) (y7 : Int) => (Option.bind (lift2 (fun i j => decide (j < i)) (some s6.2) (some (0 : Int))) fun t => bindOut (bif t then (Option.bind (Option.bind (bind2 modG (some s6.2) (some (65536 : Int))) (appG s6.1)) fun (v9 : (List Int)) => (Option.bind (bind2 divG (some s6.2) (some (65536 : Int))) fun (v_rest_10 : Int) => (some (Out.nx (v9, v_rest_10))))) else (some (Out.nx (s6.1, s6.2)))) fun (s8 : ((List Int) × Int)) => (some (Out.nx (s8.1, s8.2))))) (s2, v_rest_4) l) fun (s6 : ((List Int) × Int)) => (some (Out.nx s6.1))) else (Option.bind (bind2 modG (lift2 (· + ·) (bind2 mulG (some v_rest_4) (some (48271 : Int))) (bind2 mulG (lift2 (· + ·) (some y3) (some (1 : Int))) (some (69621 : Int)))) (some (2147483647 : Int))) fun (v_mixed_11 : Int) => (Option.bind (bind2 modG (lift2 (· + ·) (lift2 (· + ·) (bind2 mulG (some v_mixed_11) (some (16807 : Int))) (bind2 mulG (some (11 : Int)) (some y3))) (some (5 : Int))) (some (2147483629 : Int))) fun (v_mixed_12 : Int) => (Option.bind (Option.bind (bind2 modG (some v_mixed_12) (some (65536 : Int))) (appG s2)) fun (v13 : (List Int)) => (Option.bind (Option.bind (bind2 modG (bind2 divG (some v_mixed_12) (some (65536 : Int))) (some (32768 : Int))) (appG v13)) fun (v14 : (List Int)) => (some (Out.nx v14))))))) fun (s5 : (List Int)) => (some (Out.nx s5))))) v_draws_1 l) fun (s2 : (List Int)) => (Option.bind (some s2) fun r => some (Out.rt r))))
def m__law_draws (a_script : (List Int)) : Option (List Int) := finO none (b__law_draws a_script)
def b__law_mix (a_draws : (List Int)) (a_k : Int) (a_many : Int) : Option (Out Unit Unit Int) := (Option.bind (some (0 : Int)) fun (v_value_1 : Int) => (Option.bind (lift2 (fun i j => decide (j < i)) (lift1 (fun l => (l.length : Int)) (some a_draws)) (some (0 : Int))) fun t => bindOut (bif t then (Option.bind (bind2 atI (some a_draws) (bind2 modG (some a_k) (lift1 (fun l => (l.length : Int)) (some a_draws)))) fun (v_value_3 : Int) => (some (Out.nx v_value_3))) else (some (Out.nx v_value_1))) fun (s2 : Int) => (Option.bind (lift2 (fun i j => decide (i < j)) (some a_k) (lift1 (fun l => (l.length : Int)) (some a_draws))) fun t => bindOut (bif t then (Option.bind (bind2 modG (some s2) (some a_many)) fun r => some (Out.rt r)) else (some (Out.nx ()))) fun (s4 : Unit) => (Option.bind (bind2 modG (bind2 divG (lift2 (· + ·) (bind2 mulG (some s2) (some (7919 : Int))) (bind2 mulG (some a_k) (some (104729 : Int)))) (some (3 : Int))) (some a_many)) fun r => some (Out.rt r)))))
def m__law_mix (a_draws : (List Int)) (a_k : Int) (a_many : Int) : Option Int := finO none (b__law_mix a_draws a_k a_many)
def b__law_kinds (a_draws : (List Int)) (a_k : Int) : Option (Out Unit Unit (List (T2 Int Int))) := (Option.bind (bind2 atI (Option.bind (lift2 List.cons (some (6 : Int)) (lift2 List.cons (some (12 : Int)) (lift2 List.cons (some (40 : Int)) (some ([] : List Int))))) szG) (bind2 atI (Option.bind (lift2 List.cons (some (0 : Int)) (lift2 List.cons (some (1 : Int)) (lift2 List.cons (some (1 : Int)) (lift2 List.cons (some (2 : Int)) (some ([] : List Int)))))) szG) (app3 m__law_mix (some a_draws) (lift2 (· + ·) (some a_k) (some (20 : Int))) (some (4 : Int))))) fun (v_top_1 : Int) => (Option.bind (Option.bind (some ([] : List (T2 Int Int))) szG) fun (v_found_2 : (List (T2 Int Int))) => (Option.bind (lift2 T2.mk (lift2 (· + ·) (some (1 : Int)) (app3 m__law_mix (some a_draws) (lift2 (· + ·) (some a_k) (some (21 : Int))) (some (5 : Int)))) (app3 m__law_mix (some a_draws) (lift2 (· + ·) (some a_k) (some (22 : Int))) (some (20 : Int)))) fun (v_base_3 : (T2 Int Int)) => (Option.bind (Option.bind (lift2 (· + ·) (some (1 : Int)) (app3 m__law_mix (some a_draws) (some a_k) (some (6 : Int)))) rng1) fun l => bindOut (forL (fun (s4 : (List (T2 Int Int))) (y5 : Int) => (Option.bind (lift2 T2.mk (lift2 (· + ·) (some (1 : Int)) (app3 m__law_mix (some a_draws) (lift2 (· + ·) (lift2 (· + ·) (some a_k) (some (1 : Int))) (bind2 mulG (some (2 : Int)) (some y5))) (some v_top_1))) (app3 m__law_mix (some a_draws) (lift2 (· + ·) (lift2 (· + ·) (some a_k) (some (2 : Int))) (bind2 mulG (some (2 : Int)) (some y5))) (bind2 mulG (some (4 : Int)) (some v_top_1)))) fun (v_kind_6 : (T2 Int Int)) => (Option.bind (lift2 (fun i j => decide (i = j)) (app3 m__law_mix (some a_draws) (lift2 (· + ·) (lift2 (· + ·) (some a_k) (some (23 : Int))) (some y5)) (some (4 : Int))) (some (0 : Int))) fun t => bindOut (bif t then (Option.bind (lift2 (· + ·) (some (1 : Int)) (app3 m__law_mix (some a_draws) (lift2 (· + ·) (lift2 (· + ·) (some a_k) (some (30 : Int))) (some y5)) (some (3 : Int)))) fun (v_by_8 : Int) => (Option.bind (lift2 T2.mk (bind2 mulG (lift1 T2.a (some v_base_3)) (some v_by_8)) (bind2 mulG (lift1 T2.b (some v_base_3)) (some v_by_8))) fun (v_kind_9 : (T2 Int Int)) => (some (Out.nx v_kind_9)))) else (some (Out.nx v_kind_6))) fun (s7 : (T2 Int Int)) => (Option.bind (lift2 (fun x l => !decide (x ∈ l)) (some s7) (some s4)) fun t => bindOut (bif t then (Option.bind (Option.bind (some s7) (appG s4)) fun (v11 : (List (T2 Int Int))) => (some (Out.nx v11))) else (some (Out.nx s4))) fun (s10 : (List (T2 Int Int))) => (some (Out.nx s10)))))) v_found_2 l) fun (s4 : (List (T2 Int Int))) => (Option.bind (some s4) fun r => some (Out.rt r))))))
def m__law_kinds (a_draws : (List Int)) (a_k : Int) : Option (List (T2 Int Int)) := finO none (b__law_kinds a_draws a_k)
def b__law_best (a_kinds : (List (T2 Int Int))) : Option (Out Unit Unit (T2 Int Int)) := (Option.bind (bind2 atI (some a_kinds) (some (0 : Int))) fun (v_found_1 : (T2 Int Int)) => (Option.bind (some a_kinds) fun l => bindOut (forL (fun (s2 : (T2 Int Int)) (y3 : (T2 Int Int)) => (Option.bind (lift2 (· - ·) (bind2 mulG (some y3.b) (lift1 T2.a (some s2))) (bind2 mulG (lift1 T2.b (some s2)) (some y3.a))) fun (v_gap_4 : Int) => (Option.bind (orG (lift2 (fun i j => decide (j < i)) (some v_gap_4) (some (0 : Int))) (andG (lift2 (fun i j => decide (i = j)) (some v_gap_4) (some (0 : Int))) (lift2 (fun i j => decide (i < j)) (some y3.a) (lift1 T2.a (some s2))))) fun t => bindOut (bif t then (Option.bind (lift2 T2.mk (some y3.a) (some y3.b)) fun (v_found_6 : (T2 Int Int)) => (some (Out.nx v_found_6))) else (some (Out.nx s2))) fun (s5 : (T2 Int Int)) => (some (Out.nx s5))))) v_found_1 l) fun (s2 : (T2 Int Int)) => (Option.bind (some s2) fun r => some (Out.rt r))))
def m__law_best (a_kinds : (List (T2 Int Int))) : Option (T2 Int Int) := finO none (b__law_best a_kinds)
def b__law_losses (a_kinds : (List (T2 Int Int))) (a_top : (T2 Int Int)) : Option (Out Unit Unit (List (T2 Int Int))) := (Option.bind (some a_top) fun (u1 : (T2 Int Int)) => (Option.bind (bind2 catG (Option.bind (lift2 List.cons (lift2 T2.mk (some (1 : Int)) (some (0 : Int))) (some ([] : List (T2 Int Int)))) szG) (Option.bind (some a_kinds) (lcL (fun (x3 : (T2 Int Int)) => (lift2 (fun x y => !decide (x = y)) (some x3) (some a_top))) (fun (x3 : (T2 Int Int)) => (some x3))))) fun (v_steps_2 : (List (T2 Int Int))) => (Option.bind (lift2 (· + ·) (bind2 mulG (some u1.a) (Option.bind (Option.bind (some v_steps_2) (lcL (fun (x5 : (T2 Int Int)) => (some true)) (fun (x5 : (T2 Int Int)) => (some x5.a)))) maxL)) (some (1 : Int))) fun (v_most_4 : Int) => (Option.bind (Option.bind (lift2 List.cons (some (0 : Int)) (some ([] : List Int))) szG) fun (v_least_6 : (List Int)) => (Option.bind (bind2 rng2 (some (1 : Int)) (lift2 (· + ·) (some v_most_4) (some (1 : Int)))) fun l => bindOut (forL (fun (s7 : (List Int)) (y8 : Int) => (Option.bind (Option.bind (Option.bind (Option.bind (some v_steps_2) (lcL (fun (x9 : (T2 Int Int)) => (lift2 (fun i j => decide (i ≤ j)) (some x9.a) (some y8))) (fun (x9 : (T2 Int Int)) => (lift2 (· - ·) (lift2 (· + ·) (Option.bind (lift2 (· - ·) (some y8) (some x9.a)) fun j => atI s7 j) (bind2 mulG (some u1.b) (some x9.a))) (bind2 mulG (some u1.a) (some x9.b)))))) minL) (appG s7)) fun (v10 : (List Int)) => (some (Out.nx v10)))) v_least_6 l) fun (s7 : (List Int)) => (Option.bind (Option.bind (some ([] : List (T2 Int Int))) szG) fun (v_found_11 : (List (T2 Int Int))) => (Option.bind (Option.bind (some u1.a) rng1) fun l => bindOut (forL (fun (s12 : (List (T2 Int Int))) (y13 : Int) => (Option.bind (Option.bind (Option.bind (Option.bind (bind3 rng3 (some y13) (lift2 (· + ·) (some v_most_4) (some (1 : Int))) (some u1.a)) (lcL (fun (x14 : Int) => (some true)) (fun (x14 : Int) => (lift2 T2.mk (Option.bind (some x14) fun j => atI s7 j) (some x14))))) minLD) (appG s12)) fun (v15 : (List (T2 Int Int))) => (some (Out.nx v15)))) v_found_11 l) fun (s12 : (List (T2 Int Int))) => (Option.bind (some s12) fun r => some (Out.rt r)))))))))
def m__law_losses (a_kinds : (List (T2 Int Int))) (a_top : (T2 Int Int)) : Option (List (T2 Int Int)) := finO none (b__law_losses a_kinds a_top)
def b_check_kinds (a_kinds : (List (T2 Int Int))) : Option (Out Unit Unit Unit) := (Option.bind (lift1 (fun x => !x) (chainG cLe cLe (some (1 : Int)) (lift1 (fun l => (l.length : Int)) (some a_kinds)) (some (6 : Int)))) fun t => bindOut (bif t then none else (some (Out.nx ()))) fun (s1 : Unit) => (Option.bind (lift1 enumL (some a_kinds)) fun l => bindOut (forL (fun (s2 : Unit) (y3 : (T2 Int (T2 Int Int))) => (Option.bind (orG (lift1 (fun x => !x) (chainG cLe cLe (some (1 : Int)) (some y3.b.a) (some (40 : Int)))) (orG (lift1 (fun x => !x) (chainG cLe cLe (some (0 : Int)) (some y3.b.b) (some (200 : Int)))) (lift2 (fun x l => decide (x ∈ l)) (lift2 T2.mk (some y3.b.a) (some y3.b.b)) (lift3 cutL (some a_kinds) (some none) (lift1 some (some y3.a)))))) fun t => bindOut (bif t then none else (some (Out.nx ()))) fun (s4 : Unit) => (some (Out.nx ())))) () l) fun (s2 : Unit) => (some (Out.nx ()))))
def m_check_kinds (a_kinds : (List (T2 Int Int))) : Option Unit := finO (some ()) (b_check_kinds a_kinds)
def b_best_of (a_kinds : (List (T2 Int Int))) : Option (Out Unit Unit (T2 Int Int)) := (Option.bind (bind2 atI (some a_kinds) (some (0 : Int))) fun (v_found_1 : (T2 Int Int)) => (Option.bind (some a_kinds) fun l => bindOut (forL (fun (s2 : (T2 Int Int)) (y3 : (T2 Int Int)) => (Option.bind (bind2 mulG (some y3.b) (lift1 T2.a (some s2))) fun (v_left_4 : Int) => Option.bind (bind2 mulG (lift1 T2.b (some s2)) (some y3.a)) fun (v_right_5 : Int) => (Option.bind (orG (lift2 (fun i j => decide (j < i)) (some v_left_4) (some v_right_5)) (andG (lift2 (fun i j => decide (i = j)) (some v_left_4) (some v_right_5)) (lift2 (fun i j => decide (i < j)) (some y3.a) (lift1 T2.a (some s2))))) fun t => bindOut (bif t then (Option.bind (lift2 T2.mk (some y3.a) (some y3.b)) fun (v_found_7 : (T2 Int Int)) => (some (Out.nx v_found_7))) else (some (Out.nx s2))) fun (s6 : (T2 Int Int)) => (some (Out.nx s6))))) v_found_1 l) fun (s2 : (T2 Int Int)) => (Option.bind (some s2) fun r => some (Out.rt r))))
def m_best_of (a_kinds : (List (T2 Int Int))) : Option (T2 Int Int) := finO none (b_best_of a_kinds)
def b_losses_of (a_kinds : (List (T2 Int Int))) : Option (Out Unit Unit (List (Option (T2 Int Int)))) := (Option.bind (app1 m_best_of (some a_kinds)) fun (u1 : (T2 Int Int)) => (Option.bind (bind2 catG (Option.bind (lift2 List.cons (lift2 T2.mk (some (1 : Int)) (some u1.b)) (some ([] : List (T2 Int Int)))) szG) (Option.bind (some a_kinds) (lcL (fun (x3 : (T2 Int Int)) => (lift2 (fun x y => !decide (x = y)) (lift2 T2.mk (some x3.a) (some x3.b)) (lift2 T2.mk (some u1.a) (some u1.b)))) (fun (x3 : (T2 Int Int)) => (lift2 T2.mk (some x3.a) (lift2 (· - ·) (bind2 mulG (some u1.b) (some x3.a)) (bind2 mulG (some u1.a) (some x3.b)))))))) fun (v_steps_2 : (List (T2 Int Int))) => (Option.bind (bind2 repG (Option.bind (lift2 List.cons (some (none : (Option (T2 Int Int)))) (some ([] : List (Option (T2 Int Int))))) szG) (some u1.a)) fun (v_found_4 : (List (Option (T2 Int Int)))) => (Option.bind (bind2 (fun v j => setG v_found_4 j v) (lift1 (some : (T2 Int Int) → Option (T2 Int Int)) (lift2 T2.mk (some (0 : Int)) (some (0 : Int)))) (some (0 : Int))) fun (v_found_5 : (List (Option (T2 Int Int)))) => (Option.bind (some true) fun (v_changed_6 : Bool) => (bindOut (whileF (fun (s7 : ((List (Option (T2 Int Int))) × Bool)) => (some s7.2)) (fun (s7 : ((List (Option (T2 Int Int))) × Bool)) => (Option.bind (some false) fun (v_changed_8 : Bool) => (Option.bind (Option.bind (some u1.a) rng1) fun l => bindOut (forL (fun (s9 : ((List (Option (T2 Int Int))) × Bool)) (y10 : Int) => (Option.bind (lift1 Option.isSome (Option.bind (some y10) fun j => atI s9.1 j)) fun t => bindOut (bif t then (Option.bind (Option.bind (Option.bind (some y10) fun j => atI s9.1 j) id) fun (u12 : (T2 Int Int)) => (Option.bind (some v_steps_2) fun l => bindOut (forL (fun (s13 : ((List (Option (T2 Int Int))) × Bool)) (y14 : (T2 Int Int)) => (Option.bind (bind2 modG (lift2 (· + ·) (some y10) (some y14.a)) (some u1.a)) fun (v_there_15 : Int) => (Option.bind (lift1 (some : (T2 Int Int) → Option (T2 Int Int)) (lift2 T2.mk (lift2 (· + ·) (some u12.a) (some y14.b)) (lift2 (· + ·) (some u12.b) (some y14.a)))) fun (v_new_16 : (Option (T2 Int Int))) => (Option.bind (orG (lift1 Option.isNone (Option.bind (some v_there_15) fun j => atI s13.1 j)) (lift2 (fun x y => ltD x y) (Option.bind (some v_new_16) id) (Option.bind (Option.bind (some v_there_15) fun j => atI s13.1 j) id))) fun t => bindOut (bif t then (Option.bind (bind2 (fun v j => setG s13.1 j v) (some v_new_16) (some v_there_15)) fun (v_found_18 : (List (Option (T2 Int Int)))) => (Option.bind (some true) fun (v_changed_19 : Bool) => (some (Out.nx (v_found_18, v_changed_19))))) else (some (Out.nx (s13.1, s13.2)))) fun (s17 : ((List (Option (T2 Int Int))) × Bool)) => (some (Out.nx (s17.1, s17.2))))))) (s9.1, s9.2) l) fun (s13 : ((List (Option (T2 Int Int))) × Bool)) => (some (Out.nx (s13.1, s13.2))))) else (some (Out.nx (s9.1, s9.2)))) fun (s11 : ((List (Option (T2 Int Int))) × Bool)) => (some (Out.nx (s11.1, s11.2))))) (s7.1, v_changed_8) l) fun (s9 : ((List (Option (T2 Int Int))) × Bool)) => (some (Out.nx (s9.1, s9.2)))))) (v_found_5.length + 2) (v_found_5, v_changed_6)) fun (s7 : ((List (Option (T2 Int Int))) × Bool)) => (some (Out.rt s7.1))))))))
def m_losses_of (a_kinds : (List (T2 Int Int))) : Option (List (Option (T2 Int Int))) := finO none (b_losses_of a_kinds)
def b_losses (a_kinds : (List (T2 Int Int))) : Option (Out Unit Unit (List (Option (T2 Int Int)))) := (Option.bind (app1 m_check_kinds (some a_kinds)) fun _ => (Option.bind (app1 m_losses_of (some a_kinds)) fun r => some (Out.rt r)))
def m_losses (a_kinds : (List (T2 Int Int))) : Option (List (Option (T2 Int Int))) := finO none (b_losses a_kinds)
def b__law_worths (a_kinds : (List (T2 Int Int))) (a_most : Int) : Option (Out Unit Unit (List Int)) := (Option.bind (Option.bind (lift2 List.cons (some (0 : Int)) (some ([] : List Int))) szG) fun (v_found_1 : (List Int)) => (Option.bind (bind2 rng2 (some (1 : Int)) (lift2 (· + ·) (some a_most) (some (1 : Int)))) fun l => bindOut (forL (fun (s2 : (List Int)) (y3 : Int) => (Option.bind (Option.bind (Option.bind (bind2 catG (Option.bind (lift2 List.cons (Option.bind (lift2 (· - ·) (some y3) (some (1 : Int))) fun j => atI s2 j) (some ([] : List Int))) szG) (Option.bind (some a_kinds) (lcL (fun (x4 : (T2 Int Int)) => (lift2 (fun i j => decide (i ≤ j)) (some x4.a) (some y3))) (fun (x4 : (T2 Int Int)) => (lift2 (· + ·) (Option.bind (lift2 (· - ·) (some y3) (some x4.a)) fun j => atI s2 j) (some x4.b)))))) maxL) (appG s2)) fun (v5 : (List Int)) => (some (Out.nx v5)))) v_found_1 l) fun (s2 : (List Int)) => (Option.bind (some s2) fun r => some (Out.rt r))))
def m__law_worths (a_kinds : (List (T2 Int Int))) (a_most : Int) : Option (List Int) := finO none (b__law_worths a_kinds a_most)
def b_check_amount (a_amount : Int) (a_most : Int) : Option (Out Unit Unit Unit) := (Option.bind (lift1 (fun x => !x) (chainG cLe cLe (some (0 : Int)) (some a_amount) (some a_most))) fun t => bindOut (bif t then none else (some (Out.nx ()))) fun (s1 : Unit) => (some (Out.nx ())))
def m_check_amount (a_amount : Int) (a_most : Int) : Option Unit := finO (some ()) (b_check_amount a_amount a_most)
def b_worths_to (a_kinds : (List (T2 Int Int))) (a_amount : Int) : Option (Out Unit Unit (List Int)) := (Option.bind (Option.bind (lift2 List.cons (some (0 : Int)) (some ([] : List Int))) szG) fun (v_found_1 : (List Int)) => (Option.bind (bind2 rng2 (some (1 : Int)) (lift2 (· + ·) (some a_amount) (some (1 : Int)))) fun l => bindOut (forL (fun (s2 : (List Int)) (y3 : Int) => (Option.bind (Option.bind (lift2 (· - ·) (some y3) (some (1 : Int))) fun j => atI s2 j) fun (v_best_4 : Int) => (Option.bind (some a_kinds) fun l => bindOut (forL (fun (s5 : Int) (y6 : (T2 Int Int)) => (Option.bind (lift2 (fun i j => decide (i ≤ j)) (some y6.a) (some y3)) fun t => bindOut (bif t then (Option.bind (lift2 (fun i j => if j > i then j else i) (some s5) (lift2 (· + ·) (Option.bind (lift2 (· - ·) (some y3) (some y6.a)) fun j => atI s2 j) (some y6.b))) fun (v_best_8 : Int) => (some (Out.nx v_best_8))) else (some (Out.nx s5))) fun (s7 : Int) => (some (Out.nx s7)))) v_best_4 l) fun (s5 : Int) => (Option.bind (Option.bind (some s5) (appG s2)) fun (v9 : (List Int)) => (some (Out.nx v9)))))) v_found_1 l) fun (s2 : (List Int)) => (Option.bind (some s2) fun r => some (Out.rt r))))
def m_worths_to (a_kinds : (List (T2 Int Int))) (a_amount : Int) : Option (List Int) := finO none (b_worths_to a_kinds a_amount)
def b_worth (a_kinds : (List (T2 Int Int))) (a_amount : Int) : Option (Out Unit Unit Int) := (Option.bind (app1 m_check_kinds (some a_kinds)) fun _ => (Option.bind (app2 m_check_amount (some a_amount) (some (2000 : Int))) fun _ => (Option.bind (bind2 atI (app2 m_worths_to (some a_kinds) (some a_amount)) (some a_amount)) fun r => some (Out.rt r))))
def m_worth (a_kinds : (List (T2 Int Int))) (a_amount : Int) : Option Int := finO none (b_worth a_kinds a_amount)
def b_best_kind (a_kinds : (List (T2 Int Int))) : Option (Out Unit Unit (T2 Int Int)) := (Option.bind (app1 m_check_kinds (some a_kinds)) fun _ => (Option.bind (app1 m_best_of (some a_kinds)) fun r => some (Out.rt r)))
def m_best_kind (a_kinds : (List (T2 Int Int))) : Option (T2 Int Int) := finO none (b_best_kind a_kinds)
def b_first_settled (a_kinds : (List (T2 Int Int))) : Option (Out Unit Unit Int) := (Option.bind (app1 m_check_kinds (some a_kinds)) fun _ => (Option.bind (app1 m_best_of (some a_kinds)) fun (u1 : (T2 Int Int)) => (Option.bind (lift2 (fun i j => if j > i then j else i) (some (0 : Int)) (lift2 (· + ·) (lift2 (· - ·) (Option.bind (Option.bind (Option.bind (app1 m_losses_of (some a_kinds)) seqO) (lcL (fun (x2 : (T2 Int Int)) => (some true)) (fun (x2 : (T2 Int Int)) => (some x2.b)))) maxL) (some u1.a)) (some (1 : Int)))) fun r => some (Out.rt r))))
def m_first_settled (a_kinds : (List (T2 Int Int))) : Option Int := finO none (b_first_settled a_kinds)
def b_law (a_script : (List Int)) : Option (Out Unit Unit Bool) := (Option.bind (m__law_draws a_script) fun (v_draws_1 : (List Int)) => (Option.bind (Option.bind (some (2 : Int)) rng1) fun l => bindOut (forL (fun (s2 : Unit) (y3 : Int) => (Option.bind (app2 m__law_kinds (some v_draws_1) (lift2 (· + ·) (some (10 : Int)) (bind2 mulG (some (50 : Int)) (some y3)))) fun (v_kinds_4 : (List (T2 Int Int))) => (Option.bind (Option.bind (some v_kinds_4) fun x => reprD (enc x)) fun (v_kept_5 : Str) => (Option.bind (app1 m__law_best (some v_kinds_4)) fun (v_top_6 : (T2 Int Int)) => (Option.bind (lift2 (fun i j => !decide (i = j)) (Option.bind (app1 m_best_kind (some v_kinds_4)) fun x => reprD (enc x)) (Option.bind (some v_top_6) fun x => reprD (enc x))) fun t => bindOut (bif t then (Option.bind (some false) fun r => some (Out.rt r)) else (some (Out.nx ()))) fun (s7 : Unit) => (Option.bind (app2 m__law_losses (some v_kinds_4) (some v_top_6)) fun (v_due_8 : (List (T2 Int Int))) => (Option.bind (app1 m_losses (some v_kinds_4)) fun (v_told_9 : (List (Option (T2 Int Int)))) => (Option.bind (lift2 (fun i j => !decide (i = j)) (Option.bind (some v_told_9) fun x => reprD (enc x)) (Option.bind (some v_due_8) fun x => reprD (enc x))) fun t => bindOut (bif t then (Option.bind (some false) fun r => some (Out.rt r)) else (some (Out.nx ()))) fun (s10 : Unit) => (Option.bind (Option.bind (Option.bind (some v_due_8) (lcL (fun (x12 : (T2 Int Int)) => (some true)) (fun (x12 : (T2 Int Int)) => (some x12.b)))) maxL) fun (v_bulk_11 : Int) => (Option.bind (lift2 (fun i j => if j < i then j else i) (some (2000 : Int)) (lift2 (· + ·) (lift2 (· + ·) (bind2 mulG (some (2 : Int)) (some v_bulk_11)) (bind2 mulG (some (3 : Int)) (lift1 T2.a (some v_top_6)))) (some (50 : Int)))) fun (v_most_13 : Int) => (Option.bind (app2 m__law_worths (some v_kinds_4) (some v_most_13)) fun (v_worths_14 : (List Int)) => (Option.bind (lift2 (fun i j => if j > i then j else i) (some (0 : Int)) (lift2 (· + ·) (lift2 (· - ·) (some v_bulk_11) (lift1 T2.a (some v_top_6))) (some (1 : Int)))) fun (v_first_15 : Int) => (Option.bind (lift2 (fun i j => !decide (i = j)) (Option.bind (app1 m_first_settled (some v_kinds_4)) fun x => reprD (enc x)) (Option.bind (some v_first_15) fun x => reprD (enc x))) fun t => bindOut (bif t then (Option.bind (some false) fun r => some (Out.rt r)) else (some (Out.nx ()))) fun (s16 : Unit) => (Option.bind (Option.bind (Option.bind (lift2 (· + ·) (lift2 (· - ·) (some v_most_13) (lift1 T2.a (some v_top_6))) (some (1 : Int))) rng1) (lcL (fun (x18 : Int) => (some true)) (fun (x18 : Int) => (lift2 (fun i j => decide (i = j)) (bind2 atI (some v_worths_14) (lift2 (· + ·) (some x18) (lift1 T2.a (some v_top_6)))) (lift2 (· + ·) (bind2 atI (some v_worths_14) (some x18)) (lift1 T2.b (some v_top_6))))))) fun (v_grows_17 : (List Bool)) => (Option.bind (andG (lift2 (fun i j => decide (i < j)) (some v_first_15) (lift1 (fun l => (l.length : Int)) (some v_grows_17))) (orG (lift2 (fun x l => decide (x ∈ l)) (some false) (lift3 cutL (some v_grows_17) (lift1 some (some v_first_15)) (some none))) (andG (lift2 (fun i j => decide (j < i)) (some v_first_15) (some (0 : Int))) (bind2 atI (some v_grows_17) (lift2 (· - ·) (some v_first_15) (some (1 : Int))))))) fun t => bindOut (bif t then (Option.bind (some false) fun r => some (Out.rt r)) else (some (Out.nx ()))) fun (s19 : Unit) => (Option.bind (bind2 catG (Option.bind (lift2 List.cons (some (0 : Int)) (lift2 List.cons (some (1 : Int)) (lift2 List.cons (lift1 T2.a (some v_top_6)) (lift2 List.cons (some v_first_15) (lift2 List.cons (some v_most_13) (lift2 List.cons (some (2000 : Int)) (some ([] : List Int)))))))) szG) (Option.bind (Option.bind (some (3 : Int)) rng1) (lcL (fun (x20 : Int) => (some true)) (fun (x20 : Int) => (app3 m__law_mix (some v_draws_1) (lift2 (· + ·) (lift2 (· + ·) (some (110 : Int)) (bind2 mulG (some (5 : Int)) (some y3))) (some x20)) (some (200 : Int))))))) fun l => bindOut (forL (fun (s21 : Unit) (y22 : Int) => (Option.bind (andG (lift2 (fun i j => decide (i ≤ j)) (some y22) (some v_most_13)) (lift2 (fun i j => !decide (i = j)) (app2 m_worth (some v_kinds_4) (some y22)) (bind2 atI (some v_worths_14) (some y22)))) fun t => bindOut (bif t then (Option.bind (some false) fun r => some (Out.rt r)) else (some (Out.nx ()))) fun (s23 : Unit) => (some (Out.nx ())))) () l) fun (s21 : Unit) => (Option.bind (app2 m_worth (some v_kinds_4) (some (2000 : Int))) fun (v_far_24 : Int) => (Option.bind (andG (lift2 (fun i j => decide (i < j)) (lift2 (· + ·) (some v_first_15) (lift1 T2.a (some v_top_6))) (some (2000 : Int))) (lift2 (fun i j => !decide (i = j)) (some v_far_24) (lift2 (· + ·) (app2 m_worth (some v_kinds_4) (lift2 (· - ·) (some (2000 : Int)) (lift1 T2.a (some v_top_6)))) (lift1 T2.b (some v_top_6))))) fun t => bindOut (bif t then (Option.bind (some false) fun r => some (Out.rt r)) else (some (Out.nx ()))) fun (s25 : Unit) => (Option.bind (Option.bind (lift1 (some : (T2 Int Int) → Option (T2 Int Int)) (lift2 T2.mk (some (0 : Int)) (some (0 : Int)))) (appG v_told_9)) fun (v26 : (List (Option (T2 Int Int)))) => (Option.bind (orG (lift2 (fun i j => !decide (i = j)) (Option.bind (app1 m_losses (some v_kinds_4)) fun x => reprD (enc x)) (Option.bind (some v_due_8) fun x => reprD (enc x))) (lift2 (fun i j => !decide (i = j)) (Option.bind (some v_kinds_4) fun x => reprD (enc x)) (some v_kept_5))) fun t => bindOut (bif t then (Option.bind (some false) fun r => some (Out.rt r)) else (some (Out.nx ()))) fun (s27 : Unit) => (some (Out.nx ())))))))))))))))))))))) () l) fun (s2 : Unit) => (Option.bind (some true) fun r => some (Out.rt r))))
def m_law (a_script : (List Int)) : Option Bool := finO none (b_law a_script)
end Lay.K17

set_option Elab.async false
set_option linter.all false
set_option maxRecDepth 100000
namespace Lay.K17
open PySem PySem.Spec PyProof.Rows L2 Lay
open Lay.Enc (enc)
def topS (i : Nat) : Stmt := PySem.Challenge.pw_wholebest_k17_whole_worths_that_settle.main.body.getD i (.Pass ⟨0, 0, 0, 0⟩)
abbrev st__law_draws : Stmt := topS 21
abbrev N__law_draws : List Str := ["script", "draws", "k", "rest", "turn", "mixed"]
theorem fs__law_draws : FnScope N__law_draws ["script"] (defScope st__law_draws) := ⟨rfl, rfl, rfl, by decide +kernel, rfl, by decide +kernel, by decide +kernel⟩
abbrev st__law_mix : Stmt := topS 22
abbrev N__law_mix : List Str := ["draws", "k", "many", "value"]
theorem fs__law_mix : FnScope N__law_mix ["draws", "k", "many"] (defScope st__law_mix) := ⟨rfl, rfl, rfl, by decide +kernel, rfl, by decide +kernel, by decide +kernel⟩
abbrev st__law_kinds : Stmt := topS 23
abbrev N__law_kinds : List Str := ["draws", "k", "top", "found", "base", "t", "kind", "by"]
theorem fs__law_kinds : FnScope N__law_kinds ["draws", "k"] (defScope st__law_kinds) := ⟨rfl, rfl, rfl, by decide +kernel, rfl, by decide +kernel, by decide +kernel⟩
abbrev st__law_best : Stmt := topS 25
abbrev N__law_best : List Str := ["kinds", "found", "size", "gain", "gap"]
theorem fs__law_best : FnScope N__law_best ["kinds"] (defScope st__law_best) := ⟨rfl, rfl, rfl, by decide +kernel, rfl, by decide +kernel, by decide +kernel⟩
abbrev st__law_losses : Stmt := topS 26
abbrev N__law_losses : List Str := ["kinds", "top", "steps", "most", "least", "size", "found", "residue", "unit", "gain", "kind", "more", "step"]
theorem fs__law_losses : FnScope N__law_losses ["kinds", "top"] (defScope st__law_losses) := ⟨rfl, rfl, rfl, by decide +kernel, rfl, by decide +kernel, by decide +kernel⟩
abbrev st_check_kinds : Stmt := topS 12
abbrev N_check_kinds : List Str := ["kinds", "k", "size", "gain"]
theorem fs_check_kinds : FnScope N_check_kinds ["kinds"] (defScope st_check_kinds) := ⟨rfl, rfl, rfl, by decide +kernel, rfl, by decide +kernel, by decide +kernel⟩
abbrev st_best_of : Stmt := topS 15
abbrev N_best_of : List Str := ["kinds", "found", "size", "gain", "left", "right"]
theorem fs_best_of : FnScope N_best_of ["kinds"] (defScope st_best_of) := ⟨rfl, rfl, rfl, by decide +kernel, rfl, by decide +kernel, by decide +kernel⟩
abbrev st_losses_of : Stmt := topS 17
abbrev N_losses_of : List Str := ["kinds", "steps", "found", "changed", "unit", "top", "residue", "size", "gain", "loss", "bulk", "more", "there", "new"]
theorem fs_losses_of : FnScope N_losses_of ["kinds"] (defScope st_losses_of) := ⟨rfl, rfl, rfl, by decide +kernel, rfl, by decide +kernel, by decide +kernel⟩
abbrev st_losses : Stmt := topS 18
abbrev N_losses : List Str := ["kinds"]
theorem fs_losses : FnScope N_losses ["kinds"] (defScope st_losses) := ⟨rfl, rfl, rfl, by decide +kernel, rfl, by decide +kernel, by decide +kernel⟩
abbrev st__law_worths : Stmt := topS 24
abbrev N__law_worths : List Str := ["kinds", "most", "found", "amount", "size", "gain"]
theorem fs__law_worths : FnScope N__law_worths ["kinds", "most"] (defScope st__law_worths) := ⟨rfl, rfl, rfl, by decide +kernel, rfl, by decide +kernel, by decide +kernel⟩
abbrev st_check_amount : Stmt := topS 6
abbrev N_check_amount : List Str := ["amount", "most"]
theorem fs_check_amount : FnScope N_check_amount ["amount", "most"] (defScope st_check_amount) := ⟨rfl, rfl, rfl, by decide +kernel, rfl, by decide +kernel, by decide +kernel⟩
abbrev st_worths_to : Stmt := topS 13
abbrev N_worths_to : List Str := ["kinds", "amount", "found", "here", "best", "size", "gain"]
theorem fs_worths_to : FnScope N_worths_to ["kinds", "amount"] (defScope st_worths_to) := ⟨rfl, rfl, rfl, by decide +kernel, rfl, by decide +kernel, by decide +kernel⟩
abbrev st_worth : Stmt := topS 14
abbrev N_worth : List Str := ["kinds", "amount"]
theorem fs_worth : FnScope N_worth ["kinds", "amount"] (defScope st_worth) := ⟨rfl, rfl, rfl, by decide +kernel, rfl, by decide +kernel, by decide +kernel⟩
abbrev st_best_kind : Stmt := topS 16
abbrev N_best_kind : List Str := ["kinds"]
theorem fs_best_kind : FnScope N_best_kind ["kinds"] (defScope st_best_kind) := ⟨rfl, rfl, rfl, by decide +kernel, rfl, by decide +kernel, by decide +kernel⟩
abbrev st_first_settled : Stmt := topS 19
abbrev N_first_settled : List Str := ["kinds", "unit", "_", "bulk"]
theorem fs_first_settled : FnScope N_first_settled ["kinds"] (defScope st_first_settled) := ⟨rfl, rfl, rfl, by decide +kernel, rfl, by decide +kernel, by decide +kernel⟩
abbrev st_law : Stmt := topS 27
abbrev N_law : List Str := ["script", "draws", "turn", "kinds", "kept", "top", "due", "told", "bulk", "most", "worths", "first", "grows", "amount", "far", "t", "loss", "size"]
theorem fs_law : FnScope N_law ["script"] (defScope st_law) := ⟨rfl, rfl, rfl, by decide +kernel, rfl, by decide +kernel, by decide +kernel⟩
structure Facts (mg : Str → Option Value) : Prop where
  abs_ : mg "abs" = none
  c_MOST_AMOUNT_ : ∃ t, mg "MOST_AMOUNT" = some (.int 2000 t)
  c_MOST_GAIN_ : ∃ t, mg "MOST_GAIN" = some (.int 200 t)
  c_MOST_KINDS_ : ∃ t, mg "MOST_KINDS" = some (.int 6 t)
  c_MOST_SIZE_ : ∃ t, mg "MOST_SIZE" = some (.int 40 t)
  enumerate_ : mg "enumerate" = none
  int_ : mg "int" = none
  len_ : mg "len" = none
  max_ : mg "max" = none
  min_ : mg "min" = none
  range_ : mg "range" = none
  repr_ : mg "repr" = none
end Lay.K17

set_option Elab.async false
set_option linter.all false
set_option maxRecDepth 100000
namespace Lay.K17
open PySem PySem.Spec PyProof.Rows L2 Lay
open Lay.Enc (enc)
set_option maxHeartbeats 0
theorem bk__law_draws {X : Cx} (C : Ctx X N__law_draws (defScope st__law_draws) none 0) (hF : Facts X.mg)  (a_script : (List Int)) :
    SV X (.rd (a_script.map enc) :: List.replicate 5 .un) (defBody st__law_draws) (fun _ : Unit => List.replicate 6 .un) (fun _ : Unit => List.replicate 6 .un) ⟨.dd, false⟩ (b__law_draws a_script) := by
  unfold b__law_draws
  refine sv_setO (i := 1) C (by decide +kernel) (Nat.le_of_ble_eq_true rfl) (eo_list (al_nil (α := Int))) fun v_draws_1 => ?_
  refine sv_for (S1 := (List Int)) (P1 := fun s2 => [.rd (a_script.map enc), .own (s2.map enc), .un, .un, .un, .un]) (s0 := v_draws_1) C (it_rng1 C (by decide +kernel) hF.range_ (ed_min2 C (by decide +kernel) hF.min_ ed_num (ed_len C (by decide +kernel) hF.len_ (er_rd (i := 0) C (by decide +kernel) rfl)))) (pgN (i := 2) C (by decide +kernel)) (tgt_name (i := 2)) (fun s2 => rfl) (wk_ops [] rfl) (fun s2 y3 => ?_) (fun s2 => ?_)
  · refine sv_set (i := 3) C (by decide +kernel) (ed_abs C (by decide +kernel) hF.abs_ (ed_ixR (i := 0) C (by decide +kernel) rfl (ed_var (i := 2) C (by decide +kernel) rfl))) fun v_rest_4 => ?_
    refine sv_if (S' := (List Int)) (P' := fun s5 => [.rd (a_script.map enc), .own (s5.map enc), .dat (enc y3), .un, .un, .un]) (eb_cmp (ec_ge (ed_var (i := 3) C (by decide +kernel) rfl) (ed_pow ed_num ed_num))) ?_ ?_ fun s5 => ?_
    · refine sv_for (S1 := ((List Int) × Int)) (P1 := fun s6 => [.rd (a_script.map enc), .own (s6.1.map enc), .dat (enc y3), .dat (enc s6.2), .un, .un]) (s0 := (s2, v_rest_4)) C (it_rng1 C (by decide +kernel) hF.range_ ed_num) (pgN (i := 4) C (by decide +kernel)) (tgt_name (i := 4)) (fun s6 => rfl) (wk_ops [] rfl) (fun s6 y7 => ?_) (fun s6 => ?_)
      · refine sv_if (S' := ((List Int) × Int)) (P' := fun s8 => [.rd (a_script.map enc), .own (s8.1.map enc), .dat (enc y3), .dat (enc s8.2), .dat (enc y7), .un]) (eb_cmp (ec_gt (ed_var (i := 3) C (by decide +kernel) rfl) ed_num)) ?_ ?_ fun s8 => ?_
        · refine sv_app (i := 1) C (by decide +kernel) rfl (ed_mod (ed_int C (by decide +kernel) hF.int_ (ed_var (i := 3) C (by decide +kernel) rfl)) ed_num) fun v9 => ?_
          refine sv_set (i := 3) C (by decide +kernel) (ed_fdiv (ed_var (i := 3) C (by decide +kernel) rfl) ed_num) fun v_rest_10 => ?_
          exact sv_nil (wk_ops [] rfl)
        · exact sv_nil (wk_ops [] rfl)
        exact sv_nil (wk_ops [.un 4] rfl)
      exact sv_nil (wk_ops [.un 3] rfl)
    · refine sv_set (i := 5) C (by decide +kernel) (ed_mod (ed_int C (by decide +kernel) hF.int_ (ed_add (ed_mul (ed_var (i := 3) C (by decide +kernel) rfl) ed_num) (ed_mul (ed_add (ed_var (i := 2) C (by decide +kernel) rfl) ed_num) ed_num))) ed_num) fun v_mixed_11 => ?_
      refine sv_set (i := 5) C (by decide +kernel) (ed_mod (ed_int C (by decide +kernel) hF.int_ (ed_add (ed_add (ed_mul (ed_var (i := 5) C (by decide +kernel) rfl) ed_num) (ed_mul ed_num (ed_var (i := 2) C (by decide +kernel) rfl))) ed_num)) ed_num) fun v_mixed_12 => ?_
      refine sv_app (i := 1) C (by decide +kernel) rfl (ed_mod (ed_int C (by decide +kernel) hF.int_ (ed_var (i := 5) C (by decide +kernel) rfl)) ed_num) fun v13 => ?_
      refine sv_app (i := 1) C (by decide +kernel) rfl (ed_mod (ed_int C (by decide +kernel) hF.int_ (ed_fdiv (ed_var (i := 5) C (by decide +kernel) rfl) ed_num)) ed_num) fun v14 => ?_
      exact sv_nil (wk_ops [.un 3, .un 5] rfl)
    exact sv_nil (wk_ops [.un 2] rfl)
  refine sv_wk (wk_ops [.fz 1] rfl) ?_
  exact sv_ret (ed_var (i := 1) C (by decide +kernel) rfl)
theorem ok__law_draws {P : Program} {w : World} {K : PySem.W.Frag} {mg : Str → Option Value} {base : Heap} {f : Addr} {fd : FuncData} (F : Fun K "_law_draws" "_law_draws" st__law_draws f fd) (hF : Facts mg)  : FnG P w K mg base CX0 1 f fd ["script"] (spR K .dd m__law_draws) :=
  ok_rd F fs__law_draws 6 rfl (by decide) fun X h1 h2 h3 h4 h5 C l r hr => by subst h1 h2 h3 h4 h5; exact body_of (bk__law_draws C hF  l) hr (fun x h => nomatch h)
theorem bk__law_mix {X : Cx} (C : Ctx X N__law_mix (defScope st__law_mix) none 0) (hF : Facts X.mg)  (a_draws : (List Int)) (a_k : Int) (a_many : Int) :
    SV X (dats 4 [enc a_draws, enc a_k, enc a_many]) (defBody st__law_mix) (fun _ : Unit => List.replicate 4 .un) (fun _ : Unit => List.replicate 4 .un) ⟨.dd, false⟩ (b__law_mix a_draws a_k a_many) := by
  unfold b__law_mix
  refine sv_set (i := 3) C (by decide +kernel) ed_num fun v_value_1 => ?_
  refine sv_if (S' := Int) (P' := fun s2 => [.dat (enc a_draws), .dat (enc a_k), .dat (enc a_many), .dat (enc s2)]) (eb_cmp (ec_gt (ed_len C (by decide +kernel) hF.len_ (er_of_ed (ed_var (i := 0) C (by decide +kernel) rfl))) ed_num)) ?_ ?_ fun s2 => ?_
  · refine sv_set (i := 3) C (by decide +kernel) (ed_ix (ed_var (i := 0) C (by decide +kernel) rfl) (ed_mod (ed_int C (by decide +kernel) hF.int_ (ed_var (i := 1) C (by decide +kernel) rfl)) (ed_len C (by decide +kernel) hF.len_ (er_of_ed (ed_var (i := 0) C (by decide +kernel) rfl))))) fun v_value_3 => ?_
    exact sv_nil (wk_ops [] rfl)
  · exact sv_nil (wk_ops [] rfl)
  refine sv_if (S' := Unit) (P' := fun s4 => [.dat (enc a_draws), .dat (enc a_k), .dat (enc a_many), .dat (enc s2)]) (eb_cmp (ec_lt (ed_var (i := 1) C (by decide +kernel) rfl) (ed_len C (by decide +kernel) hF.len_ (er_of_ed (ed_var (i := 0) C (by decide +kernel) rfl))))) ?_ ?_ fun s4 => ?_
  · exact sv_ret (ed_mod (ed_int C (by decide +kernel) hF.int_ (ed_var (i := 3) C (by decide +kernel) rfl)) (ed_var (i := 2) C (by decide +kernel) rfl))
  · exact sv_nil (wk_ops [] rfl)
  exact sv_ret (ed_mod (ed_int C (by decide +kernel) hF.int_ (ed_fdiv (ed_int C (by decide +kernel) hF.int_ (ed_add (ed_mul (ed_var (i := 3) C (by decide +kernel) rfl) ed_num) (ed_mul (ed_var (i := 1) C (by decide +kernel) rfl) ed_num))) ed_num)) (ed_var (i := 2) C (by decide +kernel) rfl))
theorem ok__law_mix {P : Program} {w : World} {K : PySem.W.Frag} {mg : Str → Option Value} {base : Heap} {f : Addr} {fd : FuncData} (F : Fun K "_law_mix" "_law_mix" st__law_mix f fd) (hF : Facts mg)  : FnG P w K mg base CX0 1 f fd ["draws", "k", "many"] (spD K .dd (g3 m__law_mix)) :=
  ok_def F fs__law_mix (fun ds r h => by obtain ⟨x0, x1, x2, y, e, _, _⟩ := h; rw [e]; rfl) 4 rfl (by decide) fun X h1 h2 h3 h4 h5 C ds r h => by subst h1 h2 h3 h4 h5; obtain ⟨x0, x1, x2, y, e1, e2, e3⟩ := h; subst e1 e3; exact body_of (bk__law_mix C hF  x0 x1 x2) e2 (fun x h => nomatch h)
theorem bk__law_kinds {X : Cx} (C : Ctx X N__law_kinds (defScope st__law_kinds) none 1) (hF : Facts X.mg) (hC__law_mix : Cal X.prog X.w X.K X.mg X.base CX0 1 "_law_mix" ["draws", "k", "many"] (spD X.K .dd (g3 m__law_mix))) (a_draws : (List Int)) (a_k : Int) :
    SV X (dats 8 [enc a_draws, enc a_k]) (defBody st__law_kinds) (fun _ : Unit => List.replicate 8 .un) (fun _ : Unit => List.replicate 8 .un) ⟨.dd, false⟩ (b__law_kinds a_draws a_k) := by
  unfold b__law_kinds
  refine sv_set (i := 2) C (by decide +kernel) (ed_ix (ed_of_eo (eo_list (al_cons ed_num (al_cons ed_num (al_cons ed_num (al_nil (α := Int))))))) (ed_ix (ed_of_eo (eo_list (al_cons ed_num (al_cons ed_num (al_cons ed_num (al_cons ed_num (al_nil (α := Int)))))))) (ed_call C hC__law_mix (by decide) (by decide +kernel) (ad_cons (ed_var (i := 0) C (by decide +kernel) rfl) (ad_cons (ed_add (ed_var (i := 1) C (by decide +kernel) rfl) ed_num) (ad_cons ed_num ad_nil))) go3))) fun v_top_1 => ?_
  refine sv_setO (i := 3) C (by decide +kernel) (Nat.le_of_ble_eq_true rfl) (eo_list (al_nil (α := (T2 Int Int)))) fun v_found_2 => ?_
  refine sv_set (i := 4) C (by decide +kernel) (ed_t2 (ed_add ed_num (ed_call C hC__law_mix (by decide) (by decide +kernel) (ad_cons (ed_var (i := 0) C (by decide +kernel) rfl) (ad_cons (ed_add (ed_var (i := 1) C (by decide +kernel) rfl) ed_num) (ad_cons ed_num ad_nil))) go3)) (ed_call C hC__law_mix (by decide) (by decide +kernel) (ad_cons (ed_var (i := 0) C (by decide +kernel) rfl) (ad_cons (ed_add (ed_var (i := 1) C (by decide +kernel) rfl) ed_num) (ad_cons ed_num ad_nil))) go3)) fun v_base_3 => ?_
  refine sv_for (S1 := (List (T2 Int Int))) (P1 := fun s4 => [.dat (enc a_draws), .dat (enc a_k), .dat (enc v_top_1), .own (s4.map enc), .dat (enc v_base_3), .un, .un, .un]) (s0 := v_found_2) C (it_rng1 C (by decide +kernel) hF.range_ (ed_add ed_num (ed_call C hC__law_mix (by decide) (by decide +kernel) (ad_cons (ed_var (i := 0) C (by decide +kernel) rfl) (ad_cons (ed_var (i := 1) C (by decide +kernel) rfl) (ad_cons ed_num ad_nil))) go3))) (pgN (i := 5) C (by decide +kernel)) (tgt_name (i := 5)) (fun s4 => rfl) (wk_ops [] rfl) (fun s4 y5 => ?_) (fun s4 => ?_)
  · refine sv_set (i := 6) C (by decide +kernel) (ed_t2 (ed_add ed_num (ed_call C hC__law_mix (by decide) (by decide +kernel) (ad_cons (ed_var (i := 0) C (by decide +kernel) rfl) (ad_cons (ed_add (ed_add (ed_var (i := 1) C (by decide +kernel) rfl) ed_num) (ed_mul ed_num (ed_var (i := 5) C (by decide +kernel) rfl))) (ad_cons (ed_var (i := 2) C (by decide +kernel) rfl) ad_nil))) go3)) (ed_call C hC__law_mix (by decide) (by decide +kernel) (ad_cons (ed_var (i := 0) C (by decide +kernel) rfl) (ad_cons (ed_add (ed_add (ed_var (i := 1) C (by decide +kernel) rfl) ed_num) (ed_mul ed_num (ed_var (i := 5) C (by decide +kernel) rfl))) (ad_cons (ed_mul ed_num (ed_var (i := 2) C (by decide +kernel) rfl)) ad_nil))) go3)) fun v_kind_6 => ?_
    refine sv_if (S' := (T2 Int Int)) (P' := fun s7 => [.dat (enc a_draws), .dat (enc a_k), .dat (enc v_top_1), .own (s4.map enc), .dat (enc v_base_3), .dat (enc y5), .dat (enc s7), .un]) (eb_cmp (ec_eqI (ed_call C hC__law_mix (by decide) (by decide +kernel) (ad_cons (ed_var (i := 0) C (by decide +kernel) rfl) (ad_cons (ed_add (ed_add (ed_var (i := 1) C (by decide +kernel) rfl) ed_num) (ed_var (i := 5) C (by decide +kernel) rfl)) (ad_cons ed_num ad_nil))) go3) ed_num)) ?_ ?_ fun s7 => ?_
    · refine sv_set (i := 7) C (by decide +kernel) (ed_add ed_num (ed_call C hC__law_mix (by decide) (by decide +kernel) (ad_cons (ed_var (i := 0) C (by decide +kernel) rfl) (ad_cons (ed_add (ed_add (ed_var (i := 1) C (by decide +kernel) rfl) ed_num) (ed_var (i := 5) C (by decide +kernel) rfl)) (ad_cons ed_num ad_nil))) go3)) fun v_by_8 => ?_
      refine sv_set (i := 6) C (by decide +kernel) (ed_t2 (ed_mul (ed_20 (ed_var (i := 4) C (by decide +kernel) rfl)) (ed_var (i := 7) C (by decide +kernel) rfl)) (ed_mul (ed_21 (ed_var (i := 4) C (by decide +kernel) rfl)) (ed_var (i := 7) C (by decide +kernel) rfl))) fun v_kind_9 => ?_
      exact sv_nil (wk_ops [.un 7] rfl)
    · exact sv_nil (wk_ops [] rfl)
    refine sv_if (S' := (List (T2 Int Int))) (P' := fun s10 => [.dat (enc a_draws), .dat (enc a_k), .dat (enc v_top_1), .own (s10.map enc), .dat (enc v_base_3), .dat (enc y5), .dat (enc s7), .un]) (eb_cmp (ec_notIn C (ed_var (i := 6) C (by decide +kernel) rfl) (er_own (i := 3) C (by decide +kernel) rfl))) ?_ ?_ fun s10 => ?_
    · refine sv_app (i := 3) C (by decide +kernel) rfl (ed_var (i := 6) C (by decide +kernel) rfl) fun v11 => ?_
      exact sv_nil (wk_ops [] rfl)
    · exact sv_nil (wk_ops [] rfl)
    exact sv_nil (wk_ops [.un 5, .un 6] rfl)
  refine sv_wk (wk_ops [.fz 3] rfl) ?_
  exact sv_ret (ed_var (i := 3) C (by decide +kernel) rfl)
theorem ok__law_kinds {P : Program} {w : World} {K : PySem.W.Frag} {mg : Str → Option Value} {base : Heap} {f : Addr} {fd : FuncData} (F : Fun K "_law_kinds" "_law_kinds" st__law_kinds f fd) (hF : Facts mg) (hC__law_mix : Cal P w K mg base CX0 1 "_law_mix" ["draws", "k", "many"] (spD K .dd (g3 m__law_mix))) : FnG P w K mg base CX0 2 f fd ["draws", "k"] (spD K .dd (g2 m__law_kinds)) :=
  ok_def F fs__law_kinds (fun ds r h => by obtain ⟨x0, x1, y, e, _, _⟩ := h; rw [e]; rfl) 8 rfl (by decide) fun X h1 h2 h3 h4 h5 C ds r h => by subst h1 h2 h3 h4 h5; obtain ⟨x0, x1, y, e1, e2, e3⟩ := h; subst e1 e3; exact body_of (bk__law_kinds C hF hC__law_mix x0 x1) e2 (fun x h => nomatch h)
theorem bk__law_best {X : Cx} (C : Ctx X N__law_best (defScope st__law_best) none 0) (hF : Facts X.mg)  (a_kinds : (List (T2 Int Int))) :
    SV X (dats 5 [enc a_kinds]) (defBody st__law_best) (fun _ : Unit => List.replicate 5 .un) (fun _ : Unit => List.replicate 5 .un) ⟨.dd, false⟩ (b__law_best a_kinds) := by
  unfold b__law_best
  refine sv_set (i := 1) C (by decide +kernel) (ed_ix (ed_var (i := 0) C (by decide +kernel) rfl) ed_num) fun v_found_1 => ?_
  refine sv_for (S1 := (T2 Int Int)) (P1 := fun s2 => [.dat (enc a_kinds), .dat (enc s2), .un, .un, .un]) (s0 := v_found_1) C (it_list (ed_var (i := 0) C (by decide +kernel) rfl)) (pg_tup (Ctx.calm C) (pgs_cons (pgN (i := 2) C (by decide +kernel)) (pgs_cons (pgN (i := 3) C (by decide +kernel)) pgs_nil))) (tgt_t2 (tgt_name (i := 2)) (tgt_name (i := 3))) (fun s2 => rfl) (wk_ops [] rfl) (fun s2 y3 => ?_) (fun s2 => ?_)
  · refine sv_set (i := 4) C (by decide +kernel) (ed_sub (ed_mul (ed_var (i := 3) C (by decide +kernel) rfl) (ed_20 (ed_var (i := 1) C (by decide +kernel) rfl))) (ed_mul (ed_21 (ed_var (i := 1) C (by decide +kernel) rfl)) (ed_var (i := 2) C (by decide +kernel) rfl))) fun v_gap_4 => ?_
    refine sv_if (S' := (T2 Int Int)) (P' := fun s5 => [.dat (enc a_kinds), .dat (enc s5), .dat (enc y3.a), .dat (enc y3.b), .dat (enc v_gap_4)]) (eb_bool (ew_or (eb_cmp (ec_gt (ed_var (i := 4) C (by decide +kernel) rfl) ed_num)) (ew_or1 (eb_bool (ew_and (eb_cmp (ec_eqI (ed_var (i := 4) C (by decide +kernel) rfl) ed_num)) (ew_and1 (eb_cmp (ec_lt (ed_var (i := 2) C (by decide +kernel) rfl) (ed_20 (ed_var (i := 1) C (by decide +kernel) rfl)))))))))) ?_ ?_ fun s5 => ?_
    · refine sv_set (i := 1) C (by decide +kernel) (ed_t2 (ed_var (i := 2) C (by decide +kernel) rfl) (ed_var (i := 3) C (by decide +kernel) rfl)) fun v_found_6 => ?_
      exact sv_nil (wk_ops [] rfl)
    · exact sv_nil (wk_ops [] rfl)
    exact sv_nil (wk_ops [.un 2, .un 3, .un 4] rfl)
  exact sv_ret (ed_var (i := 1) C (by decide +kernel) rfl)
theorem ok__law_best {P : Program} {w : World} {K : PySem.W.Frag} {mg : Str → Option Value} {base : Heap} {f : Addr} {fd : FuncData} (F : Fun K "_law_best" "_law_best" st__law_best f fd) (hF : Facts mg)  : FnG P w K mg base CX0 1 f fd ["kinds"] (spD K .dd (g1 m__law_best)) :=
  ok_def F fs__law_best (fun ds r h => by obtain ⟨x0, y, e, _, _⟩ := h; rw [e]; rfl) 5 rfl (by decide) fun X h1 h2 h3 h4 h5 C ds r h => by subst h1 h2 h3 h4 h5; obtain ⟨x0, y, e1, e2, e3⟩ := h; subst e1 e3; exact body_of (bk__law_best C hF  x0) e2 (fun x h => nomatch h)
theorem bk__law_losses {X : Cx} (C : Ctx X N__law_losses (defScope st__law_losses) none 0) (hF : Facts X.mg)  (a_kinds : (List (T2 Int Int))) (a_top : (T2 Int Int)) :
    SV X (dats 13 [enc a_kinds, enc a_top]) (defBody st__law_losses) (fun _ : Unit => List.replicate 13 .un) (fun _ : Unit => List.replicate 13 .un) ⟨.dd, false⟩ (b__law_losses a_kinds a_top) := by
  unfold b__law_losses
  refine sv_unpack (pg_tup (Ctx.calm C) (pgs_cons (pgN (i := 8) C (by decide +kernel)) (pgs_cons (pgN (i := 9) C (by decide +kernel)) pgs_nil))) (tgt_t2 (tgt_name (i := 8)) (tgt_name (i := 9))) rfl (ed_var (i := 1) C (by decide +kernel) rfl) fun u1 => ?_
  refine sv_set (i := 2) C (by decide +kernel) (ed_of_eo (eo_cat (ed_of_eo (eo_list (al_cons (ed_t2 ed_num ed_num) (al_nil (α := (T2 Int Int)))))) (ed_of_eo (eo_lc (lc_mk (own := [("kind", 10)]) C (it_list (ed_var (i := 0) C (by decide +kernel) rfl)) (by decide +kernel) (fun s3 H3 Ca3 cl3 fp3 => (pgN (i := 10) (Ctx.blk C s3 H3 _ Ca3 cl3 fp3 rfl) (by decide +kernel))) (tgt_name (i := 10)) (by decide) rfl (fun s3 H3 Ca3 cl3 fp3 x3 => (ets_one (eb_cmp (ec_neD (Ctx.blk C s3 H3 _ Ca3 cl3 fp3 rfl) (ed_var (i := 10) (Ctx.blk C s3 H3 _ Ca3 cl3 fp3 rfl) (by decide +kernel) rfl) (ed_var (i := 1) (Ctx.blk C s3 H3 _ Ca3 cl3 fp3 rfl) (by decide +kernel) rfl))))) (fun s3 H3 Ca3 cl3 fp3 x3 => (ed_var (i := 10) (Ctx.blk C s3 H3 _ Ca3 cl3 fp3 rfl) (by decide +kernel) rfl))))))) fun v_steps_2 => ?_
  refine sv_set (i := 3) C (by decide +kernel) (ed_add (ed_mul (ed_var (i := 8) C (by decide +kernel) rfl) (ed_maxL C (by decide +kernel) hF.max_ (er_of_eo (eo_lc (lc_mk (own := [("more", 11), ("size", 5)]) C (it_list (ed_var (i := 2) C (by decide +kernel) rfl)) (by decide +kernel) (fun s5 H5 Ca5 cl5 fp5 => (pg_tup (Ctx.calm (Ctx.blk C s5 H5 _ Ca5 cl5 fp5 rfl)) (pgs_cons (pgN (i := 5) (Ctx.blk C s5 H5 _ Ca5 cl5 fp5 rfl) (by decide +kernel)) (pgs_cons (pgN (i := 11) (Ctx.blk C s5 H5 _ Ca5 cl5 fp5 rfl) (by decide +kernel)) pgs_nil)))) (tgt_t2 (tgt_name (i := 5)) (tgt_name (i := 11))) (by decide) rfl (fun s5 H5 Ca5 cl5 fp5 x5 => ets_nil) (fun s5 H5 Ca5 cl5 fp5 x5 => (ed_var (i := 5) (Ctx.blk C s5 H5 _ Ca5 cl5 fp5 rfl) (by decide +kernel) rfl))))))) ed_num) fun v_most_4 => ?_
  refine sv_setO (i := 4) C (by decide +kernel) (Nat.le_of_ble_eq_true rfl) (eo_list (al_cons ed_num (al_nil (α := Int)))) fun v_least_6 => ?_
  refine sv_for (S1 := (List Int)) (P1 := fun s7 => [.dat (enc a_kinds), .dat (enc a_top), .dat (enc v_steps_2), .dat (enc v_most_4), .own (s7.map enc), .un, .un, .un, .dat (enc u1.a), .dat (enc u1.b), .un, .un, .un]) (s0 := v_least_6) C (it_rng2 C (by decide +kernel) hF.range_ ed_num (ed_add (ed_var (i := 3) C (by decide +kernel) rfl) ed_num)) (pgN (i := 5) C (by decide +kernel)) (tgt_name (i := 5)) (fun s7 => rfl) (wk_ops [] rfl) (fun s7 y8 => ?_) (fun s7 => ?_)
  · refine sv_app (i := 4) C (by decide +kernel) rfl (ed_minL C (by decide +kernel) hF.min_ (er_of_eo (eo_lc (lc_mk (own := [("more", 11), ("step", 12)]) C (it_list (ed_var (i := 2) C (by decide +kernel) rfl)) (by decide +kernel) (fun s9 H9 Ca9 cl9 fp9 => (pg_tup (Ctx.calm (Ctx.blk C s9 H9 _ Ca9 cl9 fp9 rfl)) (pgs_cons (pgN (i := 12) (Ctx.blk C s9 H9 _ Ca9 cl9 fp9 rfl) (by decide +kernel)) (pgs_cons (pgN (i := 11) (Ctx.blk C s9 H9 _ Ca9 cl9 fp9 rfl) (by decide +kernel)) pgs_nil)))) (tgt_t2 (tgt_name (i := 12)) (tgt_name (i := 11))) (by decide) rfl (fun s9 H9 Ca9 cl9 fp9 x9 => (ets_one (eb_cmp (ec_le (ed_var (i := 12) (Ctx.blk C s9 H9 _ Ca9 cl9 fp9 rfl) (by decide +kernel) rfl) (ed_var (i := 5) (Ctx.blk C s9 H9 _ Ca9 cl9 fp9 rfl) (by decide +kernel) rfl))))) (fun s9 H9 Ca9 cl9 fp9 x9 => (ed_sub (ed_add (ed_ixO (i := 4) (Ctx.blk C s9 H9 _ Ca9 cl9 fp9 rfl) (by decide +kernel) rfl (ed_sub (ed_var (i := 5) (Ctx.blk C s9 H9 _ Ca9 cl9 fp9 rfl) (by decide +kernel) rfl) (ed_var (i := 12) (Ctx.blk C s9 H9 _ Ca9 cl9 fp9 rfl) (by decide +kernel) rfl))) (ed_mul (ed_var (i := 9) (Ctx.blk C s9 H9 _ Ca9 cl9 fp9 rfl) (by decide +kernel) rfl) (ed_var (i := 12) (Ctx.blk C s9 H9 _ Ca9 cl9 fp9 rfl) (by decide +kernel) rfl))) (ed_mul (ed_var (i := 8) (Ctx.blk C s9 H9 _ Ca9 cl9 fp9 rfl) (by decide +kernel) rfl) (ed_var (i := 11) (Ctx.blk C s9 H9 _ Ca9 cl9 fp9 rfl) (by decide +kernel) rfl)))))))) fun v10 => ?_
    exact sv_nil (wk_ops [.un 5] rfl)
  refine sv_setO (i := 6) C (by decide +kernel) (Nat.le_of_ble_eq_true rfl) (eo_list (al_nil (α := (T2 Int Int)))) fun v_found_11 => ?_
  refine sv_for (S1 := (List (T2 Int Int))) (P1 := fun s12 => [.dat (enc a_kinds), .dat (enc a_top), .dat (enc v_steps_2), .dat (enc v_most_4), .own (s7.map enc), .un, .own (s12.map enc), .un, .dat (enc u1.a), .dat (enc u1.b), .un, .un, .un]) (s0 := v_found_11) C (it_rng1 C (by decide +kernel) hF.range_ (ed_var (i := 8) C (by decide +kernel) rfl)) (pgN (i := 7) C (by decide +kernel)) (tgt_name (i := 7)) (fun s12 => rfl) (wk_ops [] rfl) (fun s12 y13 => ?_) (fun s12 => ?_)
  · refine sv_app (i := 6) C (by decide +kernel) rfl (ed_minD C (by decide +kernel) hF.min_ (er_of_eo (eo_lc (lc_mk (own := [("size", 5)]) C (it_rng3 C (by decide +kernel) hF.range_ (ed_var (i := 7) C (by decide +kernel) rfl) (ed_add (ed_var (i := 3) C (by decide +kernel) rfl) ed_num) (ed_var (i := 8) C (by decide +kernel) rfl)) (by decide +kernel) (fun s14 H14 Ca14 cl14 fp14 => (pgN (i := 5) (Ctx.blk C s14 H14 _ Ca14 cl14 fp14 rfl) (by decide +kernel))) (tgt_name (i := 5)) (by decide) rfl (fun s14 H14 Ca14 cl14 fp14 x14 => ets_nil) (fun s14 H14 Ca14 cl14 fp14 x14 => (ed_t2 (ed_ixO (i := 4) (Ctx.blk C s14 H14 _ Ca14 cl14 fp14 rfl) (by decide +kernel) rfl (ed_var (i := 5) (Ctx.blk C s14 H14 _ Ca14 cl14 fp14 rfl) (by decide +kernel) rfl)) (ed_var (i := 5) (Ctx.blk C s14 H14 _ Ca14 cl14 fp14 rfl) (by decide +kernel) rfl))))))) fun v15 => ?_
    exact sv_nil (wk_ops [.un 7] rfl)
  refine sv_wk (wk_ops [.fz 6] rfl) ?_
  exact sv_ret (ed_var (i := 6) C (by decide +kernel) rfl)
theorem ok__law_losses {P : Program} {w : World} {K : PySem.W.Frag} {mg : Str → Option Value} {base : Heap} {f : Addr} {fd : FuncData} (F : Fun K "_law_losses" "_law_losses" st__law_losses f fd) (hF : Facts mg)  : FnG P w K mg base CX0 1 f fd ["kinds", "top"] (spD K .dd (g2 m__law_losses)) :=
  ok_def F fs__law_losses (fun ds r h => by obtain ⟨x0, x1, y, e, _, _⟩ := h; rw [e]; rfl) 13 rfl (by decide) fun X h1 h2 h3 h4 h5 C ds r h => by subst h1 h2 h3 h4 h5; obtain ⟨x0, x1, y, e1, e2, e3⟩ := h; subst e1 e3; exact body_of (bk__law_losses C hF  x0 x1) e2 (fun x h => nomatch h)
theorem bk_check_kinds {X : Cx} (C : Ctx X N_check_kinds (defScope st_check_kinds) none 0) (hF : Facts X.mg)  (a_kinds : (List (T2 Int Int))) :
    SV X (dats 4 [enc a_kinds]) (defBody st_check_kinds) (fun _ : Unit => List.replicate 4 .un) (fun _ : Unit => List.replicate 4 .un) ⟨.dd, false⟩ (b_check_kinds a_kinds) := by
  unfold b_check_kinds
  refine sv_if (S' := Unit) (P' := fun s1 => [.dat (enc a_kinds), .un, .un, .un]) (eb_not (eb_chLeLe rfl ed_num (ed_len C (by decide +kernel) hF.len_ (er_of_ed (ed_var (i := 0) C (by decide +kernel) rfl))) (ed_glb C (by decide +kernel) hF.c_MOST_KINDS_))) ?_ ?_ fun s1 => ?_
  · exact sv_raise
  · exact sv_nil (wk_ops [] rfl)
  refine sv_for (S1 := Unit) (P1 := fun s2 => [.dat (enc a_kinds), .un, .un, .un]) (s0 := ()) C (it_enum C (by decide +kernel) hF.enumerate_ (ed_var (i := 0) C (by decide +kernel) rfl)) (pg_tup (Ctx.calm C) (pgs_cons (pgN (i := 1) C (by decide +kernel)) (pgs_cons (pg_tup (Ctx.calm C) (pgs_cons (pgN (i := 2) C (by decide +kernel)) (pgs_cons (pgN (i := 3) C (by decide +kernel)) pgs_nil))) pgs_nil))) (tgt_t2 (tgt_name (i := 1)) (tgt_t2 (tgt_name (i := 2)) (tgt_name (i := 3)))) (fun s2 => rfl) (wk_ops [] rfl) (fun s2 y3 => ?_) (fun s2 => ?_)
  · refine sv_if (S' := Unit) (P' := fun s4 => [.dat (enc a_kinds), .dat (enc y3.a), .dat (enc y3.b.a), .dat (enc y3.b.b)]) (eb_bool (ew_or (eb_not (eb_chLeLe rfl ed_num (ed_var (i := 2) C (by decide +kernel) rfl) (ed_glb C (by decide +kernel) hF.c_MOST_SIZE_))) (ew_or (eb_not (eb_chLeLe rfl ed_num (ed_var (i := 3) C (by decide +kernel) rfl) (ed_glb C (by decide +kernel) hF.c_MOST_GAIN_))) (ew_or1 (eb_cmp (ec_in C (ed_t2 (ed_var (i := 2) C (by decide +kernel) rfl) (ed_var (i := 3) C (by decide +kernel) rfl)) (er_of_eo (eo_slice (ed_var (i := 0) C (by decide +kernel) rfl) ep_none (ep_some (ed_var (i := 1) C (by decide +kernel) rfl)))))))))) ?_ ?_ fun s4 => ?_
    · exact sv_raise
    · exact sv_nil (wk_ops [] rfl)
    exact sv_nil (wk_ops [.un 1, .un 2, .un 3] rfl)
  exact sv_nil (wkR_all rfl)
theorem ok_check_kinds {P : Program} {w : World} {K : PySem.W.Frag} {mg : Str → Option Value} {base : Heap} {f : Addr} {fd : FuncData} (F : Fun K "check_kinds" "check_kinds" st_check_kinds f fd) (hF : Facts mg)  : FnG P w K mg base CX0 1 f fd ["kinds"] (spD K .dd (g1 m_check_kinds)) :=
  ok_def F fs_check_kinds (fun ds r h => by obtain ⟨x0, y, e, _, _⟩ := h; rw [e]; rfl) 4 rfl (by decide) fun X h1 h2 h3 h4 h5 C ds r h => by subst h1 h2 h3 h4 h5; obtain ⟨x0, y, e1, e2, e3⟩ := h; subst e1 e3; exact body_of (bk_check_kinds C hF  x0) e2 (fun x h => by cases h; exact ⟨rfl, rfl⟩)
theorem bk_best_of {X : Cx} (C : Ctx X N_best_of (defScope st_best_of) none 0) (hF : Facts X.mg)  (a_kinds : (List (T2 Int Int))) :
    SV X (dats 6 [enc a_kinds]) (defBody st_best_of) (fun _ : Unit => List.replicate 6 .un) (fun _ : Unit => List.replicate 6 .un) ⟨.dd, false⟩ (b_best_of a_kinds) := by
  unfold b_best_of
  refine sv_set (i := 1) C (by decide +kernel) (ed_ix (ed_var (i := 0) C (by decide +kernel) rfl) ed_num) fun v_found_1 => ?_
  refine sv_for (S1 := (T2 Int Int)) (P1 := fun s2 => [.dat (enc a_kinds), .dat (enc s2), .un, .un, .un, .un]) (s0 := v_found_1) C (it_list (ed_var (i := 0) C (by decide +kernel) rfl)) (pg_tup (Ctx.calm C) (pgs_cons (pgN (i := 2) C (by decide +kernel)) (pgs_cons (pgN (i := 3) C (by decide +kernel)) pgs_nil))) (tgt_t2 (tgt_name (i := 2)) (tgt_name (i := 3))) (fun s2 => rfl) (wk_ops [] rfl) (fun s2 y3 => ?_) (fun s2 => ?_)
  · refine sv_par (i := 4) (j := 5) C (by decide +kernel) (by decide +kernel) (by decide) (by decide +kernel) (by decide +kernel) (ed_mul (ed_var (i := 3) C (by decide +kernel) rfl) (ed_20 (ed_var (i := 1) C (by decide +kernel) rfl))) (ed_mul (ed_21 (ed_var (i := 1) C (by decide +kernel) rfl)) (ed_var (i := 2) C (by decide +kernel) rfl)) fun v_left_4 v_right_5 => ?_
    refine sv_if (S' := (T2 Int Int)) (P' := fun s6 => [.dat (enc a_kinds), .dat (enc s6), .dat (enc y3.a), .dat (enc y3.b), .dat (enc v_left_4), .dat (enc v_right_5)]) (eb_bool (ew_or (eb_cmp (ec_gt (ed_var (i := 4) C (by decide +kernel) rfl) (ed_var (i := 5) C (by decide +kernel) rfl))) (ew_or1 (eb_bool (ew_and (eb_cmp (ec_eqI (ed_var (i := 4) C (by decide +kernel) rfl) (ed_var (i := 5) C (by decide +kernel) rfl))) (ew_and1 (eb_cmp (ec_lt (ed_var (i := 2) C (by decide +kernel) rfl) (ed_20 (ed_var (i := 1) C (by decide +kernel) rfl)))))))))) ?_ ?_ fun s6 => ?_
    · refine sv_set (i := 1) C (by decide +kernel) (ed_t2 (ed_var (i := 2) C (by decide +kernel) rfl) (ed_var (i := 3) C (by decide +kernel) rfl)) fun v_found_7 => ?_
      exact sv_nil (wk_ops [] rfl)
    · exact sv_nil (wk_ops [] rfl)
    exact sv_nil (wk_ops [.un 2, .un 3, .un 4, .un 5] rfl)
  exact sv_ret (ed_var (i := 1) C (by decide +kernel) rfl)
theorem ok_best_of {P : Program} {w : World} {K : PySem.W.Frag} {mg : Str → Option Value} {base : Heap} {f : Addr} {fd : FuncData} (F : Fun K "best_of" "best_of" st_best_of f fd) (hF : Facts mg)  : FnG P w K mg base CX0 1 f fd ["kinds"] (spD K .dd (g1 m_best_of)) :=
  ok_def F fs_best_of (fun ds r h => by obtain ⟨x0, y, e, _, _⟩ := h; rw [e]; rfl) 6 rfl (by decide) fun X h1 h2 h3 h4 h5 C ds r h => by subst h1 h2 h3 h4 h5; obtain ⟨x0, y, e1, e2, e3⟩ := h; subst e1 e3; exact body_of (bk_best_of C hF  x0) e2 (fun x h => nomatch h)
theorem bk_losses_of {X : Cx} (C : Ctx X N_losses_of (defScope st_losses_of) none 1) (hF : Facts X.mg) (hC_best_of : Cal X.prog X.w X.K X.mg X.base CX0 1 "best_of" ["kinds"] (spD X.K .dd (g1 m_best_of))) (a_kinds : (List (T2 Int Int))) :
    SV X (dats 14 [enc a_kinds]) (defBody st_losses_of) (fun _ : Unit => List.replicate 14 .un) (fun _ : Unit => List.replicate 14 .un) ⟨.ow, false⟩ (b_losses_of a_kinds) := by
  unfold b_losses_of
  refine sv_unpack (pg_tup (Ctx.calm C) (pgs_cons (pgN (i := 4) C (by decide +kernel)) (pgs_cons (pgN (i := 5) C (by decide +kernel)) pgs_nil))) (tgt_t2 (tgt_name (i := 4)) (tgt_name (i := 5))) rfl (ed_call C hC_best_of (by decide) (by decide +kernel) (ad_cons (ed_var (i := 0) C (by decide +kernel) rfl) ad_nil) go1) fun u1 => ?_
  refine sv_set (i := 1) C (by decide +kernel) (ed_of_eo (eo_cat (ed_of_eo (eo_list (al_cons (ed_t2 ed_num (ed_var (i := 5) C (by decide +kernel) rfl)) (al_nil (α := (T2 Int Int)))))) (ed_of_eo (eo_lc (lc_mk (own := [("gain", 8), ("size", 7)]) C (it_list (ed_var (i := 0) C (by decide +kernel) rfl)) (by decide +kernel) (fun s3 H3 Ca3 cl3 fp3 => (pg_tup (Ctx.calm (Ctx.blk C s3 H3 _ Ca3 cl3 fp3 rfl)) (pgs_cons (pgN (i := 7) (Ctx.blk C s3 H3 _ Ca3 cl3 fp3 rfl) (by decide +kernel)) (pgs_cons (pgN (i := 8) (Ctx.blk C s3 H3 _ Ca3 cl3 fp3 rfl) (by decide +kernel)) pgs_nil)))) (tgt_t2 (tgt_name (i := 7)) (tgt_name (i := 8))) (by decide) rfl (fun s3 H3 Ca3 cl3 fp3 x3 => (ets_one (eb_cmp (ec_neD (Ctx.blk C s3 H3 _ Ca3 cl3 fp3 rfl) (ed_t2 (ed_var (i := 7) (Ctx.blk C s3 H3 _ Ca3 cl3 fp3 rfl) (by decide +kernel) rfl) (ed_var (i := 8) (Ctx.blk C s3 H3 _ Ca3 cl3 fp3 rfl) (by decide +kernel) rfl)) (ed_t2 (ed_var (i := 4) (Ctx.blk C s3 H3 _ Ca3 cl3 fp3 rfl) (by decide +kernel) rfl) (ed_var (i := 5) (Ctx.blk C s3 H3 _ Ca3 cl3 fp3 rfl) (by decide +kernel) rfl)))))) (fun s3 H3 Ca3 cl3 fp3 x3 => (ed_t2 (ed_var (i := 7) (Ctx.blk C s3 H3 _ Ca3 cl3 fp3 rfl) (by decide +kernel) rfl) (ed_sub (ed_mul (ed_var (i := 5) (Ctx.blk C s3 H3 _ Ca3 cl3 fp3 rfl) (by decide +kernel) rfl) (ed_var (i := 7) (Ctx.blk C s3 H3 _ Ca3 cl3 fp3 rfl) (by decide +kernel) rfl)) (ed_mul (ed_var (i := 4) (Ctx.blk C s3 H3 _ Ca3 cl3 fp3 rfl) (by decide +kernel) rfl) (ed_var (i := 8) (Ctx.blk C s3 H3 _ Ca3 cl3 fp3 rfl) (by decide +kernel) rfl)))))))))) fun v_steps_2 => ?_
  refine sv_setO (i := 2) C (by decide +kernel) (Nat.le_of_ble_eq_true rfl) (eo_rep (eo_list (al_cons ed_none (al_nil (α := (Option (T2 Int Int)))))) (ed_var (i := 4) C (by decide +kernel) rfl)) fun v_found_4 => ?_
  refine sv_sti (i := 2) C (by decide +kernel) rfl (ed_some (ed_t2 ed_num ed_num)) ed_num fun v_found_5 => ?_
  refine sv_set (i := 3) C (by decide +kernel) ed_bl fun v_changed_6 => ?_
  refine sv_while (S1 := ((List (Option (T2 Int Int))) × Bool)) (P1 := fun s7 => [.dat (enc a_kinds), .dat (enc v_steps_2), .own (s7.1.map enc), .dat (enc s7.2), .dat (enc u1.a), .dat (enc u1.b), .un, .un, .un, .un, .un, .un, .un, .un]) (s0 := (v_found_5, v_changed_6)) (n := (v_found_5.length + 2)) C (wk_ops [] rfl) (fun s7 => (eb_of_ed (ed_var (i := 3) C (by decide +kernel) rfl))) (fun s7 => ?_) (fun s7 => ?_)
  · refine sv_set (i := 3) C (by decide +kernel) ed_bl fun v_changed_8 => ?_
    refine sv_for (S1 := ((List (Option (T2 Int Int))) × Bool)) (P1 := fun s9 => [.dat (enc a_kinds), .dat (enc v_steps_2), .own (s9.1.map enc), .dat (enc s9.2), .dat (enc u1.a), .dat (enc u1.b), .un, .un, .un, .un, .un, .un, .un, .un]) (s0 := (s7.1, v_changed_8)) C (it_rng1 C (by decide +kernel) hF.range_ (ed_var (i := 4) C (by decide +kernel) rfl)) (pgN (i := 6) C (by decide +kernel)) (tgt_name (i := 6)) (fun s9 => rfl) (wk_ops [] rfl) (fun s9 y10 => ?_) (fun s9 => ?_)
    · refine sv_if (S' := ((List (Option (T2 Int Int))) × Bool)) (P' := fun s11 => [.dat (enc a_kinds), .dat (enc v_steps_2), .own (s11.1.map enc), .dat (enc s11.2), .dat (enc u1.a), .dat (enc u1.b), .dat (enc y10), .un, .un, .un, .un, .un, .un, .un]) (eb_cmp (ec_notN (ed_ixO (i := 2) C (by decide +kernel) rfl (ed_var (i := 6) C (by decide +kernel) rfl)))) ?_ ?_ fun s11 => ?_
      · refine sv_unpack (pg_tup (Ctx.calm C) (pgs_cons (pgN (i := 9) C (by decide +kernel)) (pgs_cons (pgN (i := 10) C (by decide +kernel)) pgs_nil))) (tgt_t2 (tgt_name (i := 9)) (tgt_name (i := 10))) rfl (ed_get (ed_ixO (i := 2) C (by decide +kernel) rfl (ed_var (i := 6) C (by decide +kernel) rfl))) fun u12 => ?_
        refine sv_for (S1 := ((List (Option (T2 Int Int))) × Bool)) (P1 := fun s13 => [.dat (enc a_kinds), .dat (enc v_steps_2), .own (s13.1.map enc), .dat (enc s13.2), .dat (enc u1.a), .dat (enc u1.b), .dat (enc y10), .un, .un, .dat (enc u12.a), .dat (enc u12.b), .un, .un, .un]) (s0 := (s9.1, s9.2)) C (it_list (ed_var (i := 1) C (by decide +kernel) rfl)) (pg_tup (Ctx.calm C) (pgs_cons (pgN (i := 7) C (by decide +kernel)) (pgs_cons (pgN (i := 11) C (by decide +kernel)) pgs_nil))) (tgt_t2 (tgt_name (i := 7)) (tgt_name (i := 11))) (fun s13 => rfl) (wk_ops [] rfl) (fun s13 y14 => ?_) (fun s13 => ?_)
        · refine sv_set (i := 12) C (by decide +kernel) (ed_mod (ed_add (ed_var (i := 6) C (by decide +kernel) rfl) (ed_var (i := 7) C (by decide +kernel) rfl)) (ed_var (i := 4) C (by decide +kernel) rfl)) fun v_there_15 => ?_
          refine sv_set (i := 13) C (by decide +kernel) (ed_some (ed_t2 (ed_add (ed_var (i := 9) C (by decide +kernel) rfl) (ed_var (i := 11) C (by decide +kernel) rfl)) (ed_add (ed_var (i := 10) C (by decide +kernel) rfl) (ed_var (i := 7) C (by decide +kernel) rfl)))) fun v_new_16 => ?_
          refine sv_if (S' := ((List (Option (T2 Int Int))) × Bool)) (P' := fun s17 => [.dat (enc a_kinds), .dat (enc v_steps_2), .own (s17.1.map enc), .dat (enc s17.2), .dat (enc u1.a), .dat (enc u1.b), .dat (enc y10), .dat (enc y14.a), .un, .dat (enc u12.a), .dat (enc u12.b), .dat (enc y14.b), .dat (enc v_there_15), .dat (enc v_new_16)]) (eb_bool (ew_or (eb_cmp (ec_isN (ed_ixO (i := 2) C (by decide +kernel) rfl (ed_var (i := 12) C (by decide +kernel) rfl)))) (ew_or1 (eb_cmp (ec_ltD C (ed_get (ed_var (i := 13) C (by decide +kernel) rfl)) (ed_get (ed_ixO (i := 2) C (by decide +kernel) rfl (ed_var (i := 12) C (by decide +kernel) rfl)))))))) ?_ ?_ fun s17 => ?_
          · refine sv_sti (i := 2) C (by decide +kernel) rfl (ed_var (i := 13) C (by decide +kernel) rfl) (ed_var (i := 12) C (by decide +kernel) rfl) fun v_found_18 => ?_
            refine sv_set (i := 3) C (by decide +kernel) ed_bl fun v_changed_19 => ?_
            exact sv_nil (wk_ops [] rfl)
          · exact sv_nil (wk_ops [] rfl)
          exact sv_nil (wk_ops [.un 7, .un 11, .un 12, .un 13] rfl)
        exact sv_nil (wk_ops [.un 9, .un 10] rfl)
      · exact sv_nil (wk_ops [] rfl)
      exact sv_nil (wk_ops [.un 6] rfl)
    exact sv_nil (wk_ops [] rfl)
  exact sv_retOwn (i := 2) C (by decide +kernel) rfl
theorem ok_losses_of {P : Program} {w : World} {K : PySem.W.Frag} {mg : Str → Option Value} {base : Heap} {f : Addr} {fd : FuncData} (F : Fun K "losses_of" "losses_of" st_losses_of f fd) (hF : Facts mg) (hC_best_of : Cal P w K mg base CX0 1 "best_of" ["kinds"] (spD K .dd (g1 m_best_of))) : FnG P w K mg base CX0 2 f fd ["kinds"] (spD K .ow (g1 m_losses_of)) :=
  ok_def F fs_losses_of (fun ds r h => by obtain ⟨x0, y, e, _, _⟩ := h; rw [e]; rfl) 14 rfl (by decide) fun X h1 h2 h3 h4 h5 C ds r h => by subst h1 h2 h3 h4 h5; obtain ⟨x0, y, e1, e2, e3⟩ := h; subst e1 e3; exact body_of (bk_losses_of C hF hC_best_of x0) e2 (fun x h => nomatch h)
theorem bk_losses {X : Cx} (C : Ctx X N_losses (defScope st_losses) none 2) (hF : Facts X.mg) (hC_check_kinds : Cal X.prog X.w X.K X.mg X.base CX0 1 "check_kinds" ["kinds"] (spD X.K .dd (g1 m_check_kinds))) (hC_losses_of : Cal X.prog X.w X.K X.mg X.base CX0 2 "losses_of" ["kinds"] (spD X.K .ow (g1 m_losses_of))) (a_kinds : (List (T2 Int Int))) :
    SV X (dats 1 [enc a_kinds]) (defBody st_losses) (fun _ : Unit => List.replicate 1 .un) (fun _ : Unit => List.replicate 1 .un) ⟨.ow, false⟩ (b_losses a_kinds) := by
  unfold b_losses
  refine sv_expr (ed_call C hC_check_kinds (by decide) (by decide +kernel) (ad_cons (ed_var (i := 0) C (by decide +kernel) rfl) ad_nil) go1) ?_
  exact sv_retO (eo_call C hC_losses_of (by decide) (by decide +kernel) (ad_cons (ed_var (i := 0) C (by decide +kernel) rfl) ad_nil) go1)
theorem ok_losses {P : Program} {w : World} {K : PySem.W.Frag} {mg : Str → Option Value} {base : Heap} {f : Addr} {fd : FuncData} (F : Fun K "losses" "losses" st_losses f fd) (hF : Facts mg) (hC_check_kinds : Cal P w K mg base CX0 1 "check_kinds" ["kinds"] (spD K .dd (g1 m_check_kinds))) (hC_losses_of : Cal P w K mg base CX0 2 "losses_of" ["kinds"] (spD K .ow (g1 m_losses_of))) : FnG P w K mg base CX0 3 f fd ["kinds"] (spD K .ow (g1 m_losses)) :=
  ok_def F fs_losses (fun ds r h => by obtain ⟨x0, y, e, _, _⟩ := h; rw [e]; rfl) 1 rfl (by decide) fun X h1 h2 h3 h4 h5 C ds r h => by subst h1 h2 h3 h4 h5; obtain ⟨x0, y, e1, e2, e3⟩ := h; subst e1 e3; exact body_of (bk_losses C hF hC_check_kinds hC_losses_of x0) e2 (fun x h => nomatch h)
theorem bk__law_worths {X : Cx} (C : Ctx X N__law_worths (defScope st__law_worths) none 0) (hF : Facts X.mg)  (a_kinds : (List (T2 Int Int))) (a_most : Int) :
    SV X (dats 6 [enc a_kinds, enc a_most]) (defBody st__law_worths) (fun _ : Unit => List.replicate 6 .un) (fun _ : Unit => List.replicate 6 .un) ⟨.dd, false⟩ (b__law_worths a_kinds a_most) := by
  unfold b__law_worths
  refine sv_setO (i := 2) C (by decide +kernel) (Nat.le_of_ble_eq_true rfl) (eo_list (al_cons ed_num (al_nil (α := Int)))) fun v_found_1 => ?_
  refine sv_for (S1 := (List Int)) (P1 := fun s2 => [.dat (enc a_kinds), .dat (enc a_most), .own (s2.map enc), .un, .un, .un]) (s0 := v_found_1) C (it_rng2 C (by decide +kernel) hF.range_ ed_num (ed_add (ed_var (i := 1) C (by decide +kernel) rfl) ed_num)) (pgN (i := 3) C (by decide +kernel)) (tgt_name (i := 3)) (fun s2 => rfl) (wk_ops [] rfl) (fun s2 y3 => ?_) (fun s2 => ?_)
  · refine sv_app (i := 2) C (by decide +kernel) rfl (ed_maxL C (by decide +kernel) hF.max_ (er_of_eo (eo_cat (ed_of_eo (eo_list (al_cons (ed_ixO (i := 2) C (by decide +kernel) rfl (ed_sub (ed_var (i := 3) C (by decide +kernel) rfl) ed_num)) (al_nil (α := Int))))) (ed_of_eo (eo_lc (lc_mk (own := [("gain", 5), ("size", 4)]) C (it_list (ed_var (i := 0) C (by decide +kernel) rfl)) (by decide +kernel) (fun s4 H4 Ca4 cl4 fp4 => (pg_tup (Ctx.calm (Ctx.blk C s4 H4 _ Ca4 cl4 fp4 rfl)) (pgs_cons (pgN (i := 4) (Ctx.blk C s4 H4 _ Ca4 cl4 fp4 rfl) (by decide +kernel)) (pgs_cons (pgN (i := 5) (Ctx.blk C s4 H4 _ Ca4 cl4 fp4 rfl) (by decide +kernel)) pgs_nil)))) (tgt_t2 (tgt_name (i := 4)) (tgt_name (i := 5))) (by decide) rfl (fun s4 H4 Ca4 cl4 fp4 x4 => (ets_one (eb_cmp (ec_le (ed_var (i := 4) (Ctx.blk C s4 H4 _ Ca4 cl4 fp4 rfl) (by decide +kernel) rfl) (ed_var (i := 3) (Ctx.blk C s4 H4 _ Ca4 cl4 fp4 rfl) (by decide +kernel) rfl))))) (fun s4 H4 Ca4 cl4 fp4 x4 => (ed_add (ed_ixO (i := 2) (Ctx.blk C s4 H4 _ Ca4 cl4 fp4 rfl) (by decide +kernel) rfl (ed_sub (ed_var (i := 3) (Ctx.blk C s4 H4 _ Ca4 cl4 fp4 rfl) (by decide +kernel) rfl) (ed_var (i := 4) (Ctx.blk C s4 H4 _ Ca4 cl4 fp4 rfl) (by decide +kernel) rfl))) (ed_var (i := 5) (Ctx.blk C s4 H4 _ Ca4 cl4 fp4 rfl) (by decide +kernel) rfl))))))))) fun v5 => ?_
    exact sv_nil (wk_ops [.un 3] rfl)
  refine sv_wk (wk_ops [.fz 2] rfl) ?_
  exact sv_ret (ed_var (i := 2) C (by decide +kernel) rfl)
theorem ok__law_worths {P : Program} {w : World} {K : PySem.W.Frag} {mg : Str → Option Value} {base : Heap} {f : Addr} {fd : FuncData} (F : Fun K "_law_worths" "_law_worths" st__law_worths f fd) (hF : Facts mg)  : FnG P w K mg base CX0 1 f fd ["kinds", "most"] (spD K .dd (g2 m__law_worths)) :=
  ok_def F fs__law_worths (fun ds r h => by obtain ⟨x0, x1, y, e, _, _⟩ := h; rw [e]; rfl) 6 rfl (by decide) fun X h1 h2 h3 h4 h5 C ds r h => by subst h1 h2 h3 h4 h5; obtain ⟨x0, x1, y, e1, e2, e3⟩ := h; subst e1 e3; exact body_of (bk__law_worths C hF  x0 x1) e2 (fun x h => nomatch h)
theorem bk_check_amount {X : Cx} (C : Ctx X N_check_amount (defScope st_check_amount) none 0) (hF : Facts X.mg)  (a_amount : Int) (a_most : Int) :
    SV X (dats 2 [enc a_amount, enc a_most]) (defBody st_check_amount) (fun _ : Unit => List.replicate 2 .un) (fun _ : Unit => List.replicate 2 .un) ⟨.dd, false⟩ (b_check_amount a_amount a_most) := by
  unfold b_check_amount
  refine sv_if (S' := Unit) (P' := fun s1 => [.dat (enc a_amount), .dat (enc a_most)]) (eb_not (eb_chLeLe rfl ed_num (ed_var (i := 0) C (by decide +kernel) rfl) (ed_var (i := 1) C (by decide +kernel) rfl))) ?_ ?_ fun s1 => ?_
  · exact sv_raise
  · exact sv_nil (wk_ops [] rfl)
  exact sv_nil (wkR_all rfl)
theorem ok_check_amount {P : Program} {w : World} {K : PySem.W.Frag} {mg : Str → Option Value} {base : Heap} {f : Addr} {fd : FuncData} (F : Fun K "check_amount" "check_amount" st_check_amount f fd) (hF : Facts mg)  : FnG P w K mg base CX0 1 f fd ["amount", "most"] (spD K .dd (g2 m_check_amount)) :=
  ok_def F fs_check_amount (fun ds r h => by obtain ⟨x0, x1, y, e, _, _⟩ := h; rw [e]; rfl) 2 rfl (by decide) fun X h1 h2 h3 h4 h5 C ds r h => by subst h1 h2 h3 h4 h5; obtain ⟨x0, x1, y, e1, e2, e3⟩ := h; subst e1 e3; exact body_of (bk_check_amount C hF  x0 x1) e2 (fun x h => by cases h; exact ⟨rfl, rfl⟩)
theorem bk_worths_to {X : Cx} (C : Ctx X N_worths_to (defScope st_worths_to) none 0) (hF : Facts X.mg)  (a_kinds : (List (T2 Int Int))) (a_amount : Int) :
    SV X (dats 7 [enc a_kinds, enc a_amount]) (defBody st_worths_to) (fun _ : Unit => List.replicate 7 .un) (fun _ : Unit => List.replicate 7 .un) ⟨.dd, false⟩ (b_worths_to a_kinds a_amount) := by
  unfold b_worths_to
  refine sv_setO (i := 2) C (by decide +kernel) (Nat.le_of_ble_eq_true rfl) (eo_list (al_cons ed_num (al_nil (α := Int)))) fun v_found_1 => ?_
  refine sv_for (S1 := (List Int)) (P1 := fun s2 => [.dat (enc a_kinds), .dat (enc a_amount), .own (s2.map enc), .un, .un, .un, .un]) (s0 := v_found_1) C (it_rng2 C (by decide +kernel) hF.range_ ed_num (ed_add (ed_var (i := 1) C (by decide +kernel) rfl) ed_num)) (pgN (i := 3) C (by decide +kernel)) (tgt_name (i := 3)) (fun s2 => rfl) (wk_ops [] rfl) (fun s2 y3 => ?_) (fun s2 => ?_)
  · refine sv_set (i := 4) C (by decide +kernel) (ed_ixO (i := 2) C (by decide +kernel) rfl (ed_sub (ed_var (i := 3) C (by decide +kernel) rfl) ed_num)) fun v_best_4 => ?_
    refine sv_for (S1 := Int) (P1 := fun s5 => [.dat (enc a_kinds), .dat (enc a_amount), .own (s2.map enc), .dat (enc y3), .dat (enc s5), .un, .un]) (s0 := v_best_4) C (it_list (ed_var (i := 0) C (by decide +kernel) rfl)) (pg_tup (Ctx.calm C) (pgs_cons (pgN (i := 5) C (by decide +kernel)) (pgs_cons (pgN (i := 6) C (by decide +kernel)) pgs_nil))) (tgt_t2 (tgt_name (i := 5)) (tgt_name (i := 6))) (fun s5 => rfl) (wk_ops [] rfl) (fun s5 y6 => ?_) (fun s5 => ?_)
    · refine sv_if (S' := Int) (P' := fun s7 => [.dat (enc a_kinds), .dat (enc a_amount), .own (s2.map enc), .dat (enc y3), .dat (enc s7), .dat (enc y6.a), .dat (enc y6.b)]) (eb_cmp (ec_le (ed_var (i := 5) C (by decide +kernel) rfl) (ed_var (i := 3) C (by decide +kernel) rfl))) ?_ ?_ fun s7 => ?_
      · refine sv_set (i := 4) C (by decide +kernel) (ed_max2 C (by decide +kernel) hF.max_ (ed_var (i := 4) C (by decide +kernel) rfl) (ed_add (ed_ixO (i := 2) C (by decide +kernel) rfl (ed_sub (ed_var (i := 3) C (by decide +kernel) rfl) (ed_var (i := 5) C (by decide +kernel) rfl))) (ed_var (i := 6) C (by decide +kernel) rfl))) fun v_best_8 => ?_
        exact sv_nil (wk_ops [] rfl)
      · exact sv_nil (wk_ops [] rfl)
      exact sv_nil (wk_ops [.un 5, .un 6] rfl)
    refine sv_app (i := 2) C (by decide +kernel) rfl (ed_var (i := 4) C (by decide +kernel) rfl) fun v9 => ?_
    exact sv_nil (wk_ops [.un 3, .un 4] rfl)
  refine sv_wk (wk_ops [.fz 2] rfl) ?_
  exact sv_ret (ed_var (i := 2) C (by decide +kernel) rfl)
theorem ok_worths_to {P : Program} {w : World} {K : PySem.W.Frag} {mg : Str → Option Value} {base : Heap} {f : Addr} {fd : FuncData} (F : Fun K "worths_to" "worths_to" st_worths_to f fd) (hF : Facts mg)  : FnG P w K mg base CX0 1 f fd ["kinds", "amount"] (spD K .dd (g2 m_worths_to)) :=
  ok_def F fs_worths_to (fun ds r h => by obtain ⟨x0, x1, y, e, _, _⟩ := h; rw [e]; rfl) 7 rfl (by decide) fun X h1 h2 h3 h4 h5 C ds r h => by subst h1 h2 h3 h4 h5; obtain ⟨x0, x1, y, e1, e2, e3⟩ := h; subst e1 e3; exact body_of (bk_worths_to C hF  x0 x1) e2 (fun x h => nomatch h)
theorem bk_worth {X : Cx} (C : Ctx X N_worth (defScope st_worth) none 1) (hF : Facts X.mg) (hC_check_kinds : Cal X.prog X.w X.K X.mg X.base CX0 1 "check_kinds" ["kinds"] (spD X.K .dd (g1 m_check_kinds))) (hC_check_amount : Cal X.prog X.w X.K X.mg X.base CX0 1 "check_amount" ["amount", "most"] (spD X.K .dd (g2 m_check_amount))) (hC_worths_to : Cal X.prog X.w X.K X.mg X.base CX0 1 "worths_to" ["kinds", "amount"] (spD X.K .dd (g2 m_worths_to))) (a_kinds : (List (T2 Int Int))) (a_amount : Int) :
    SV X (dats 2 [enc a_kinds, enc a_amount]) (defBody st_worth) (fun _ : Unit => List.replicate 2 .un) (fun _ : Unit => List.replicate 2 .un) ⟨.dd, false⟩ (b_worth a_kinds a_amount) := by
  unfold b_worth
  refine sv_expr (ed_call C hC_check_kinds (by decide) (by decide +kernel) (ad_cons (ed_var (i := 0) C (by decide +kernel) rfl) ad_nil) go1) ?_
  refine sv_expr (ed_call C hC_check_amount (by decide) (by decide +kernel) (ad_cons (ed_var (i := 1) C (by decide +kernel) rfl) (ad_cons (ed_glb C (by decide +kernel) hF.c_MOST_AMOUNT_) ad_nil)) go2) ?_
  exact sv_ret (ed_ix (ed_call C hC_worths_to (by decide) (by decide +kernel) (ad_cons (ed_var (i := 0) C (by decide +kernel) rfl) (ad_cons (ed_var (i := 1) C (by decide +kernel) rfl) ad_nil)) go2) (ed_var (i := 1) C (by decide +kernel) rfl))
theorem ok_worth {P : Program} {w : World} {K : PySem.W.Frag} {mg : Str → Option Value} {base : Heap} {f : Addr} {fd : FuncData} (F : Fun K "worth" "worth" st_worth f fd) (hF : Facts mg) (hC_check_kinds : Cal P w K mg base CX0 1 "check_kinds" ["kinds"] (spD K .dd (g1 m_check_kinds))) (hC_check_amount : Cal P w K mg base CX0 1 "check_amount" ["amount", "most"] (spD K .dd (g2 m_check_amount))) (hC_worths_to : Cal P w K mg base CX0 1 "worths_to" ["kinds", "amount"] (spD K .dd (g2 m_worths_to))) : FnG P w K mg base CX0 2 f fd ["kinds", "amount"] (spD K .dd (g2 m_worth)) :=
  ok_def F fs_worth (fun ds r h => by obtain ⟨x0, x1, y, e, _, _⟩ := h; rw [e]; rfl) 2 rfl (by decide) fun X h1 h2 h3 h4 h5 C ds r h => by subst h1 h2 h3 h4 h5; obtain ⟨x0, x1, y, e1, e2, e3⟩ := h; subst e1 e3; exact body_of (bk_worth C hF hC_check_kinds hC_check_amount hC_worths_to x0 x1) e2 (fun x h => nomatch h)
theorem bk_best_kind {X : Cx} (C : Ctx X N_best_kind (defScope st_best_kind) none 1) (hF : Facts X.mg) (hC_check_kinds : Cal X.prog X.w X.K X.mg X.base CX0 1 "check_kinds" ["kinds"] (spD X.K .dd (g1 m_check_kinds))) (hC_best_of : Cal X.prog X.w X.K X.mg X.base CX0 1 "best_of" ["kinds"] (spD X.K .dd (g1 m_best_of))) (a_kinds : (List (T2 Int Int))) :
    SV X (dats 1 [enc a_kinds]) (defBody st_best_kind) (fun _ : Unit => List.replicate 1 .un) (fun _ : Unit => List.replicate 1 .un) ⟨.dd, false⟩ (b_best_kind a_kinds) := by
  unfold b_best_kind
  refine sv_expr (ed_call C hC_check_kinds (by decide) (by decide +kernel) (ad_cons (ed_var (i := 0) C (by decide +kernel) rfl) ad_nil) go1) ?_
  exact sv_ret (ed_call C hC_best_of (by decide) (by decide +kernel) (ad_cons (ed_var (i := 0) C (by decide +kernel) rfl) ad_nil) go1)
theorem ok_best_kind {P : Program} {w : World} {K : PySem.W.Frag} {mg : Str → Option Value} {base : Heap} {f : Addr} {fd : FuncData} (F : Fun K "best_kind" "best_kind" st_best_kind f fd) (hF : Facts mg) (hC_check_kinds : Cal P w K mg base CX0 1 "check_kinds" ["kinds"] (spD K .dd (g1 m_check_kinds))) (hC_best_of : Cal P w K mg base CX0 1 "best_of" ["kinds"] (spD K .dd (g1 m_best_of))) : FnG P w K mg base CX0 2 f fd ["kinds"] (spD K .dd (g1 m_best_kind)) :=
  ok_def F fs_best_kind (fun ds r h => by obtain ⟨x0, y, e, _, _⟩ := h; rw [e]; rfl) 1 rfl (by decide) fun X h1 h2 h3 h4 h5 C ds r h => by subst h1 h2 h3 h4 h5; obtain ⟨x0, y, e1, e2, e3⟩ := h; subst e1 e3; exact body_of (bk_best_kind C hF hC_check_kinds hC_best_of x0) e2 (fun x h => nomatch h)
theorem bk_first_settled {X : Cx} (C : Ctx X N_first_settled (defScope st_first_settled) none 2) (hF : Facts X.mg) (hC_check_kinds : Cal X.prog X.w X.K X.mg X.base CX0 1 "check_kinds" ["kinds"] (spD X.K .dd (g1 m_check_kinds))) (hC_best_of : Cal X.prog X.w X.K X.mg X.base CX0 1 "best_of" ["kinds"] (spD X.K .dd (g1 m_best_of))) (hC_losses_of : Cal X.prog X.w X.K X.mg X.base CX0 2 "losses_of" ["kinds"] (spD X.K .ow (g1 m_losses_of))) (a_kinds : (List (T2 Int Int))) :
    SV X (dats 4 [enc a_kinds]) (defBody st_first_settled) (fun _ : Unit => List.replicate 4 .un) (fun _ : Unit => List.replicate 4 .un) ⟨.dd, false⟩ (b_first_settled a_kinds) := by
  unfold b_first_settled
  refine sv_expr (ed_call C hC_check_kinds (by decide) (by decide +kernel) (ad_cons (ed_var (i := 0) C (by decide +kernel) rfl) ad_nil) go1) ?_
  refine sv_unpack (pg_tup (Ctx.calm C) (pgs_cons (pgN (i := 1) C (by decide +kernel)) (pgs_cons (pgN (i := 2) C (by decide +kernel)) pgs_nil))) (tgt_t2 (tgt_name (i := 1)) (tgt_name (i := 2))) rfl (ed_call C hC_best_of (by decide) (by decide +kernel) (ad_cons (ed_var (i := 0) C (by decide +kernel) rfl) ad_nil) go1) fun u1 => ?_
  exact sv_ret (ed_max2 C (by decide +kernel) hF.max_ ed_num (ed_add (ed_sub (ed_maxL C (by decide +kernel) hF.max_ (er_of_eo (eo_lc (lc_mk (own := [("_", 2), ("bulk", 3)]) C (it_seq (it_list (ed_of_eo (eo_call C hC_losses_of (by decide) (by decide +kernel) (ad_cons (ed_var (i := 0) C (by decide +kernel) rfl) ad_nil) go1)))) (by decide +kernel) (fun s2 H2 Ca2 cl2 fp2 => (pg_tup (Ctx.calm (Ctx.blk C s2 H2 _ Ca2 cl2 fp2 rfl)) (pgs_cons (pgN (i := 2) (Ctx.blk C s2 H2 _ Ca2 cl2 fp2 rfl) (by decide +kernel)) (pgs_cons (pgN (i := 3) (Ctx.blk C s2 H2 _ Ca2 cl2 fp2 rfl) (by decide +kernel)) pgs_nil)))) (tgt_t2 (tgt_name (i := 2)) (tgt_name (i := 3))) (by decide) rfl (fun s2 H2 Ca2 cl2 fp2 x2 => ets_nil) (fun s2 H2 Ca2 cl2 fp2 x2 => (ed_var (i := 3) (Ctx.blk C s2 H2 _ Ca2 cl2 fp2 rfl) (by decide +kernel) rfl)))))) (ed_var (i := 1) C (by decide +kernel) rfl)) ed_num))
theorem ok_first_settled {P : Program} {w : World} {K : PySem.W.Frag} {mg : Str → Option Value} {base : Heap} {f : Addr} {fd : FuncData} (F : Fun K "first_settled" "first_settled" st_first_settled f fd) (hF : Facts mg) (hC_check_kinds : Cal P w K mg base CX0 1 "check_kinds" ["kinds"] (spD K .dd (g1 m_check_kinds))) (hC_best_of : Cal P w K mg base CX0 1 "best_of" ["kinds"] (spD K .dd (g1 m_best_of))) (hC_losses_of : Cal P w K mg base CX0 2 "losses_of" ["kinds"] (spD K .ow (g1 m_losses_of))) : FnG P w K mg base CX0 3 f fd ["kinds"] (spD K .dd (g1 m_first_settled)) :=
  ok_def F fs_first_settled (fun ds r h => by obtain ⟨x0, y, e, _, _⟩ := h; rw [e]; rfl) 4 rfl (by decide) fun X h1 h2 h3 h4 h5 C ds r h => by subst h1 h2 h3 h4 h5; obtain ⟨x0, y, e1, e2, e3⟩ := h; subst e1 e3; exact body_of (bk_first_settled C hF hC_check_kinds hC_best_of hC_losses_of x0) e2 (fun x h => nomatch h)
theorem bk_law {X : Cx} (C : Ctx X N_law (defScope st_law) none 3) (hF : Facts X.mg) (hC__law_draws : Cal X.prog X.w X.K X.mg X.base CX0 1 "_law_draws" ["script"] (spR X.K .dd m__law_draws)) (hC__law_kinds : Cal X.prog X.w X.K X.mg X.base CX0 2 "_law_kinds" ["draws", "k"] (spD X.K .dd (g2 m__law_kinds))) (hC__law_best : Cal X.prog X.w X.K X.mg X.base CX0 1 "_law_best" ["kinds"] (spD X.K .dd (g1 m__law_best))) (hC_best_kind : Cal X.prog X.w X.K X.mg X.base CX0 2 "best_kind" ["kinds"] (spD X.K .dd (g1 m_best_kind))) (hC__law_losses : Cal X.prog X.w X.K X.mg X.base CX0 1 "_law_losses" ["kinds", "top"] (spD X.K .dd (g2 m__law_losses))) (hC_losses : Cal X.prog X.w X.K X.mg X.base CX0 3 "losses" ["kinds"] (spD X.K .ow (g1 m_losses))) (hC__law_worths : Cal X.prog X.w X.K X.mg X.base CX0 1 "_law_worths" ["kinds", "most"] (spD X.K .dd (g2 m__law_worths))) (hC_first_settled : Cal X.prog X.w X.K X.mg X.base CX0 3 "first_settled" ["kinds"] (spD X.K .dd (g1 m_first_settled))) (hC__law_mix : Cal X.prog X.w X.K X.mg X.base CX0 1 "_law_mix" ["draws", "k", "many"] (spD X.K .dd (g3 m__law_mix))) (hC_worth : Cal X.prog X.w X.K X.mg X.base CX0 2 "worth" ["kinds", "amount"] (spD X.K .dd (g2 m_worth))) (a_script : (List Int)) :
    SV X (.rd (a_script.map enc) :: List.replicate 17 .un) (defBody st_law) (fun _ : Unit => List.replicate 18 .un) (fun _ : Unit => List.replicate 18 .un) ⟨.dd, false⟩ (b_law a_script) := by
  unfold b_law
  refine sv_set (i := 1) C (by decide +kernel) (ed_callR (i := 0) C hC__law_draws (by decide) (by decide +kernel) (by decide +kernel) rfl) fun v_draws_1 => ?_
  refine sv_for (S1 := Unit) (P1 := fun s2 => [.un, .dat (enc v_draws_1), .un, .un, .un, .un, .un, .un, .un, .un, .un, .un, .un, .un, .un, .un, .un, .un]) (s0 := ()) C (it_rng1 C (by decide +kernel) hF.range_ ed_num) (pgN (i := 2) C (by decide +kernel)) (tgt_name (i := 2)) (fun s2 => rfl) (wk_ops [.un 0] rfl) (fun s2 y3 => ?_) (fun s2 => ?_)
  · refine sv_set (i := 3) C (by decide +kernel) (ed_call C hC__law_kinds (by decide) (by decide +kernel) (ad_cons (ed_var (i := 1) C (by decide +kernel) rfl) (ad_cons (ed_add ed_num (ed_mul ed_num (ed_var (i := 2) C (by decide +kernel) rfl))) ad_nil)) go2) fun v_kinds_4 => ?_
    refine sv_set (i := 4) C (by decide +kernel) (ed_repr C (by decide +kernel) hF.repr_ (ed_var (i := 3) C (by decide +kernel) rfl)) fun v_kept_5 => ?_
    refine sv_set (i := 5) C (by decide +kernel) (ed_call C hC__law_best (by decide) (by decide +kernel) (ad_cons (ed_var (i := 3) C (by decide +kernel) rfl) ad_nil) go1) fun v_top_6 => ?_
    refine sv_if (S' := Unit) (P' := fun s7 => [.un, .dat (enc v_draws_1), .dat (enc y3), .dat (enc v_kinds_4), .dat (enc v_kept_5), .dat (enc v_top_6), .un, .un, .un, .un, .un, .un, .un, .un, .un, .un, .un, .un]) (eb_cmp (ec_neS (ed_repr C (by decide +kernel) hF.repr_ (ed_call C hC_best_kind (by decide) (by decide +kernel) (ad_cons (ed_var (i := 3) C (by decide +kernel) rfl) ad_nil) go1)) (ed_repr C (by decide +kernel) hF.repr_ (ed_var (i := 5) C (by decide +kernel) rfl)))) ?_ ?_ fun s7 => ?_
    · exact sv_ret ed_bl
    · exact sv_nil (wk_ops [] rfl)
    refine sv_set (i := 6) C (by decide +kernel) (ed_call C hC__law_losses (by decide) (by decide +kernel) (ad_cons (ed_var (i := 3) C (by decide +kernel) rfl) (ad_cons (ed_var (i := 5) C (by decide +kernel) rfl) ad_nil)) go2) fun v_due_8 => ?_
    refine sv_setO (i := 7) C (by decide +kernel) (Nat.le_of_ble_eq_true rfl) (eo_call C hC_losses (by decide) (by decide +kernel) (ad_cons (ed_var (i := 3) C (by decide +kernel) rfl) ad_nil) go1) fun v_told_9 => ?_
    refine sv_if (S' := Unit) (P' := fun s10 => [.un, .dat (enc v_draws_1), .dat (enc y3), .dat (enc v_kinds_4), .dat (enc v_kept_5), .dat (enc v_top_6), .dat (enc v_due_8), .own (v_told_9.map enc), .un, .un, .un, .un, .un, .un, .un, .un, .un, .un]) (eb_lend (eb_cmp (ec_neS (ed_repr C (by decide +kernel) hF.repr_ (ed_var (i := 7) C (by decide +kernel) rfl)) (ed_repr C (by decide +kernel) hF.repr_ (ed_var (i := 6) C (by decide +kernel) rfl))))) ?_ ?_ fun s10 => ?_
    · exact sv_ret ed_bl
    · exact sv_nil (wk_ops [] rfl)
    refine sv_set (i := 8) C (by decide +kernel) (ed_maxL C (by decide +kernel) hF.max_ (er_of_eo (eo_lc (lc_mk (own := [("loss", 16), ("size", 17)]) C (it_list (ed_var (i := 6) C (by decide +kernel) rfl)) (by decide +kernel) (fun s12 H12 Ca12 cl12 fp12 => (pg_tup (Ctx.calm (Ctx.blk C s12 H12 _ Ca12 cl12 fp12 rfl)) (pgs_cons (pgN (i := 16) (Ctx.blk C s12 H12 _ Ca12 cl12 fp12 rfl) (by decide +kernel)) (pgs_cons (pgN (i := 17) (Ctx.blk C s12 H12 _ Ca12 cl12 fp12 rfl) (by decide +kernel)) pgs_nil)))) (tgt_t2 (tgt_name (i := 16)) (tgt_name (i := 17))) (by decide) rfl (fun s12 H12 Ca12 cl12 fp12 x12 => ets_nil) (fun s12 H12 Ca12 cl12 fp12 x12 => (ed_var (i := 17) (Ctx.blk C s12 H12 _ Ca12 cl12 fp12 rfl) (by decide +kernel) rfl)))))) fun v_bulk_11 => ?_
    refine sv_set (i := 9) C (by decide +kernel) (ed_min2 C (by decide +kernel) hF.min_ ed_num (ed_add (ed_add (ed_mul ed_num (ed_var (i := 8) C (by decide +kernel) rfl)) (ed_mul ed_num (ed_20 (ed_var (i := 5) C (by decide +kernel) rfl)))) ed_num)) fun v_most_13 => ?_
    refine sv_set (i := 10) C (by decide +kernel) (ed_call C hC__law_worths (by decide) (by decide +kernel) (ad_cons (ed_var (i := 3) C (by decide +kernel) rfl) (ad_cons (ed_var (i := 9) C (by decide +kernel) rfl) ad_nil)) go2) fun v_worths_14 => ?_
    refine sv_set (i := 11) C (by decide +kernel) (ed_max2 C (by decide +kernel) hF.max_ ed_num (ed_add (ed_sub (ed_var (i := 8) C (by decide +kernel) rfl) (ed_20 (ed_var (i := 5) C (by decide +kernel) rfl))) ed_num)) fun v_first_15 => ?_
    refine sv_if (S' := Unit) (P' := fun s16 => [.un, .dat (enc v_draws_1), .dat (enc y3), .dat (enc v_kinds_4), .dat (enc v_kept_5), .dat (enc v_top_6), .dat (enc v_due_8), .own (v_told_9.map enc), .dat (enc v_bulk_11), .dat (enc v_most_13), .dat (enc v_worths_14), .dat (enc v_first_15), .un, .un, .un, .un, .un, .un]) (eb_cmp (ec_neS (ed_repr C (by decide +kernel) hF.repr_ (ed_call C hC_first_settled (by decide) (by decide +kernel) (ad_cons (ed_var (i := 3) C (by decide +kernel) rfl) ad_nil) go1)) (ed_repr C (by decide +kernel) hF.repr_ (ed_var (i := 11) C (by decide +kernel) rfl)))) ?_ ?_ fun s16 => ?_
    · exact sv_ret ed_bl
    · exact sv_nil (wk_ops [] rfl)
    refine sv_setL (i := 12) C (by decide +kernel) (by decide +kernel) (lc_mk (own := [("amount", 13)]) C (it_rng1 C (by decide +kernel) hF.range_ (ed_add (ed_sub (ed_var (i := 9) C (by decide +kernel) rfl) (ed_20 (ed_var (i := 5) C (by decide +kernel) rfl))) ed_num)) (by decide +kernel) (fun s18 H18 Ca18 cl18 fp18 => (pgN (i := 13) (Ctx.blk C s18 H18 _ Ca18 cl18 fp18 rfl) (by decide +kernel))) (tgt_name (i := 13)) (by decide) rfl (fun s18 H18 Ca18 cl18 fp18 x18 => ets_nil) (fun s18 H18 Ca18 cl18 fp18 x18 => (ed_cmp (ec_eqI (ed_ix (ed_var (i := 10) (Ctx.blk C s18 H18 _ Ca18 cl18 fp18 rfl) (by decide +kernel) rfl) (ed_add (ed_var (i := 13) (Ctx.blk C s18 H18 _ Ca18 cl18 fp18 rfl) (by decide +kernel) rfl) (ed_20 (ed_var (i := 5) (Ctx.blk C s18 H18 _ Ca18 cl18 fp18 rfl) (by decide +kernel) rfl)))) (ed_add (ed_ix (ed_var (i := 10) (Ctx.blk C s18 H18 _ Ca18 cl18 fp18 rfl) (by decide +kernel) rfl) (ed_var (i := 13) (Ctx.blk C s18 H18 _ Ca18 cl18 fp18 rfl) (by decide +kernel) rfl)) (ed_21 (ed_var (i := 5) (Ctx.blk C s18 H18 _ Ca18 cl18 fp18 rfl) (by decide +kernel) rfl))))))) fun v_grows_17 => ?_
    refine sv_if (S' := Unit) (P' := fun s19 => [.un, .dat (enc v_draws_1), .dat (enc y3), .dat (enc v_kinds_4), .dat (enc v_kept_5), .dat (enc v_top_6), .dat (enc v_due_8), .own (v_told_9.map enc), .dat (enc v_bulk_11), .dat (enc v_most_13), .dat (enc v_worths_14), .dat (enc v_first_15), .dat (enc v_grows_17), .un, .un, .un, .un, .un]) (eb_bool (ew_and (eb_cmp (ec_lt (ed_var (i := 11) C (by decide +kernel) rfl) (ed_len C (by decide +kernel) hF.len_ (er_of_ed (ed_var (i := 12) C (by decide +kernel) rfl))))) (ew_and1 (eb_bool (ew_or (eb_cmp (ec_in C ed_bl (er_of_eo (eo_slice (ed_var (i := 12) C (by decide +kernel) rfl) (ep_some (ed_var (i := 11) C (by decide +kernel) rfl)) ep_none)))) (ew_or1 (eb_bool (ew_and (eb_cmp (ec_gt (ed_var (i := 11) C (by decide +kernel) rfl) ed_num)) (ew_and1 (eb_of_ed (ed_ix (ed_var (i := 12) C (by decide +kernel) rfl) (ed_sub (ed_var (i := 11) C (by decide +kernel) rfl) ed_num)))))))))))) ?_ ?_ fun s19 => ?_
    · exact sv_ret ed_bl
    · exact sv_nil (wk_ops [] rfl)
    refine sv_for (S1 := Unit) (P1 := fun s21 => [.un, .dat (enc v_draws_1), .dat (enc y3), .dat (enc v_kinds_4), .dat (enc v_kept_5), .dat (enc v_top_6), .dat (enc v_due_8), .own (v_told_9.map enc), .dat (enc v_bulk_11), .dat (enc v_most_13), .dat (enc v_worths_14), .dat (enc v_first_15), .dat (enc v_grows_17), .un, .un, .un, .un, .un]) (s0 := ()) C (it_list (ed_of_eo (eo_cat (ed_of_eo (eo_list (al_cons ed_num (al_cons ed_num (al_cons (ed_20 (ed_var (i := 5) C (by decide +kernel) rfl)) (al_cons (ed_var (i := 11) C (by decide +kernel) rfl) (al_cons (ed_var (i := 9) C (by decide +kernel) rfl) (al_cons ed_num (al_nil (α := Int)))))))))) (ed_of_eo (eo_lc (lc_mk (own := [("t", 15)]) C (it_rng1 C (by decide +kernel) hF.range_ ed_num) (by decide +kernel) (fun s20 H20 Ca20 cl20 fp20 => (pgN (i := 15) (Ctx.blk C s20 H20 _ Ca20 cl20 fp20 rfl) (by decide +kernel))) (tgt_name (i := 15)) (by decide) rfl (fun s20 H20 Ca20 cl20 fp20 x20 => ets_nil) (fun s20 H20 Ca20 cl20 fp20 x20 => (ed_call (Ctx.blk C s20 H20 _ Ca20 cl20 fp20 rfl) hC__law_mix (by decide) (by decide +kernel) (ad_cons (ed_var (i := 1) (Ctx.blk C s20 H20 _ Ca20 cl20 fp20 rfl) (by decide +kernel) rfl) (ad_cons (ed_add (ed_add ed_num (ed_mul ed_num (ed_var (i := 2) (Ctx.blk C s20 H20 _ Ca20 cl20 fp20 rfl) (by decide +kernel) rfl))) (ed_var (i := 15) (Ctx.blk C s20 H20 _ Ca20 cl20 fp20 rfl) (by decide +kernel) rfl)) (ad_cons ed_num ad_nil))) go3)))))))) (pgN (i := 13) C (by decide +kernel)) (tgt_name (i := 13)) (fun s21 => rfl) (wk_ops [] rfl) (fun s21 y22 => ?_) (fun s21 => ?_)
    · refine sv_if (S' := Unit) (P' := fun s23 => [.un, .dat (enc v_draws_1), .dat (enc y3), .dat (enc v_kinds_4), .dat (enc v_kept_5), .dat (enc v_top_6), .dat (enc v_due_8), .own (v_told_9.map enc), .dat (enc v_bulk_11), .dat (enc v_most_13), .dat (enc v_worths_14), .dat (enc v_first_15), .dat (enc v_grows_17), .dat (enc y22), .un, .un, .un, .un]) (eb_bool (ew_and (eb_cmp (ec_le (ed_var (i := 13) C (by decide +kernel) rfl) (ed_var (i := 9) C (by decide +kernel) rfl))) (ew_and1 (eb_cmp (ec_neI (ed_call C hC_worth (by decide) (by decide +kernel) (ad_cons (ed_var (i := 3) C (by decide +kernel) rfl) (ad_cons (ed_var (i := 13) C (by decide +kernel) rfl) ad_nil)) go2) (ed_ix (ed_var (i := 10) C (by decide +kernel) rfl) (ed_var (i := 13) C (by decide +kernel) rfl))))))) ?_ ?_ fun s23 => ?_
      · exact sv_ret ed_bl
      · exact sv_nil (wk_ops [] rfl)
      exact sv_nil (wk_ops [.un 13] rfl)
    refine sv_set (i := 14) C (by decide +kernel) (ed_call C hC_worth (by decide) (by decide +kernel) (ad_cons (ed_var (i := 3) C (by decide +kernel) rfl) (ad_cons ed_num ad_nil)) go2) fun v_far_24 => ?_
    refine sv_if (S' := Unit) (P' := fun s25 => [.un, .dat (enc v_draws_1), .dat (enc y3), .dat (enc v_kinds_4), .dat (enc v_kept_5), .dat (enc v_top_6), .dat (enc v_due_8), .own (v_told_9.map enc), .dat (enc v_bulk_11), .dat (enc v_most_13), .dat (enc v_worths_14), .dat (enc v_first_15), .dat (enc v_grows_17), .un, .dat (enc v_far_24), .un, .un, .un]) (eb_bool (ew_and (eb_cmp (ec_lt (ed_add (ed_var (i := 11) C (by decide +kernel) rfl) (ed_20 (ed_var (i := 5) C (by decide +kernel) rfl))) ed_num)) (ew_and1 (eb_cmp (ec_neI (ed_var (i := 14) C (by decide +kernel) rfl) (ed_add (ed_call C hC_worth (by decide) (by decide +kernel) (ad_cons (ed_var (i := 3) C (by decide +kernel) rfl) (ad_cons (ed_sub ed_num (ed_20 (ed_var (i := 5) C (by decide +kernel) rfl))) ad_nil)) go2) (ed_21 (ed_var (i := 5) C (by decide +kernel) rfl)))))))) ?_ ?_ fun s25 => ?_
    · exact sv_ret ed_bl
    · exact sv_nil (wk_ops [] rfl)
    refine sv_app (i := 7) C (by decide +kernel) rfl (ed_some (ed_t2 ed_num ed_num)) fun v26 => ?_
    refine sv_if (S' := Unit) (P' := fun s27 => [.un, .dat (enc v_draws_1), .dat (enc y3), .dat (enc v_kinds_4), .dat (enc v_kept_5), .dat (enc v_top_6), .dat (enc v_due_8), .own (v26.map enc), .dat (enc v_bulk_11), .dat (enc v_most_13), .dat (enc v_worths_14), .dat (enc v_first_15), .dat (enc v_grows_17), .un, .dat (enc v_far_24), .un, .un, .un]) (eb_bool (ew_or (eb_cmp (ec_neS (ed_repr C (by decide +kernel) hF.repr_ (ed_of_eo (eo_call C hC_losses (by decide) (by decide +kernel) (ad_cons (ed_var (i := 3) C (by decide +kernel) rfl) ad_nil) go1))) (ed_repr C (by decide +kernel) hF.repr_ (ed_var (i := 6) C (by decide +kernel) rfl)))) (ew_or1 (eb_cmp (ec_neS (ed_repr C (by decide +kernel) hF.repr_ (ed_var (i := 3) C (by decide +kernel) rfl)) (ed_var (i := 4) C (by decide +kernel) rfl)))))) ?_ ?_ fun s27 => ?_
    · exact sv_ret ed_bl
    · exact sv_nil (wk_ops [] rfl)
    exact sv_nil (wk_ops [.un 2, .un 3, .un 4, .un 5, .un 6, .un 7, .un 8, .un 9, .un 10, .un 11, .un 12, .un 14] rfl)
  exact sv_ret ed_bl
theorem ok_law {P : Program} {w : World} {K : PySem.W.Frag} {mg : Str → Option Value} {base : Heap} {f : Addr} {fd : FuncData} (F : Fun K "law" "law" st_law f fd) (hF : Facts mg) (hC__law_draws : Cal P w K mg base CX0 1 "_law_draws" ["script"] (spR K .dd m__law_draws)) (hC__law_kinds : Cal P w K mg base CX0 2 "_law_kinds" ["draws", "k"] (spD K .dd (g2 m__law_kinds))) (hC__law_best : Cal P w K mg base CX0 1 "_law_best" ["kinds"] (spD K .dd (g1 m__law_best))) (hC_best_kind : Cal P w K mg base CX0 2 "best_kind" ["kinds"] (spD K .dd (g1 m_best_kind))) (hC__law_losses : Cal P w K mg base CX0 1 "_law_losses" ["kinds", "top"] (spD K .dd (g2 m__law_losses))) (hC_losses : Cal P w K mg base CX0 3 "losses" ["kinds"] (spD K .ow (g1 m_losses))) (hC__law_worths : Cal P w K mg base CX0 1 "_law_worths" ["kinds", "most"] (spD K .dd (g2 m__law_worths))) (hC_first_settled : Cal P w K mg base CX0 3 "first_settled" ["kinds"] (spD K .dd (g1 m_first_settled))) (hC__law_mix : Cal P w K mg base CX0 1 "_law_mix" ["draws", "k", "many"] (spD K .dd (g3 m__law_mix))) (hC_worth : Cal P w K mg base CX0 2 "worth" ["kinds", "amount"] (spD K .dd (g2 m_worth))) : FnG P w K mg base CX0 4 f fd ["script"] (spR K .dd m_law) :=
  ok_rd F fs_law 18 rfl (by decide) fun X h1 h2 h3 h4 h5 C l r hr => by subst h1 h2 h3 h4 h5; exact body_of (bk_law C hF hC__law_draws hC__law_kinds hC__law_best hC_best_kind hC__law_losses hC_losses hC__law_worths hC_first_settled hC__law_mix hC_worth l) hr (fun x h => nomatch h)
end Lay.K17

set_option Elab.async false
set_option linter.all false
set_option maxRecDepth 100000
namespace Lay.K17
open PySem PySem.Spec PyProof.Rows L2 Lay
open Lay.Enc (enc)
set_option maxHeartbeats 0
theorem all_mk {l : PySem.W.OpenLaw} {w : World} {K : PySem.W.Frag} {h : Heap} {mg : Str → Option Value} {fa : Addr} (X : K.In h) (G : h.Ns mainGlobals mg) (hfa : mg "law" = some (.ref fa))
    {f0 : Addr} {od0 an0 : Option Addr} {sl0 : Array (Option Value)} {oc0 kV0 dc0 pm0 cd0 ct0 : Value}
    (a0 : PySem.W.nsIn K mainGlobals "_law_draws" = some (some (.ref f0))) (l0 : K.lookup f0 = some ⟨oc0, od0, .func (PySem.W.fnOf "_law_draws" "_law_draws" (defArgs st__law_draws) (defBody st__law_draws) (defScope st__law_draws) .none kV0 dc0 pm0 an0 cd0 ct0), sl0⟩) (c0 : PySem.W.codeIn K cd0 "_law_draws" = true) (k0 : PySem.W.keepIn K (.ref f0) = true)
    {f1 : Addr} {od1 an1 : Option Addr} {sl1 : Array (Option Value)} {oc1 kV1 dc1 pm1 cd1 ct1 : Value}
    (a1 : PySem.W.nsIn K mainGlobals "_law_mix" = some (some (.ref f1))) (l1 : K.lookup f1 = some ⟨oc1, od1, .func (PySem.W.fnOf "_law_mix" "_law_mix" (defArgs st__law_mix) (defBody st__law_mix) (defScope st__law_mix) .none kV1 dc1 pm1 an1 cd1 ct1), sl1⟩) (c1 : PySem.W.codeIn K cd1 "_law_mix" = true) (k1 : PySem.W.keepIn K (.ref f1) = true)
    {f2 : Addr} {od2 an2 : Option Addr} {sl2 : Array (Option Value)} {oc2 kV2 dc2 pm2 cd2 ct2 : Value}
    (a2 : PySem.W.nsIn K mainGlobals "_law_kinds" = some (some (.ref f2))) (l2 : K.lookup f2 = some ⟨oc2, od2, .func (PySem.W.fnOf "_law_kinds" "_law_kinds" (defArgs st__law_kinds) (defBody st__law_kinds) (defScope st__law_kinds) .none kV2 dc2 pm2 an2 cd2 ct2), sl2⟩) (c2 : PySem.W.codeIn K cd2 "_law_kinds" = true) (k2 : PySem.W.keepIn K (.ref f2) = true)
    {f3 : Addr} {od3 an3 : Option Addr} {sl3 : Array (Option Value)} {oc3 kV3 dc3 pm3 cd3 ct3 : Value}
    (a3 : PySem.W.nsIn K mainGlobals "_law_best" = some (some (.ref f3))) (l3 : K.lookup f3 = some ⟨oc3, od3, .func (PySem.W.fnOf "_law_best" "_law_best" (defArgs st__law_best) (defBody st__law_best) (defScope st__law_best) .none kV3 dc3 pm3 an3 cd3 ct3), sl3⟩) (c3 : PySem.W.codeIn K cd3 "_law_best" = true) (k3 : PySem.W.keepIn K (.ref f3) = true)
    {f4 : Addr} {od4 an4 : Option Addr} {sl4 : Array (Option Value)} {oc4 kV4 dc4 pm4 cd4 ct4 : Value}
    (a4 : PySem.W.nsIn K mainGlobals "_law_losses" = some (some (.ref f4))) (l4 : K.lookup f4 = some ⟨oc4, od4, .func (PySem.W.fnOf "_law_losses" "_law_losses" (defArgs st__law_losses) (defBody st__law_losses) (defScope st__law_losses) .none kV4 dc4 pm4 an4 cd4 ct4), sl4⟩) (c4 : PySem.W.codeIn K cd4 "_law_losses" = true) (k4 : PySem.W.keepIn K (.ref f4) = true)
    {f5 : Addr} {od5 an5 : Option Addr} {sl5 : Array (Option Value)} {oc5 kV5 dc5 pm5 cd5 ct5 : Value}
    (a5 : PySem.W.nsIn K mainGlobals "check_kinds" = some (some (.ref f5))) (l5 : K.lookup f5 = some ⟨oc5, od5, .func (PySem.W.fnOf "check_kinds" "check_kinds" (defArgs st_check_kinds) (defBody st_check_kinds) (defScope st_check_kinds) .none kV5 dc5 pm5 an5 cd5 ct5), sl5⟩) (c5 : PySem.W.codeIn K cd5 "check_kinds" = true) (k5 : PySem.W.keepIn K (.ref f5) = true)
    {f6 : Addr} {od6 an6 : Option Addr} {sl6 : Array (Option Value)} {oc6 kV6 dc6 pm6 cd6 ct6 : Value}
    (a6 : PySem.W.nsIn K mainGlobals "best_of" = some (some (.ref f6))) (l6 : K.lookup f6 = some ⟨oc6, od6, .func (PySem.W.fnOf "best_of" "best_of" (defArgs st_best_of) (defBody st_best_of) (defScope st_best_of) .none kV6 dc6 pm6 an6 cd6 ct6), sl6⟩) (c6 : PySem.W.codeIn K cd6 "best_of" = true) (k6 : PySem.W.keepIn K (.ref f6) = true)
    {f7 : Addr} {od7 an7 : Option Addr} {sl7 : Array (Option Value)} {oc7 kV7 dc7 pm7 cd7 ct7 : Value}
    (a7 : PySem.W.nsIn K mainGlobals "losses_of" = some (some (.ref f7))) (l7 : K.lookup f7 = some ⟨oc7, od7, .func (PySem.W.fnOf "losses_of" "losses_of" (defArgs st_losses_of) (defBody st_losses_of) (defScope st_losses_of) .none kV7 dc7 pm7 an7 cd7 ct7), sl7⟩) (c7 : PySem.W.codeIn K cd7 "losses_of" = true) (k7 : PySem.W.keepIn K (.ref f7) = true)
    {f8 : Addr} {od8 an8 : Option Addr} {sl8 : Array (Option Value)} {oc8 kV8 dc8 pm8 cd8 ct8 : Value}
    (a8 : PySem.W.nsIn K mainGlobals "losses" = some (some (.ref f8))) (l8 : K.lookup f8 = some ⟨oc8, od8, .func (PySem.W.fnOf "losses" "losses" (defArgs st_losses) (defBody st_losses) (defScope st_losses) .none kV8 dc8 pm8 an8 cd8 ct8), sl8⟩) (c8 : PySem.W.codeIn K cd8 "losses" = true) (k8 : PySem.W.keepIn K (.ref f8) = true)
    {f9 : Addr} {od9 an9 : Option Addr} {sl9 : Array (Option Value)} {oc9 kV9 dc9 pm9 cd9 ct9 : Value}
    (a9 : PySem.W.nsIn K mainGlobals "_law_worths" = some (some (.ref f9))) (l9 : K.lookup f9 = some ⟨oc9, od9, .func (PySem.W.fnOf "_law_worths" "_law_worths" (defArgs st__law_worths) (defBody st__law_worths) (defScope st__law_worths) .none kV9 dc9 pm9 an9 cd9 ct9), sl9⟩) (c9 : PySem.W.codeIn K cd9 "_law_worths" = true) (k9 : PySem.W.keepIn K (.ref f9) = true)
    {f10 : Addr} {od10 an10 : Option Addr} {sl10 : Array (Option Value)} {oc10 kV10 dc10 pm10 cd10 ct10 : Value}
    (a10 : PySem.W.nsIn K mainGlobals "check_amount" = some (some (.ref f10))) (l10 : K.lookup f10 = some ⟨oc10, od10, .func (PySem.W.fnOf "check_amount" "check_amount" (defArgs st_check_amount) (defBody st_check_amount) (defScope st_check_amount) .none kV10 dc10 pm10 an10 cd10 ct10), sl10⟩) (c10 : PySem.W.codeIn K cd10 "check_amount" = true) (k10 : PySem.W.keepIn K (.ref f10) = true)
    {f11 : Addr} {od11 an11 : Option Addr} {sl11 : Array (Option Value)} {oc11 kV11 dc11 pm11 cd11 ct11 : Value}
    (a11 : PySem.W.nsIn K mainGlobals "worths_to" = some (some (.ref f11))) (l11 : K.lookup f11 = some ⟨oc11, od11, .func (PySem.W.fnOf "worths_to" "worths_to" (defArgs st_worths_to) (defBody st_worths_to) (defScope st_worths_to) .none kV11 dc11 pm11 an11 cd11 ct11), sl11⟩) (c11 : PySem.W.codeIn K cd11 "worths_to" = true) (k11 : PySem.W.keepIn K (.ref f11) = true)
    {f12 : Addr} {od12 an12 : Option Addr} {sl12 : Array (Option Value)} {oc12 kV12 dc12 pm12 cd12 ct12 : Value}
    (a12 : PySem.W.nsIn K mainGlobals "worth" = some (some (.ref f12))) (l12 : K.lookup f12 = some ⟨oc12, od12, .func (PySem.W.fnOf "worth" "worth" (defArgs st_worth) (defBody st_worth) (defScope st_worth) .none kV12 dc12 pm12 an12 cd12 ct12), sl12⟩) (c12 : PySem.W.codeIn K cd12 "worth" = true) (k12 : PySem.W.keepIn K (.ref f12) = true)
    {f13 : Addr} {od13 an13 : Option Addr} {sl13 : Array (Option Value)} {oc13 kV13 dc13 pm13 cd13 ct13 : Value}
    (a13 : PySem.W.nsIn K mainGlobals "best_kind" = some (some (.ref f13))) (l13 : K.lookup f13 = some ⟨oc13, od13, .func (PySem.W.fnOf "best_kind" "best_kind" (defArgs st_best_kind) (defBody st_best_kind) (defScope st_best_kind) .none kV13 dc13 pm13 an13 cd13 ct13), sl13⟩) (c13 : PySem.W.codeIn K cd13 "best_kind" = true) (k13 : PySem.W.keepIn K (.ref f13) = true)
    {f14 : Addr} {od14 an14 : Option Addr} {sl14 : Array (Option Value)} {oc14 kV14 dc14 pm14 cd14 ct14 : Value}
    (a14 : PySem.W.nsIn K mainGlobals "first_settled" = some (some (.ref f14))) (l14 : K.lookup f14 = some ⟨oc14, od14, .func (PySem.W.fnOf "first_settled" "first_settled" (defArgs st_first_settled) (defBody st_first_settled) (defScope st_first_settled) .none kV14 dc14 pm14 an14 cd14 ct14), sl14⟩) (c14 : PySem.W.codeIn K cd14 "first_settled" = true) (k14 : PySem.W.keepIn K (.ref f14) = true)
    {f15 : Addr} {od15 an15 : Option Addr} {sl15 : Array (Option Value)} {oc15 kV15 dc15 pm15 cd15 ct15 : Value}
    (a15 : PySem.W.nsIn K mainGlobals "law" = some (some (.ref f15))) (l15 : K.lookup f15 = some ⟨oc15, od15, .func (PySem.W.fnOf "law" "law" (defArgs st_law) (defBody st_law) (defScope st_law) .none kV15 dc15 pm15 an15 cd15 ct15), sl15⟩) (c15 : PySem.W.codeIn K cd15 "law" = true) (k15 : PySem.W.keepIn K (.ref f15) = true)
    (z0 : PySem.W.nsIn K mainGlobals "abs" = some none)
    {t1 : Tok} (z1 : PySem.W.nsIn K mainGlobals "MOST_AMOUNT" = some (some (.int 2000 t1)))
    {t2 : Tok} (z2 : PySem.W.nsIn K mainGlobals "MOST_GAIN" = some (some (.int 200 t2)))
    {t3 : Tok} (z3 : PySem.W.nsIn K mainGlobals "MOST_KINDS" = some (some (.int 6 t3)))
    {t4 : Tok} (z4 : PySem.W.nsIn K mainGlobals "MOST_SIZE" = some (some (.int 40 t4)))
    (z5 : PySem.W.nsIn K mainGlobals "enumerate" = some none)
    (z6 : PySem.W.nsIn K mainGlobals "int" = some none)
    (z7 : PySem.W.nsIn K mainGlobals "len" = some none)
    (z8 : PySem.W.nsIn K mainGlobals "max" = some none)
    (z9 : PySem.W.nsIn K mainGlobals "min" = some none)
    (z10 : PySem.W.nsIn K mainGlobals "range" = some none)
    (z11 : PySem.W.nsIn K mainGlobals "repr" = some none)
    : ∃ fd : FuncData, (∀ (s : Shared) (v : Value), BindsTo s fd ⟨[v], []⟩ [("script", v)]) ∧ ∀ base : Heap, K.In base → base.Ns mainGlobals mg → FnG l.prog w K mg base CX0 4 fa fd ["script"] (spR K .dd m_law) := by
  have e := hfa.symm.trans (PySem.W.mg_of X G a15)
  cases e
  have hF : Facts mg := ⟨PySem.W.mg_none_of X G z0, ⟨_, PySem.W.mg_of X G z1⟩, ⟨_, PySem.W.mg_of X G z2⟩, ⟨_, PySem.W.mg_of X G z3⟩, ⟨_, PySem.W.mg_of X G z4⟩, PySem.W.mg_none_of X G z5, PySem.W.mg_none_of X G z6, PySem.W.mg_none_of X G z7, PySem.W.mg_none_of X G z8, PySem.W.mg_none_of X G z9, PySem.W.mg_none_of X G z10, PySem.W.mg_none_of X G z11⟩
  refine ⟨PySem.W.fnOf "law" "law" (defArgs st_law) (defBody st_law) (defScope st_law) .none kV15 dc15 pm15 an15 cd15 ct15, fun s v => .of_eq rfl, fun base _ _ => ?_⟩
  have F0 := fun_mk (st := st__law_draws) l0 c0 k0
  have hC__law_draws : Cal l.prog w K mg base CX0 1 "_law_draws" ["script"] (spR K .dd m__law_draws) := cal_of (ok__law_draws F0 hF ) F0 (PySem.W.mg_of X G a0) (F0.binds (ps := ["script"]) fun _ _ _ _ _ _ us hl => match us, hl with | [_], _ => rfl)
  have F1 := fun_mk (st := st__law_mix) l1 c1 k1
  have hC__law_mix : Cal l.prog w K mg base CX0 1 "_law_mix" ["draws", "k", "many"] (spD K .dd (g3 m__law_mix)) := cal_of (ok__law_mix F1 hF ) F1 (PySem.W.mg_of X G a1) (F1.binds (ps := ["draws", "k", "many"]) fun _ _ _ _ _ _ us hl => match us, hl with | [_, _, _], _ => rfl)
  have F2 := fun_mk (st := st__law_kinds) l2 c2 k2
  have hC__law_kinds : Cal l.prog w K mg base CX0 2 "_law_kinds" ["draws", "k"] (spD K .dd (g2 m__law_kinds)) := cal_of (ok__law_kinds F2 hF hC__law_mix) F2 (PySem.W.mg_of X G a2) (F2.binds (ps := ["draws", "k"]) fun _ _ _ _ _ _ us hl => match us, hl with | [_, _], _ => rfl)
  have F3 := fun_mk (st := st__law_best) l3 c3 k3
  have hC__law_best : Cal l.prog w K mg base CX0 1 "_law_best" ["kinds"] (spD K .dd (g1 m__law_best)) := cal_of (ok__law_best F3 hF ) F3 (PySem.W.mg_of X G a3) (F3.binds (ps := ["kinds"]) fun _ _ _ _ _ _ us hl => match us, hl with | [_], _ => rfl)
  have F4 := fun_mk (st := st__law_losses) l4 c4 k4
  have hC__law_losses : Cal l.prog w K mg base CX0 1 "_law_losses" ["kinds", "top"] (spD K .dd (g2 m__law_losses)) := cal_of (ok__law_losses F4 hF ) F4 (PySem.W.mg_of X G a4) (F4.binds (ps := ["kinds", "top"]) fun _ _ _ _ _ _ us hl => match us, hl with | [_, _], _ => rfl)
  have F5 := fun_mk (st := st_check_kinds) l5 c5 k5
  have hC_check_kinds : Cal l.prog w K mg base CX0 1 "check_kinds" ["kinds"] (spD K .dd (g1 m_check_kinds)) := cal_of (ok_check_kinds F5 hF ) F5 (PySem.W.mg_of X G a5) (F5.binds (ps := ["kinds"]) fun _ _ _ _ _ _ us hl => match us, hl with | [_], _ => rfl)
  have F6 := fun_mk (st := st_best_of) l6 c6 k6
  have hC_best_of : Cal l.prog w K mg base CX0 1 "best_of" ["kinds"] (spD K .dd (g1 m_best_of)) := cal_of (ok_best_of F6 hF ) F6 (PySem.W.mg_of X G a6) (F6.binds (ps := ["kinds"]) fun _ _ _ _ _ _ us hl => match us, hl with | [_], _ => rfl)
  have F7 := fun_mk (st := st_losses_of) l7 c7 k7
  have hC_losses_of : Cal l.prog w K mg base CX0 2 "losses_of" ["kinds"] (spD K .ow (g1 m_losses_of)) := cal_of (ok_losses_of F7 hF hC_best_of) F7 (PySem.W.mg_of X G a7) (F7.binds (ps := ["kinds"]) fun _ _ _ _ _ _ us hl => match us, hl with | [_], _ => rfl)
  have F8 := fun_mk (st := st_losses) l8 c8 k8
  have hC_losses : Cal l.prog w K mg base CX0 3 "losses" ["kinds"] (spD K .ow (g1 m_losses)) := cal_of (ok_losses F8 hF hC_check_kinds hC_losses_of) F8 (PySem.W.mg_of X G a8) (F8.binds (ps := ["kinds"]) fun _ _ _ _ _ _ us hl => match us, hl with | [_], _ => rfl)
  have F9 := fun_mk (st := st__law_worths) l9 c9 k9
  have hC__law_worths : Cal l.prog w K mg base CX0 1 "_law_worths" ["kinds", "most"] (spD K .dd (g2 m__law_worths)) := cal_of (ok__law_worths F9 hF ) F9 (PySem.W.mg_of X G a9) (F9.binds (ps := ["kinds", "most"]) fun _ _ _ _ _ _ us hl => match us, hl with | [_, _], _ => rfl)
  have F10 := fun_mk (st := st_check_amount) l10 c10 k10
  have hC_check_amount : Cal l.prog w K mg base CX0 1 "check_amount" ["amount", "most"] (spD K .dd (g2 m_check_amount)) := cal_of (ok_check_amount F10 hF ) F10 (PySem.W.mg_of X G a10) (F10.binds (ps := ["amount", "most"]) fun _ _ _ _ _ _ us hl => match us, hl with | [_, _], _ => rfl)
  have F11 := fun_mk (st := st_worths_to) l11 c11 k11
  have hC_worths_to : Cal l.prog w K mg base CX0 1 "worths_to" ["kinds", "amount"] (spD K .dd (g2 m_worths_to)) := cal_of (ok_worths_to F11 hF ) F11 (PySem.W.mg_of X G a11) (F11.binds (ps := ["kinds", "amount"]) fun _ _ _ _ _ _ us hl => match us, hl with | [_, _], _ => rfl)
  have F12 := fun_mk (st := st_worth) l12 c12 k12
  have hC_worth : Cal l.prog w K mg base CX0 2 "worth" ["kinds", "amount"] (spD K .dd (g2 m_worth)) := cal_of (ok_worth F12 hF hC_check_kinds hC_check_amount hC_worths_to) F12 (PySem.W.mg_of X G a12) (F12.binds (ps := ["kinds", "amount"]) fun _ _ _ _ _ _ us hl => match us, hl with | [_, _], _ => rfl)
  have F13 := fun_mk (st := st_best_kind) l13 c13 k13
  have hC_best_kind : Cal l.prog w K mg base CX0 2 "best_kind" ["kinds"] (spD K .dd (g1 m_best_kind)) := cal_of (ok_best_kind F13 hF hC_check_kinds hC_best_of) F13 (PySem.W.mg_of X G a13) (F13.binds (ps := ["kinds"]) fun _ _ _ _ _ _ us hl => match us, hl with | [_], _ => rfl)
  have F14 := fun_mk (st := st_first_settled) l14 c14 k14
  have hC_first_settled : Cal l.prog w K mg base CX0 3 "first_settled" ["kinds"] (spD K .dd (g1 m_first_settled)) := cal_of (ok_first_settled F14 hF hC_check_kinds hC_best_of hC_losses_of) F14 (PySem.W.mg_of X G a14) (F14.binds (ps := ["kinds"]) fun _ _ _ _ _ _ us hl => match us, hl with | [_], _ => rfl)
  have F15 := fun_mk (st := st_law) l15 c15 k15
  exact ok_law F15 hF hC__law_draws hC__law_kinds hC__law_best hC_best_kind hC__law_losses hC_losses hC__law_worths hC_first_settled hC__law_mix hC_worth
end Lay.K17

set_option Elab.async false
set_option linter.all false
set_option maxRecDepth 100000
namespace Lay.K17
open PySem PySem.Spec PyProof.Rows L2 Lay
open Lay.Enc (enc)
def DB (ds : List Int) : Prop := (∀ d, d ∈ ds → 0 ≤ d ∧ d < 65536) ∧ ds.length ≤ 3780
theorem draws_ok (ns : List Int) (h : ns.length ≤ 63) : Ok (m__law_draws ns) DB := by
  unfold m__law_draws b__law_draws
  have e3 : powG 10 18 = some 1000000000000000000 := by decide
  (try simp only [ok_some, ok_none, ok_bind, ok_lift1, ok_lift2, ok_lift3, ok_lift4, ok_bind2, ok_app1, ok_app2, ok_app3, ok_app4, ok_bif, ok_andG, ok_orG, ok_chain, ok_bindOut, bo_nx, bo_rt, bo_bk, bo_ct, ok_finO, fo_nx, fo_rt, nx_nx, nx_rt, ok_mul, ok_mod, ok_div, ok_appG, ok_szG, ok_catG, decide_eq_true_eq, decide_eq_false_iff_not, Bool.not_eq_true', Bool.not_eq_false', cLe, cLt, reduceCtorEq, false_implies, true_implies, implies_true, and_true, true_and])
  refine ⟨by simp, ok_rng1 (by split <;> omega) (by split <;> omega) (ok_for (fun i s => (∀ d, d ∈ s → 0 ≤ d ∧ d < 65536) ∧ s.length ≤ 60 * i) ⟨by simp, by simp⟩ (fun i s y hy hI => ?_) fun s hI => ?_)⟩
  · obtain ⟨hi, rfl⟩ := rng_get hy
    have hin : i < ns.length ∧ i < 63 := by split at hi <;> omega
    obtain ⟨hI1, hI2⟩ := hI
    (try simp only [ok_some, ok_none, ok_bind, ok_lift1, ok_lift2, ok_lift3, ok_lift4, ok_bind2, ok_app1, ok_app2, ok_app3, ok_app4, ok_bif, ok_andG, ok_orG, ok_chain, ok_bindOut, bo_nx, bo_rt, bo_bk, bo_ct, ok_finO, fo_nx, fo_rt, nx_nx, nx_rt, ok_mul, ok_mod, ok_div, ok_appG, ok_szG, ok_catG, decide_eq_true_eq, decide_eq_false_iff_not, Bool.not_eq_true', Bool.not_eq_false', cLe, cLt, reduceCtorEq, false_implies, true_implies, implies_true, and_true, true_and])
    refine ok_atI (by omega) (by omega) fun x hx _ => ?_
    have hr : 0 ≤ (if x < 0 then -x else x) := by split <;> omega
    generalize (if x < 0 then -x else x) = r at hr ⊢
    refine ok_of e3 ?_
    refine ⟨fun h1 => ?_, fun h1 => ?_⟩
    · refine ok_rng1 (by decide) (by decide) (ok_for (fun j s' => (∀ d, d ∈ s'.1 → 0 ≤ d ∧ d < 65536) ∧ s'.1.length ≤ 60 * i + j ∧ 0 ≤ s'.2) ⟨hI1, by simpa using hI2, hr⟩ (fun j s' z hz hJ => ?_) fun s' hJ => ?_)
      · obtain ⟨hj, rfl⟩ := rng_get hz
        obtain ⟨hJ1, hJ2, hJ3⟩ := hJ
        have hj : j < 60 := hj
        (try simp only [ok_some, ok_none, ok_bind, ok_lift1, ok_lift2, ok_lift3, ok_lift4, ok_bind2, ok_app1, ok_app2, ok_app3, ok_app4, ok_bif, ok_andG, ok_orG, ok_chain, ok_bindOut, bo_nx, bo_rt, bo_bk, bo_ct, ok_finO, fo_nx, fo_rt, nx_nx, nx_rt, ok_mul, ok_mod, ok_div, ok_appG, ok_szG, ok_catG, decide_eq_true_eq, decide_eq_false_iff_not, Bool.not_eq_true', Bool.not_eq_false', cLe, cLt, reduceCtorEq, false_implies, true_implies, implies_true, and_true, true_and])
        refine ⟨fun h2 => ⟨by decide, by omega, divOk (by decide) (by decide), ?_, ?_, ?_⟩, fun h2 => ⟨hJ1, by omega, hJ3⟩⟩
        · intro d hd
          rw [List.mem_append, List.mem_singleton] at hd
          rcases hd with hd | hd
          · exact hJ1 d hd
          · subst hd; omega
        · simp only [List.length_append, List.length_singleton]; omega
        · exact Int.ediv_nonneg hJ3 (by decide)
      · (try simp only [ok_some, ok_none, ok_bind, ok_lift1, ok_lift2, ok_lift3, ok_lift4, ok_bind2, ok_app1, ok_app2, ok_app3, ok_app4, ok_bif, ok_andG, ok_orG, ok_chain, ok_bindOut, bo_nx, bo_rt, bo_bk, bo_ct, ok_finO, fo_nx, fo_rt, nx_nx, nx_rt, ok_mul, ok_mod, ok_div, ok_appG, ok_szG, ok_catG, decide_eq_true_eq, decide_eq_false_iff_not, Bool.not_eq_true', Bool.not_eq_false', cLe, cLt, reduceCtorEq, false_implies, true_implies, implies_true, and_true, true_and])
        refine ⟨hJ.1, ?_⟩
        have := hJ.2.1
        simp only [rng_len] at this
        have e : (60 : Int).toNat = 60 := rfl
        omega
    · refine ⟨mulOk (by omega) (by decide), mulOk (by omega) (by decide), by decide, ?_⟩
      generalize hm : (r * 48271 + (0 + ↑i + 1) * 69621) % 2147483647 = m1
      have hm1 : 0 ≤ m1 ∧ m1 < 2147483647 := by omega
      refine ⟨mulOk (by omega) (by decide), mulOk (by decide) (by omega), by decide, by decide, ?_⟩
      generalize (m1 * 16807 + 11 * (0 + ↑i) + 5) % 2147483629 = m2
      refine ⟨by omega, divOk (by decide) (by decide), by decide, by simp only [List.length_append, List.length_singleton]; omega, ?_, ?_⟩
      · intro d hd
        simp only [List.mem_append, List.mem_singleton] at hd
        rcases hd with (hd | hd) | hd
        · exact hI1 d hd
        · subst hd; omega
        · subst hd; omega
      · simp only [List.length_append, List.length_singleton]; omega
  · (try simp only [ok_some, ok_none, ok_bind, ok_lift1, ok_lift2, ok_lift3, ok_lift4, ok_bind2, ok_app1, ok_app2, ok_app3, ok_app4, ok_bif, ok_andG, ok_orG, ok_chain, ok_bindOut, bo_nx, bo_rt, bo_bk, bo_ct, ok_finO, fo_nx, fo_rt, nx_nx, nx_rt, ok_mul, ok_mod, ok_div, ok_appG, ok_szG, ok_catG, decide_eq_true_eq, decide_eq_false_iff_not, Bool.not_eq_true', Bool.not_eq_false', cLe, cLt, reduceCtorEq, false_implies, true_implies, implies_true, and_true, true_and])
    refine ⟨hI.1, ?_⟩
    have := hI.2
    simp only [rng_len] at this
    have : (if (ns.length : Int) < 63 then (ns.length : Int) else 63).toNat ≤ 63 := by split <;> omega
    omega
theorem mix_ok {ds : List Int} {k many : Int} (h : DB ds) (hk : 0 ≤ k) (hk2 : k < 2 ^ 40) (hm : 0 < many) : Ok (m__law_mix ds k many) fun r => 0 ≤ r ∧ r < many := by
  unfold m__law_mix b__law_mix
  have key : ∀ c : Int, 0 ≤ c → c < 65536 → (k < ds.length → 0 < many ∧ 0 ≤ c % many ∧ c % many < many) ∧ (¬ k < ds.length → MulOk c 7919 ∧ MulOk k 104729 ∧ DivOk 3 ∧ 0 < many ∧ 0 ≤ (c * 7919 + k * 104729) / 3 % many ∧ (c * 7919 + k * 104729) / 3 % many < many) := by
    intro c h1 h2
    exact ⟨fun _ => ⟨hm, Int.emod_nonneg _ (by omega), Int.emod_lt_of_pos _ hm⟩, fun _ => ⟨mulOk (by omega) (by decide), mulOk (by omega) (by decide), divOk (by decide) (by decide), hm, Int.emod_nonneg _ (by omega), Int.emod_lt_of_pos _ hm⟩⟩
  (try simp only [ok_some, ok_none, ok_bind, ok_lift1, ok_lift2, ok_lift3, ok_lift4, ok_bind2, ok_app1, ok_app2, ok_app3, ok_app4, ok_bif, ok_andG, ok_orG, ok_chain, ok_bindOut, bo_nx, bo_rt, bo_bk, bo_ct, ok_finO, fo_nx, fo_rt, nx_nx, nx_rt, ok_mul, ok_mod, ok_div, ok_appG, ok_szG, ok_catG, decide_eq_true_eq, decide_eq_false_iff_not, Bool.not_eq_true', Bool.not_eq_false', cLe, cLt, reduceCtorEq, false_implies, true_implies, implies_true, and_true, true_and])
  refine ⟨fun h0 => ⟨h0, ok_atI (Int.emod_nonneg _ (by omega)) (Int.emod_lt_of_pos _ h0) fun x hx hm => ?_⟩, fun h0 => ?_⟩
  · exact key x (h.1 x hm).1 (h.1 x hm).2
  · exact key 0 (by decide) (by decide)

/-! ### pairs in order -/
abbrev Z2 := T2 Int Int
def leP (x y : Z2) : Prop := x.a < y.a ∨ (x.a = y.a ∧ x.b ≤ y.b)
def ltP (x y : Z2) : Prop := x.a < y.a ∨ (x.a = y.a ∧ x.b < y.b)
theorem z2_ext {x y : Z2} (h : x.a = y.a) (h2 : x.b = y.b) : x = y := by
  obtain ⟨a, b⟩ := x
  obtain ⟨c, d⟩ := y
  simp at h h2
  rw [h, h2]
theorem leP_refl (x : Z2) : leP x x := .inr ⟨rfl, Int.le_refl _⟩
theorem leP_tr {x y z : Z2} (h : leP x y) (h2 : leP y z) : leP x z := by unfold leP at *; omega
theorem leP_anti {x y : Z2} (h : leP x y) (h2 : leP y x) : x = y := by
  unfold leP at *
  exact z2_ext (by omega) (by omega)
theorem ltP_iff {x y : Z2} : ltP x y ↔ ¬ leP y x := by unfold leP ltP; omega
instance (x y : Z2) : Decidable (ltP x y) := by unfold ltP; infer_instance
theorem ltD_eq (x y : Z2) : ltD x y = decide (ltP x y) := by
  obtain ⟨a, b⟩ := x
  obtain ⟨c, d⟩ := y
  have al : ∀ i j : Int, PySem.W.alike (.int i) (.int j) = true := fun i j => by simp [PySem.W.alike]
  have ev : ∀ i j : Int, PyData.eqv (.int i) (.int j) = decide (i = j) := fun i j => EqL.eqv i j
  show PySem.W.dataLt (.tuple [.int a, .int b]) (.tuple [.int c, .int d]) = _
  rw [PySem.W.dataLt_tuple]
  by_cases e : a = c
  · subst e
    rw [PySem.W.dataLt_all_yes (al _ _) (by rw [ev]; simp)]
    by_cases f : b = d
    · subst f
      rw [PySem.W.dataLt_all_yes (al _ _) (by rw [ev]; simp)]
      have : ¬ ltP ⟨a, b⟩ ⟨a, b⟩ := by unfold ltP; omega
      rw [decide_eq_false this]; decide
    · rw [PySem.W.dataLt_all_no (al _ _) (by rw [ev]; simpa using f), PySem.W.dataLt_int]
      unfold ltP
      simp
  · rw [PySem.W.dataLt_all_no (al _ _) (by rw [ev]; simpa using e), PySem.W.dataLt_int]
    unfold ltP
    simp [e]
def adP (x s : Z2) : Z2 := ⟨x.a + s.b, x.b + s.a⟩
theorem adP_mono {x y : Z2} (h : leP x y) (s : Z2) : leP (adP x s) (adP y s) := by
  unfold leP adP at *
  show x.a + s.b < y.a + s.b ∨ (x.a + s.b = y.a + s.b ∧ x.b + s.a ≤ y.b + s.a)
  omega
theorem nat_min {P : Nat → Prop} : ∀ n, P n → ∃ m, P m ∧ ∀ k, P k → m ≤ k := fun n => by
  induction n using Nat.strongRecOn with
  | _ n ih =>
    intro h
    by_cases c : ∃ k, k < n ∧ P k
    · obtain ⟨k, hk, pk⟩ := c
      exact ih k hk pk
    · exact ⟨n, h, fun k pk => by
        by_cases d : k < n
        · exact absurd ⟨k, d, pk⟩ c
        · omega⟩
theorem ex_min {P : Z2 → Prop} (nn : ∀ x, P x → 0 ≤ x.a ∧ 0 ≤ x.b) (ex : ∃ x, P x) : ∃ m, P m ∧ ∀ y, P y → leP m y := by
  obtain ⟨x, hx⟩ := ex
  obtain ⟨a, ⟨x1, p1, e1⟩, ha⟩ := nat_min (P := fun n => ∃ x, P x ∧ x.a.toNat = n) _ ⟨x, hx, rfl⟩
  obtain ⟨b, ⟨x2, p2, e2, f2⟩, hb⟩ := nat_min (P := fun n => ∃ x, P x ∧ x.a.toNat = a ∧ x.b.toNat = n) _ ⟨x1, p1, e1, rfl⟩
  refine ⟨x2, p2, fun y py => ?_⟩
  have n2 := nn x2 p2
  have ny := nn y py
  have h1 := ha y.a.toNat ⟨y, py, rfl⟩
  unfold leP
  by_cases c : y.a.toNat = a
  · have h2 := hb y.b.toNat ⟨y, py, c, rfl⟩
    omega
  · omega
/-! ### what can be made of steps -/
structure St (U : Int) (S : List Z2) : Prop where
  u : 0 < U
  s : ∀ s, s ∈ S → 1 ≤ s.a ∧ 0 ≤ s.b
  one : ∃ v, (⟨1, v⟩ : Z2) ∈ S
inductive Ach (S : List Z2) : Z2 → Prop
  | z : Ach S ⟨0, 0⟩
  | s {x s : Z2} : Ach S x → s ∈ S → Ach S (adP x s)
theorem ach_nn {U : Int} {S : List Z2} (h : St U S) {x : Z2} (a : Ach S x) : 0 ≤ x.a ∧ 0 ≤ x.b := by
  induction a with
  | z => exact ⟨Int.le_refl _, Int.le_refl _⟩
  | s _ hs ih =>
    have := h.s _ hs
    exact ⟨by show 0 ≤ _ + _; omega, by show 0 ≤ _ + _; omega⟩
theorem ach_all {U : Int} {S : List Z2} (h : St U S) : ∀ n : Nat, ∃ x, Ach S x ∧ x.b = n
  | 0 => ⟨_, .z, rfl⟩
  | n + 1 => by
    obtain ⟨x, a, e⟩ := ach_all h n
    obtain ⟨v, hv⟩ := h.one
    exact ⟨_, .s a hv, by show x.b + 1 = _; omega⟩
def Best (U : Int) (S : List Z2) (F : Int → Z2) : Prop := ∀ r, 0 ≤ r → r < U → Ach S (F r) ∧ (F r).b % U = r ∧ ∀ y, Ach S y → y.b % U = r → leP (F r) y
open Classical in
theorem ex_best {U : Int} {S : List Z2} (h : St U S) : ∃ F, Best U S F := by
  have key : ∀ r : Int, 0 ≤ r ∧ r < U → ∃ m, (Ach S m ∧ m.b % U = r) ∧ ∀ y, (Ach S y ∧ y.b % U = r) → leP m y := fun r hr =>
    ex_min (fun x hx => ach_nn h hx.1) (by
      obtain ⟨x, a, e⟩ := ach_all h r.toNat
      exact ⟨x, a, by rw [e, Int.emod_eq_of_lt (by omega) (by omega)]; omega⟩)
  refine ⟨fun r => if hr : 0 ≤ r ∧ r < U then choose (key r hr) else ⟨0, 0⟩, fun r h0 h1 => ?_⟩
  simp only [dif_pos (show 0 ≤ r ∧ r < U from ⟨h0, h1⟩)]
  have := choose_spec (key r ⟨h0, h1⟩)
  exact ⟨this.1.1, this.1.2, fun y a e => this.2 y ⟨a, e⟩⟩
theorem best_zero {U : Int} {S : List Z2} (h : St U S) {F : Int → Z2} (b : Best U S F) : F 0 = ⟨0, 0⟩ := by
  obtain ⟨a, _, m⟩ := b 0 (Int.le_refl _) h.u
  have nn := ach_nn h a
  have := m ⟨0, 0⟩ .z (by simp)
  refine leP_anti this ?_
  unfold leP
  show 0 < (F 0).a ∨ (0 = (F 0).a ∧ 0 ≤ (F 0).b)
  omega
theorem mod_b {U x : Int} (h : 0 < U) : 0 ≤ x % U ∧ x % U < U := ⟨Int.emod_nonneg _ (by omega), Int.emod_lt_of_pos _ h⟩
theorem mod_add {U x r s : Int} (e : x % U = r) : (x + s) % U = (r + s) % U := by rw [← e, Int.emod_add_emod]
/-- the best of a residue is the best of another one and a step -/
theorem best_pred {U : Int} {S : List Z2} (h : St U S) {F : Int → Z2} (b : Best U S F) {r : Int} (h0 : 0 ≤ r) (h1 : r < U) (hr : r ≠ 0) : ∃ p s, 0 ≤ p ∧ p < U ∧ s ∈ S ∧ (p + s.a) % U = r ∧ F r = adP (F p) s := by
  obtain ⟨a, e, m⟩ := b r h0 h1
  generalize hx : F r = x at a e m
  cases a with
  | z => exact absurd e.symm (by simpa using hr)
  | @s y s ay hs =>
    obtain ⟨p0, p1⟩ := mod_b (x := y.b) h.u
    refine ⟨y.b % U, s, p0, p1, hs, ?_, ?_⟩
    · have e : (y.b + s.a) % U = r := e
      rw [Int.emod_add_emod]; exact e
    · obtain ⟨a2, e2, m2⟩ := b _ p0 p1
      have l1 := adP_mono (m2 y ay rfl) s
      have l2 := m (adP (F (y.b % U)) s) (.s a2 hs) (by
        show ((F (y.b % U)).b + s.a) % U = r
        rw [mod_add e2, Int.emod_add_emod]; exact e)
      exact leP_anti l2 l1
theorem best_step {U : Int} {S : List Z2} (h : St U S) {F : Int → Z2} (b : Best U S F) {r : Int} (h0 : 0 ≤ r) (h1 : r < U) {s : Z2} (hs : s ∈ S) : leP (F ((r + s.a) % U)) (adP (F r) s) := by
  obtain ⟨a, e, _⟩ := b r h0 h1
  obtain ⟨p0, p1⟩ := mod_b (x := r + s.a) h.u
  exact (b _ p0 p1).2.2 _ (.s a hs) (by show ((F r).b + s.a) % U = _; rw [mod_add e])
theorem adP_gt {x s : Z2} (h : 1 ≤ s.a ∧ 0 ≤ s.b) : ltP x (adP x s) := by
  unfold ltP adP
  show x.a < x.a + s.b ∨ (x.a = x.a + s.b ∧ x.b < x.b + s.a)
  omega
def below (U : Int) (F : Int → Z2) (r : Int) : Nat := ((List.range U.toNat).filter fun (p : Nat) => decide (ltP (F (p : Int)) (F r))).length
theorem below_lt {U : Int} {F : Int → Z2} {p r : Int} (h0 : 0 ≤ p) (h1 : p < U) (h : ltP (F p) (F r)) : below U F p < below U F r := by
  unfold below
  have sub : ((List.range U.toNat).filter fun (q : Nat) => decide (ltP (F (q : Int)) (F p))) = ((List.range U.toNat).filter fun (q : Nat) => decide (ltP (F (q : Int)) (F r))).filter fun (q : Nat) => decide (ltP (F (q : Int)) (F p)) := by
    rw [List.filter_filter]
    congr 1
    funext q
    by_cases c : ltP (F (q : Int)) (F p)
    · have : ltP (F (q : Int)) (F r) := by unfold ltP at *; omega
      simp [c, this]
    · simp [c]
  rw [sub]
  refine List.length_filter_lt_length_iff_exists.mpr ⟨p.toNat, List.mem_filter.mpr ⟨List.mem_range.mpr (by omega), ?_⟩, ?_⟩
  · rw [Int.toNat_of_nonneg h0]; simpa using h
  · rw [Int.toNat_of_nonneg h0]
    have : ¬ ltP (F p) (F p) := by unfold ltP; omega
    simpa using this
theorem below_top {U : Int} {F : Int → Z2} {r : Int} (h0 : 0 ≤ r) (h1 : r < U) : below U F r < U.toNat := by
  have : below U F r < (List.range U.toNat).length := by
    unfold below
    refine List.length_filter_lt_length_iff_exists.mpr ⟨r.toNat, List.mem_range.mpr (by omega), ?_⟩
    rw [Int.toNat_of_nonneg h0]
    have : ¬ ltP (F r) (F r) := by unfold ltP; omega
    simpa using this
  rw [List.length_range] at this; exact this
theorem bulk_le {U : Int} {S : List Z2} (h : St U S) {F : Int → Z2} (b : Best U S F) {M : Int} (hM : ∀ s, s ∈ S → s.a ≤ M) (n : Nat) : ∀ r, 0 ≤ r → r < U → below U F r = n → (F r).b ≤ n * M := by
  have M0 : 0 ≤ M := by
    obtain ⟨v, hv⟩ := h.one
    have : (1 : Int) ≤ M := hM _ hv
    omega
  induction n using Nat.strongRecOn with
  | _ n ih =>
    intro r h0 h1 hn
    by_cases c : r = 0
    · subst c
      rw [best_zero h b]
      exact Int.mul_nonneg (by omega) M0
    · obtain ⟨p, s, p0, p1, hs, _, e⟩ := best_pred h b h0 h1 c
      have lt : ltP (F p) (F r) := by rw [e]; exact adP_gt (h.s s hs)
      have k := below_lt p0 p1 lt
      have i := ih _ (by omega) p p0 p1 rfl
      have sm := hM s hs
      have k2 : ((below U F p : Nat) : Int) + 1 ≤ n := by omega
      have := Int.mul_le_mul_of_nonneg_right k2 M0
      rw [Int.add_mul, Int.one_mul] at this
      rw [e]
      show (F p).b + s.a ≤ _
      omega
theorem bulk_most {U : Int} {S : List Z2} (h : St U S) {F : Int → Z2} (b : Best U S F) {M : Int} (hM : ∀ s, s ∈ S → s.a ≤ M) {r : Int} (h0 : 0 ≤ r) (h1 : r < U) : (F r).b ≤ U * M := by
  have i := bulk_le h b hM _ r h0 h1 rfl
  have k := below_top (F := F) h0 h1
  have M0 : 0 ≤ M := by
    obtain ⟨v, hv⟩ := h.one
    have : (1 : Int) ≤ M := hM _ hv
    omega
  have := Int.mul_le_mul_of_nonneg_right (show ((below U F r : Nat) : Int) ≤ U by omega) M0
  omega
end Lay.K17

set_option Elab.async false
set_option linter.all false
set_option maxRecDepth 100000
namespace Lay.K17
open PySem PySem.Spec PyProof.Rows L2 Lay
open Lay.Enc (enc)
/-! ### sweeps -/
def Stl (F : Int → Z2) (f : List (Option Z2)) (r : Int) : Prop := f[r.toNat]? = some (some (F r))
structure J (U : Int) (S : List Z2) (f : List (Option Z2)) : Prop where
  l : f.length = U.toNat
  a : ∀ r x, 0 ≤ r → r < U → f[r.toNat]? = some (some x) → Ach S x ∧ x.b % U = r
  z : f[0]? = some (some ⟨0, 0⟩)
def Mv (U : Int) (f g : List (Option Z2)) : Prop := ∀ r y, 0 ≤ r → r < U → f[r.toNat]? = some (some y) → ∃ y', g[r.toNat]? = some (some y') ∧ leP y' y
theorem Mv.refl (U : Int) (f : List (Option Z2)) : Mv U f f := fun _ y _ _ e => ⟨y, e, leP_refl y⟩
theorem Mv.tr {U : Int} {f g h : List (Option Z2)} (a : Mv U f g) (b : Mv U g h) : Mv U f h := fun r y h0 h1 e => by
  obtain ⟨y1, e1, l1⟩ := a r y h0 h1 e
  obtain ⟨y2, e2, l2⟩ := b r y1 h0 h1 e1
  exact ⟨y2, e2, leP_tr l2 l1⟩
def AllS (U : Int) (F : Int → Z2) (f : List (Option Z2)) : Prop := ∀ r, 0 ≤ r → r < U → Stl F f r
section
variable {U : Int} {S : List Z2} {F : Int → Z2}
theorem stl_of (b : Best U S F) {f : List (Option Z2)} (j : J U S f) {r : Int} (h0 : 0 ≤ r) (h1 : r < U) {y : Z2} (e : f[r.toNat]? = some (some y)) (l : leP y (F r)) : Stl F f r := by
  obtain ⟨a, m⟩ := j.a r y h0 h1 e
  have := (b r h0 h1).2.2 y a m
  unfold Stl
  rw [e, leP_anti l this]
theorem stl_mv (b : Best U S F) {f g : List (Option Z2)} (j : J U S g) (m : Mv U f g) {r : Int} (h0 : 0 ≤ r) (h1 : r < U) (s : Stl F f r) : Stl F g r := by
  obtain ⟨y, e, l⟩ := m r _ h0 h1 s
  exact stl_of b j h0 h1 e l
open Classical in
noncomputable def unset (U : Int) (F : Int → Z2) (f : List (Option Z2)) : Nat := ((List.range U.toNat).filter fun (r : Nat) => decide (¬ Stl F f (r : Int))).length
open Classical in
theorem unset_le (f : List (Option Z2)) : unset U F f ≤ U.toNat := by
  unfold unset
  exact Nat.le_trans (List.length_filter_le _ _) (by rw [List.length_range]; exact Nat.le_refl _)
open Classical in
theorem unset_lt (b : Best U S F) {f g : List (Option Z2)} (j : J U S g) (m : Mv U f g) {r : Int} (h0 : 0 ≤ r) (h1 : r < U) (n : ¬ Stl F f r) (s : Stl F g r) : unset U F g < unset U F f := by
  unfold unset
  have sub : ((List.range U.toNat).filter fun (q : Nat) => decide (¬ Stl F g (q : Int))) = ((List.range U.toNat).filter fun (q : Nat) => decide (¬ Stl F f (q : Int))).filter fun (q : Nat) => decide (¬ Stl F g (q : Int)) := by
    rw [List.filter_filter]
    refine List.filter_congr fun q hq => ?_
    have hq := List.mem_range.mp hq
    by_cases c : Stl F g (q : Int)
    · simp [c]
    · have : ¬ Stl F f (q : Int) := fun k => c (stl_mv b j m (by omega) (by omega) k)
      simp [c, this]
  rw [sub]
  refine List.length_filter_lt_length_iff_exists.mpr ⟨r.toNat, List.mem_filter.mpr ⟨List.mem_range.mpr (by omega), ?_⟩, ?_⟩
  · rw [Int.toNat_of_nonneg h0]; simpa using n
  · rw [Int.toNat_of_nonneg h0]; simpa using s
/-- all is relaxed from what was settled -/
def Rlx (U : Int) (S : List Z2) (F : Int → Z2) (f g : List (Option Z2)) : Prop := ∀ p, 0 ≤ p → p < U → Stl F f p → ∀ s, s ∈ S → ∃ y, g[((p + s.a) % U).toNat]? = some (some y) ∧ leP y (adP (F p) s)
theorem sweep (h : St U S) (b : Best U S F) {f g : List (Option Z2)} (jf : J U S f) (j : J U S g) (m : Mv U f g) (x : Rlx U S F f g) (n : ¬ AllS U F f) : unset U F g < unset U F f := by
  have ex : ∃ r, 0 ≤ r ∧ r < U ∧ ¬ Stl F f r := Classical.byContradiction fun c => n fun r h0 h1 => Classical.byContradiction fun d => c ⟨r, h0, h1, d⟩
  obtain ⟨r0, a0, a1, a2⟩ := ex
  obtain ⟨k, ⟨r, h0, h1, nr, ek⟩, mk⟩ := nat_min (P := fun k => ∃ r, 0 ≤ r ∧ r < U ∧ ¬ Stl F f r ∧ below U F r = k) _ ⟨r0, a0, a1, a2, rfl⟩
  have r0 : r ≠ 0 := fun c => nr (by
    subst c
    unfold Stl
    rw [best_zero h b]; exact jf.z)
  obtain ⟨p, s, p0, p1, hs, e, ef⟩ := best_pred h b h0 h1 r0
  have lt : ltP (F p) (F r) := by rw [ef]; exact adP_gt (h.s s hs)
  have sp : Stl F f p := Classical.byContradiction fun c => by
    have := mk _ ⟨p, p0, p1, c, rfl⟩
    have := below_lt p0 p1 lt
    omega
  obtain ⟨y, ey, ly⟩ := x p p0 p1 sp s hs
  rw [e] at ey
  rw [← ef] at ly
  exact unset_lt b j m h0 h1 nr (stl_of b j h0 h1 ey ly)
/-- one step taken from residue r with x -/
theorem J.set (h : St U S) {f : List (Option Z2)} (j : J U S f) {r : Int} {x : Z2} (ax : Ach S x) (ex : x.b % U = r) {s : Z2} (hs : s ∈ S) : J U S (f.set ((r + s.a) % U).toNat (some (adP x s))) ∨ (r + s.a) % U = 0 := by
  by_cases c : (r + s.a) % U = 0
  · exact .inr c
  · obtain ⟨t0, t1⟩ := mod_b (x := r + s.a) h.u
    refine .inl ⟨by rw [List.length_set]; exact j.l, fun q y q0 q1 e => ?_, ?_⟩
    · by_cases d : q = (r + s.a) % U
      · rw [← d, List.getElem?_set_self (by rw [j.l]; omega)] at e
        cases e
        exact ⟨.s ax hs, by show (x.b + s.a) % U = q; rw [mod_add ex, d]⟩
      · rw [List.getElem?_set_ne (by omega)] at e
        exact j.a q y q0 q1 e
    · rw [List.getElem?_set_ne (by omega)]; exact j.z
end
end Lay.K17

set_option Elab.async false
set_option linter.all false
set_option maxRecDepth 100000
namespace Lay.K17
open PySem PySem.Spec PyProof.Rows L2 Lay
open Lay.Enc (enc)
/-! ### kinds -/
structure KOk (K : List Z2) : Prop where
  l : 1 ≤ K.length ∧ K.length ≤ 6
  b : ∀ y, y ∈ K → (1 ≤ y.a ∧ y.a ≤ 40) ∧ (0 ≤ y.b ∧ y.b ≤ 200)
  n : K.Nodup
structure Top (K : List Z2) (T : Z2) : Prop where
  m : T ∈ K
  r : ∀ y, y ∈ K → y.b * T.a ≤ T.b * y.a
def bet (f y : Z2) : Z2 := if y.b * f.a > f.b * y.a ∨ (y.b * f.a = f.b * y.a ∧ y.a < f.a) then y else f
def topF (K : List Z2) : Z2 := K.foldl bet (K.headD ⟨0, 0⟩)
theorem rat_tr {x y f : Z2} (hf : 1 ≤ f.a) (hx : 1 ≤ x.a) (hy : 1 ≤ y.a) (h1 : x.b * f.a ≤ f.b * x.a) (h2 : f.b * y.a ≤ y.b * f.a) : x.b * y.a ≤ y.b * x.a := by
  have a := Int.mul_le_mul_of_nonneg_right h1 (show 0 ≤ y.a by omega)
  have b := Int.mul_le_mul_of_nonneg_right h2 (show 0 ≤ x.a by omega)
  have : (x.b * y.a) * f.a ≤ (y.b * x.a) * f.a := by
    have e1 : x.b * f.a * y.a = (x.b * y.a) * f.a := by rw [Int.mul_assoc, Int.mul_comm f.a, ← Int.mul_assoc]
    have e2 : f.b * x.a * y.a = f.b * y.a * x.a := by rw [Int.mul_assoc, Int.mul_comm x.a, ← Int.mul_assoc]
    have e3 : y.b * f.a * x.a = (y.b * x.a) * f.a := by rw [Int.mul_assoc, Int.mul_comm f.a, ← Int.mul_assoc]
    omega
  exact Int.le_of_mul_le_mul_right this (by omega)
theorem fold_top : ∀ {L : List Z2} {P : List Z2} {f : Z2}, (∀ y, y ∈ P ++ L → 1 ≤ y.a) → f ∈ P → (∀ y, y ∈ P → y.b * f.a ≤ f.b * y.a) → Top (P ++ L) (L.foldl bet f)
  | [], P, f, _, hm, hr => by rw [List.append_nil]; exact ⟨hm, hr⟩
  | z :: L, P, f, h1, hm, hr => by
    rw [List.foldl_cons, show P ++ z :: L = (P ++ [z]) ++ L by simp]
    have hf := h1 f (by simp [hm])
    have hz := h1 z (by simp)
    refine fold_top (by intro y hy; exact h1 y (by simpa using hy)) ?_ fun y hy => ?_
    · unfold bet; split <;> simp [hm]
    · rw [List.mem_append, List.mem_singleton] at hy
      unfold bet
      split
      · rename_i c
        rcases hy with k | k
        · exact rat_tr hf (h1 y (by simp [k])) hz (hr y k) (by omega)
        · subst k; exact Int.le_refl _
      · rename_i c
        rcases hy with k | k
        · exact hr y k
        · subst k; omega
theorem top_ok {K : List Z2} (h : KOk K) : Top K (topF K) := by
  cases K with
  | nil => exact absurd h.l.1 (by decide)
  | cons x K =>
    have := fold_top (L := x :: K) (P := [x]) (f := x) (fun y hy => (h.b y (by simpa using hy)).1.1) (by simp) fun y hy => by
      have : y = x := by simpa using hy
      subst this; exact Int.le_refl _
    refine ⟨?_, fun y hy => this.r y (by simp at hy ⊢; exact hy)⟩
    have m := this.m
    show (x :: K).foldl bet x ∈ x :: K
    simpa using m
theorem bet_mem {K : List Z2} {f y : Z2} (hf : f ∈ K) (hy : y ∈ K) : bet f y ∈ K := by unfold bet; split <;> assumption
theorem bet_step {K : List Z2} {i : Nat} {y : Z2} (hy : K[i]? = some y) : (K.take (i + 1)).foldl bet (K.headD ⟨0, 0⟩) = bet ((K.take i).foldl bet (K.headD ⟨0, 0⟩)) y := by
  rw [take1 hy, List.foldl_append]; rfl
theorem best_of_eq {K : List Z2} (h : KOk K) : m_best_of K = some (topF K) := by
  rw [ok_iff]
  unfold m_best_of b_best_of
  (try simp only [ok_some, ok_none, ok_bind, ok_lift1, ok_lift2, ok_lift3, ok_lift4, ok_bind2, ok_app1, ok_app2, ok_app3, ok_app4, ok_bif, ok_andG, ok_orG, ok_chain, ok_bindOut, bo_nx, bo_rt, bo_bk, bo_ct, ok_finO, fo_nx, fo_rt, nx_nx, nx_rt, ok_mul, ok_mod, ok_div, ok_appG, ok_szG, ok_catG, decide_eq_true_eq, decide_eq_false_iff_not, Bool.not_eq_true', Bool.not_eq_false', cLe, cLt, reduceCtorEq, false_implies, true_implies, implies_true, and_true, true_and])
  have h0 : 0 < K.length := by have := h.l; omega
  refine ok_atI (by decide) (by omega) fun x hx hxm => ok_for (fun i s => s = (K.take i).foldl bet (K.headD ⟨0, 0⟩) ∧ s ∈ K) ⟨?_, hxm⟩ (fun i s y hy hs => ?_) fun s hs => ?_
  · cases K with
    | nil => cases h0
    | cons z K => have hx : some z = some x := hx
                  cases hx; rfl
  · obtain ⟨e, sm⟩ := hs
    have ym := List.mem_of_getElem? hy
    have bs := h.b s sm
    have bY := h.b y ym
    have bm := bet_mem sm ym
    rw [bet_step hy, ← e]
    clear e
    (try simp only [ok_some, ok_none, ok_bind, ok_lift1, ok_lift2, ok_lift3, ok_lift4, ok_bind2, ok_app1, ok_app2, ok_app3, ok_app4, ok_bif, ok_andG, ok_orG, ok_chain, ok_bindOut, bo_nx, bo_rt, bo_bk, bo_ct, ok_finO, fo_nx, fo_rt, nx_nx, nx_rt, ok_mul, ok_mod, ok_div, ok_appG, ok_szG, ok_catG, decide_eq_true_eq, decide_eq_false_iff_not, Bool.not_eq_true', Bool.not_eq_false', cLe, cLt, reduceCtorEq, false_implies, true_implies, implies_true, and_true, true_and])
    refine ⟨mulOk (by omega) (by omega), mulOk (by omega) (by omega), fun c => ⟨?_, ym⟩, fun c => ⟨fun d => ⟨fun d2 => ⟨?_, ym⟩, fun d2 => ⟨?_, sm⟩⟩, fun d => ⟨?_, sm⟩⟩⟩
    · unfold bet; rw [if_pos (.inl c)]
    · unfold bet; rw [if_pos (.inr ⟨d, d2⟩)]
    · unfold bet; rw [if_neg (by omega)]
    · unfold bet; rw [if_neg (by omega)]
  · (try simp only [ok_some, ok_none, ok_bind, ok_lift1, ok_lift2, ok_lift3, ok_lift4, ok_bind2, ok_app1, ok_app2, ok_app3, ok_app4, ok_bif, ok_andG, ok_orG, ok_chain, ok_bindOut, bo_nx, bo_rt, bo_bk, bo_ct, ok_finO, fo_nx, fo_rt, nx_nx, nx_rt, ok_mul, ok_mod, ok_div, ok_appG, ok_szG, ok_catG, decide_eq_true_eq, decide_eq_false_iff_not, Bool.not_eq_true', Bool.not_eq_false', cLe, cLt, reduceCtorEq, false_implies, true_implies, implies_true, and_true, true_and])
    rw [hs.1, List.take_length]; rfl
theorem law_best_eq {K : List Z2} (h : KOk K) : m__law_best K = some (topF K) := by
  rw [ok_iff]
  unfold m__law_best b__law_best
  (try simp only [ok_some, ok_none, ok_bind, ok_lift1, ok_lift2, ok_lift3, ok_lift4, ok_bind2, ok_app1, ok_app2, ok_app3, ok_app4, ok_bif, ok_andG, ok_orG, ok_chain, ok_bindOut, bo_nx, bo_rt, bo_bk, bo_ct, ok_finO, fo_nx, fo_rt, nx_nx, nx_rt, ok_mul, ok_mod, ok_div, ok_appG, ok_szG, ok_catG, decide_eq_true_eq, decide_eq_false_iff_not, Bool.not_eq_true', Bool.not_eq_false', cLe, cLt, reduceCtorEq, false_implies, true_implies, implies_true, and_true, true_and])
  have h0 : 0 < K.length := by have := h.l; omega
  refine ok_atI (by decide) (by omega) fun x hx hxm => ok_for (fun i s => s = (K.take i).foldl bet (K.headD ⟨0, 0⟩) ∧ s ∈ K) ⟨?_, hxm⟩ (fun i s y hy hs => ?_) fun s hs => ?_
  · cases K with
    | nil => cases h0
    | cons z K => have hx : some z = some x := hx
                  cases hx; rfl
  · obtain ⟨e, sm⟩ := hs
    have ym := List.mem_of_getElem? hy
    have bs := h.b s sm
    have bY := h.b y ym
    have bm := bet_mem sm ym
    rw [bet_step hy, ← e]
    clear e
    (try simp only [ok_some, ok_none, ok_bind, ok_lift1, ok_lift2, ok_lift3, ok_lift4, ok_bind2, ok_app1, ok_app2, ok_app3, ok_app4, ok_bif, ok_andG, ok_orG, ok_chain, ok_bindOut, bo_nx, bo_rt, bo_bk, bo_ct, ok_finO, fo_nx, fo_rt, nx_nx, nx_rt, ok_mul, ok_mod, ok_div, ok_appG, ok_szG, ok_catG, decide_eq_true_eq, decide_eq_false_iff_not, Bool.not_eq_true', Bool.not_eq_false', cLe, cLt, reduceCtorEq, false_implies, true_implies, implies_true, and_true, true_and])
    refine ⟨mulOk (by omega) (by omega), mulOk (by omega) (by omega), fun c => ⟨?_, ym⟩, fun c => ⟨fun d => ⟨fun d2 => ⟨?_, ym⟩, fun d2 => ⟨?_, sm⟩⟩, fun d => ⟨?_, sm⟩⟩⟩
    · unfold bet; rw [if_pos (.inl (by omega))]
    · unfold bet; rw [if_pos (.inr ⟨by omega, d2⟩)]
    · unfold bet; rw [if_neg (by omega)]
    · unfold bet; rw [if_neg (by omega)]
  · (try simp only [ok_some, ok_none, ok_bind, ok_lift1, ok_lift2, ok_lift3, ok_lift4, ok_bind2, ok_app1, ok_app2, ok_app3, ok_app4, ok_bif, ok_andG, ok_orG, ok_chain, ok_bindOut, bo_nx, bo_rt, bo_bk, bo_ct, ok_finO, fo_nx, fo_rt, nx_nx, nx_rt, ok_mul, ok_mod, ok_div, ok_appG, ok_szG, ok_catG, decide_eq_true_eq, decide_eq_false_iff_not, Bool.not_eq_true', Bool.not_eq_false', cLe, cLt, reduceCtorEq, false_implies, true_implies, implies_true, and_true, true_and])
    rw [hs.1, List.take_length]; rfl
theorem check_kinds_eq {K : List Z2} (h : KOk K) : m_check_kinds K = some () := by
  rw [ok_iff]
  unfold m_check_kinds b_check_kinds
  (try simp only [ok_some, ok_none, ok_bind, ok_lift1, ok_lift2, ok_lift3, ok_lift4, ok_bind2, ok_app1, ok_app2, ok_app3, ok_app4, ok_bif, ok_andG, ok_orG, ok_chain, ok_bindOut, bo_nx, bo_rt, bo_bk, bo_ct, ok_finO, fo_nx, fo_rt, nx_nx, nx_rt, ok_mul, ok_mod, ok_div, ok_appG, ok_szG, ok_catG, decide_eq_true_eq, decide_eq_false_iff_not, Bool.not_eq_true', Bool.not_eq_false', cLe, cLt, reduceCtorEq, false_implies, true_implies, implies_true, and_true, true_and])
  have l := h.l
  refine ⟨fun _ => ⟨fun c => by omega, fun _ => ok_for (fun _ _ => True) trivial (fun i s y hy _ => ?_) fun s _ => by (try simp only [ok_some, ok_none, ok_bind, ok_lift1, ok_lift2, ok_lift3, ok_lift4, ok_bind2, ok_app1, ok_app2, ok_app3, ok_app4, ok_bif, ok_andG, ok_orG, ok_chain, ok_bindOut, bo_nx, bo_rt, bo_bk, bo_ct, ok_finO, fo_nx, fo_rt, nx_nx, nx_rt, ok_mul, ok_mod, ok_div, ok_appG, ok_szG, ok_catG, decide_eq_true_eq, decide_eq_false_iff_not, Bool.not_eq_true', Bool.not_eq_false', cLe, cLt, reduceCtorEq, false_implies, true_implies, implies_true, and_true, true_and])⟩, fun c => by omega⟩
  obtain ⟨e1, e2⟩ := enum_at hy
  have ym := List.mem_of_getElem? e2
  have b := h.b _ ym
  (try simp only [ok_some, ok_none, ok_bind, ok_lift1, ok_lift2, ok_lift3, ok_lift4, ok_bind2, ok_app1, ok_app2, ok_app3, ok_app4, ok_bif, ok_andG, ok_orG, ok_chain, ok_bindOut, bo_nx, bo_rt, bo_bk, bo_ct, ok_finO, fo_nx, fo_rt, nx_nx, nx_rt, ok_mul, ok_mod, ok_div, ok_appG, ok_szG, ok_catG, decide_eq_true_eq, decide_eq_false_iff_not, Bool.not_eq_true', Bool.not_eq_false', cLe, cLt, reduceCtorEq, false_implies, true_implies, implies_true, and_true, true_and])
  refine ⟨fun _ => ⟨fun c => by omega, fun _ => ⟨fun _ => ⟨fun c => by omega, fun _ m => ?_⟩, fun c => by omega⟩⟩, fun c => by omega⟩
  have hi := (List.getElem?_eq_some_iff.mp e2).1
  have m : y.b ∈ cutL K none (some y.a) := m
  rw [e1, cut_to (by omega)] at m
  obtain ⟨j, hj⟩ := List.mem_iff_getElem?.mp m
  have lj : j < i := by
    have := (List.getElem?_eq_some_iff.mp hj).1
    rw [List.length_take] at this; omega
  rw [List.getElem?_take_of_lt lj] at hj
  obtain ⟨l1, g1⟩ := List.getElem?_eq_some_iff.mp hj
  obtain ⟨l2, g2⟩ := List.getElem?_eq_some_iff.mp e2
  have := (List.getElem_inj h.n).mp (g1.trans g2.symm)
  omega
theorem setD {α : Type} {l : List α} {i : Nat} {x : α} (h : i < l.length) : setG l (i : Int) x = some (l.set i x) := by
  unfold setG ixN
  rw [if_pos (by omega), if_pos (by omega)]; rfl

def stepsOf (K : List Z2) (T : Z2) : List Z2 := ⟨1, T.b⟩ :: (K.filter fun y => !decide (y = T)).map fun y => ⟨y.a, T.b * y.a - T.a * y.b⟩
theorem steps_st {K : List Z2} (h : KOk K) {T : Z2} (t : Top K T) : St T.a (stepsOf K T) := by
  have bT := h.b T t.m
  refine ⟨by omega, fun s hs => ?_, T.b, by simp [stepsOf]⟩
  unfold stepsOf at hs
  rcases List.mem_cons.mp hs with e | e
  · subst e; exact ⟨Int.le_refl _, bT.2.1⟩
  · obtain ⟨y, hy, e⟩ := List.mem_map.mp e
    have ym := (List.mem_filter.mp hy).1
    have by' := h.b y ym
    have := t.r y ym
    subst e
    refine ⟨by'.1.1, ?_⟩
    show 0 ≤ T.b * y.a - T.a * y.b
    rw [Int.mul_comm T.a]; omega
theorem steps_top {K : List Z2} (h : KOk K) {T : Z2} (t : Top K T) : ∀ s, s ∈ stepsOf K T → s.a ≤ 40 ∧ s.b ≤ 8000 := fun s hs => by
  have bT := h.b T t.m
  unfold stepsOf at hs
  rcases List.mem_cons.mp hs with e | e
  · subst e; exact ⟨by show (1 : Int) ≤ 40; decide, by show T.b ≤ 8000; omega⟩
  · obtain ⟨y, hy, e⟩ := List.mem_map.mp e
    have ym := (List.mem_filter.mp hy).1
    have by' := h.b y ym
    subst e
    refine ⟨by'.1.2, ?_⟩
    show T.b * y.a - T.a * y.b ≤ 8000
    have n := Int.mul_nonneg (show 0 ≤ T.a by omega) by'.2.1
    have m1 := Int.mul_le_mul_of_nonneg_right bT.2.2 (show 0 ≤ y.a by omega)
    have m2 := Int.mul_le_mul_of_nonneg_left by'.1.2 (show (0 : Int) ≤ 200 by decide)
    omega
/-! ### the losses -/
theorem losses_of_eq {K : List Z2} (h : KOk K) {F : Int → Z2} (b : Best (topF K).a (stepsOf K (topF K)) F) : m_losses_of K = some ((rngL 0 (topF K).a.toNat).map fun r => some (F r)) := by
  have t := top_ok h
  have st' := steps_st h t
  have top := steps_top h t
  have bT := h.b _ t.m
  have l := h.l
  rw [ok_iff]
  unfold m_losses_of b_losses_of
  (try simp only [ok_some, ok_none, ok_bind, ok_lift1, ok_lift2, ok_lift3, ok_lift4, ok_bind2, ok_app1, ok_app2, ok_app3, ok_app4, ok_bif, ok_andG, ok_orG, ok_chain, ok_bindOut, bo_nx, bo_rt, bo_bk, bo_ct, ok_finO, fo_nx, fo_rt, nx_nx, nx_rt, ok_mul, ok_mod, ok_div, ok_appG, ok_szG, ok_catG, decide_eq_true_eq, decide_eq_false_iff_not, Bool.not_eq_true', Bool.not_eq_false', cLe, cLt, reduceCtorEq, false_implies, true_implies, implies_true, and_true, true_and])
  have sl : (stepsOf K (topF K)).length ≤ 7 := by
    unfold stepsOf
    rw [List.length_cons, List.length_map]
    have := List.length_filter_le (fun y => !decide (y = topF K)) K
    omega
  refine ok_of (best_of_eq h) ⟨by simp, ?_⟩
  refine ok_lc (fun y => !decide (y = topF K)) (fun y : Z2 => ⟨y.a, (topF K).b * y.a - (topF K).a * y.b⟩) (fun x hx => rfl) (fun x hx _ => ?_) ?_
  · have bx := h.b x hx
    rw [ok_iff]
    (try simp only [ok_some, ok_none, ok_bind, ok_lift1, ok_lift2, ok_lift3, ok_lift4, ok_bind2, ok_app1, ok_app2, ok_app3, ok_app4, ok_bif, ok_andG, ok_orG, ok_chain, ok_bindOut, bo_nx, bo_rt, bo_bk, bo_ct, ok_finO, fo_nx, fo_rt, nx_nx, nx_rt, ok_mul, ok_mod, ok_div, ok_appG, ok_szG, ok_catG, decide_eq_true_eq, decide_eq_false_iff_not, Bool.not_eq_true', Bool.not_eq_false', cLe, cLt, reduceCtorEq, false_implies, true_implies, implies_true, and_true, true_and])
    exact ⟨mulOk (by omega) (by omega), mulOk (by omega) (by omega)⟩
  have eS : [(⟨1, (topF K).b⟩ : Z2)] ++ (K.filter fun y => !decide (y = topF K)).map (fun y : Z2 => (⟨y.a, (topF K).b * y.a - (topF K).a * y.b⟩ : Z2)) = stepsOf K (topF K) := rfl
  rw [← List.length_append, eS]
  generalize topF K = T at *
  generalize stepsOf K T = S at *
  generalize hU : T.a = U at *
  have rp : repG [(none : Option Z2)] U = some (List.replicate U.toNat none) := repG_of (by omega) (by omega)
  have s0 : setG (List.replicate U.toNat (none : Option Z2)) 0 (some ⟨0, 0⟩) = some ((List.replicate U.toNat (none : Option Z2)).set 0 (some ⟨0, 0⟩)) := setD (i := 0) (by rw [List.length_replicate]; omega)
  refine ⟨by omega, by simp, ok_of rp (ok_of s0 ?_)⟩
  have J0 : J U S ((List.replicate U.toNat (none : Option Z2)).set 0 (some ⟨0, 0⟩)) := by
    refine ⟨by rw [List.length_set, List.length_replicate], fun r x r0 r1 e => ?_, ?_⟩
    · by_cases c : r.toNat = 0
      · rw [c, List.getElem?_set_self (by rw [List.length_replicate]; omega)] at e
        cases e
        exact ⟨.z, by show (0 : Int) % U = r; rw [Int.zero_emod]; omega⟩
      · rw [List.getElem?_set_ne (by omega), List.getElem?_replicate] at e
        split at e <;> cases e
    · rw [List.getElem?_set_self (by rw [List.length_replicate]; omega)]
  have l0 := J0.l
  generalize (List.replicate U.toNat (none : Option Z2)).set 0 (some ⟨0, 0⟩) = f00 at J0 l0 ⊢
  refine ok_while (fun s => J U S s.1 ∧ (s.2 = false → AllS U F s.1)) (fun s => unset U F s.1 + (if s.2 = true then 1 else 0)) (fun s hs => ?_) _ _ ⟨J0, by simp⟩ ?_
  · obtain ⟨jf, hs2⟩ := hs
    refine ok_of rfl ⟨fun ec => ?_, fun ec => ?_⟩
    · (try simp only [ok_some, ok_none, ok_bind, ok_lift1, ok_lift2, ok_lift3, ok_lift4, ok_bind2, ok_app1, ok_app2, ok_app3, ok_app4, ok_bif, ok_andG, ok_orG, ok_chain, ok_bindOut, bo_nx, bo_rt, bo_bk, bo_ct, ok_finO, fo_nx, fo_rt, nx_nx, nx_rt, ok_mul, ok_mod, ok_div, ok_appG, ok_szG, ok_catG, decide_eq_true_eq, decide_eq_false_iff_not, Bool.not_eq_true', Bool.not_eq_false', cLe, cLt, reduceCtorEq, false_implies, true_implies, implies_true, and_true, true_and])
      refine ok_of (rng1_of (by omega) (by omega)) (ok_for (fun i (t : List (Option Z2) × Bool) => J U S t.1 ∧ Mv U s.1 t.1 ∧ (t.2 = false → t.1 = s.1) ∧ (t.2 = true → ¬ AllS U F s.1) ∧ ∀ p, 0 ≤ p → p < (i : Int) → Stl F s.1 p → ∀ st, st ∈ S → ∃ y, t.1[((p + st.a) % U).toNat]? = some (some y) ∧ leP y (adP (F p) st))
        ⟨jf, Mv.refl U _, fun _ => rfl, (fun k => nomatch k), fun p p0 p1 => by omega⟩ (fun i t y hy ht => ?_) fun t ht => ?_)
      · obtain ⟨hi, rfl⟩ := rng_get hy
        obtain ⟨jt, mt, t1, t2, t3⟩ := ht
        obtain ⟨v, hv, hv2, _⟩ := atI_nat' (l := t.1) (i := 0 + (i : Int)) (by omega) (by have := jt.l; omega)
        rw [show (0 + (i : Int)).toNat = i by omega] at hv2
        rw [Int.zero_add] at hv ⊢
        (try simp only [ok_some, ok_none, ok_bind, ok_lift1, ok_lift2, ok_lift3, ok_lift4, ok_bind2, ok_app1, ok_app2, ok_app3, ok_app4, ok_bif, ok_andG, ok_orG, ok_chain, ok_bindOut, bo_nx, bo_rt, bo_bk, bo_ct, ok_finO, fo_nx, fo_rt, nx_nx, nx_rt, ok_mul, ok_mod, ok_div, ok_appG, ok_szG, ok_catG, decide_eq_true_eq, decide_eq_false_iff_not, Bool.not_eq_true', Bool.not_eq_false', cLe, cLt, reduceCtorEq, false_implies, true_implies, implies_true, and_true, true_and])
        refine ok_of hv ⟨fun c => ?_, fun c => ?_⟩
        · cases v with
          | none => simp at c
          | some x =>
            obtain ⟨ax, ex⟩ := jt.a (i : Int) x (by omega) (by omega) (by rw [Int.toNat_natCast]; exact hv2)
            refine ok_of hv ?_
            (try simp only [ok_some, ok_none, ok_bind, ok_lift1, ok_lift2, ok_lift3, ok_lift4, ok_bind2, ok_app1, ok_app2, ok_app3, ok_app4, ok_bif, ok_andG, ok_orG, ok_chain, ok_bindOut, bo_nx, bo_rt, bo_bk, bo_ct, ok_finO, fo_nx, fo_rt, nx_nx, nx_rt, ok_mul, ok_mod, ok_div, ok_appG, ok_szG, ok_catG, decide_eq_true_eq, decide_eq_false_iff_not, Bool.not_eq_true', Bool.not_eq_false', cLe, cLt, reduceCtorEq, false_implies, true_implies, implies_true, and_true, true_and, id])
            refine ok_for (fun k (w : List (Option Z2) × Bool) => J U S w.1 ∧ Mv U t.1 w.1 ∧ (w.2 = false → w.1 = t.1 ∧ t.2 = false) ∧ (w.2 = true → t.2 = true ∨ ¬ AllS U F s.1) ∧ ∀ q st, q < k → S[q]? = some st → ∃ y, w.1[(((i : Int) + st.a) % U).toNat]? = some (some y) ∧ leP y (adP x st))
              ⟨jt, Mv.refl U _, fun e => ⟨rfl, e⟩, fun e => .inl e, fun q st hq => by omega⟩ (fun k w st hst hw => ?_) fun w hw => ?_
            · obtain ⟨jw, mw, w1, w2, w3⟩ := hw
              have sm := List.mem_of_getElem? hst
              have sb := st'.s st sm
              have tb := top st sm
              obtain ⟨th0, th1⟩ := mod_b (x := (i : Int) + st.a) (U := U) (by omega)
              have an : Ach S (adP x st) := .s ax sm
              have en : (adP x st).b % U = ((i : Int) + st.a) % U := by show (x.b + st.a) % U = _; rw [mod_add ex]
              have js := jw.set st' ax ex sm
              have nn := ach_nn st' an
              obtain ⟨o, ho, ho2, _⟩ := atI_nat' (l := w.1) (i := ((i : Int) + st.a) % U) (by omega) (by have := jw.l; omega)
              have yes : (∀ z, o = some z → ltP (adP x st) z) → J U S (w.1.set (((i : Int) + st.a) % U).toNat (some (adP x st))) ∧ Mv U t.1 (w.1.set (((i : Int) + st.a) % U).toNat (some (adP x st))) ∧ ¬ AllS U F s.1 ∧ ∀ (q : Nat) (st' : Z2), q < k + 1 → S[q]? = some st' → ∃ y, (w.1.set (((i : Int) + st.a) % U).toNat (some (adP x st)))[(((i : Int) + st'.a) % U).toNat]? = some (some y) ∧ leP y (adP x st') := fun hz => by
                have nz : ((i : Int) + st.a) % U ≠ 0 := fun c0 => by
                  rw [c0] at ho2
                  have z := jw.z
                  rw [show (0 : Int).toNat = 0 from rfl, z] at ho2
                  cases ho2
                  have := hz _ rfl
                  unfold ltP at this
                  have a1 : (adP x st).a < 0 ∨ ((adP x st).a = 0 ∧ (adP x st).b < 0) := this
                  omega
                have j2 := js.resolve_right nz
                have m2 : Mv U w.1 (w.1.set (((i : Int) + st.a) % U).toNat (some (adP x st))) := fun r y r0 r1 e => by
                  by_cases c : r = ((i : Int) + st.a) % U
                  · subst c
                    rw [ho2] at e
                    cases e
                    refine ⟨_, List.getElem?_set_self (by have := jw.l; omega), ?_⟩
                    have := hz y rfl
                    unfold ltP leP at *
                    omega
                  · exact ⟨y, by rw [List.getElem?_set_ne (by omega)]; exact e, leP_refl y⟩
                refine ⟨j2, mw.tr m2, fun al => ?_, fun q st2 hq eq => ?_⟩
                · have sw := stl_mv b jw (mt.tr mw) th0 th1 (al _ th0 th1)
                  unfold Stl at sw
                  rw [ho2] at sw
                  have sw := Option.some.inj sw
                  have l1 := hz _ sw
                  have l2 := (b _ th0 th1).2.2 _ an en
                  exact (ltP_iff.mp l1) l2
                · by_cases c : q = k
                  · subst c
                    rw [hst] at eq
                    cases eq
                    exact ⟨_, List.getElem?_set_self (by have := jw.l; omega), leP_refl _⟩
                  · obtain ⟨y, ey, ly⟩ := w3 q st2 (by omega) eq
                    have q2 := mod_b (x := (i : Int) + st2.a) (U := U) (by omega)
                    obtain ⟨y2, ey2, ly2⟩ := m2 _ y q2.1 q2.2 ey
                    exact ⟨y2, ey2, leP_tr ly2 ly⟩
              have no : ∀ z, o = some z → ¬ ltP (adP x st) z → ∀ (q : Nat) (st' : Z2), q < k + 1 → S[q]? = some st' → ∃ y, w.1[(((i : Int) + st'.a) % U).toNat]? = some (some y) ∧ leP y (adP x st') := fun z ez nl q st2 hq eq => by
                by_cases c : q = k
                · subst c
                  rw [hst] at eq
                  cases eq
                  exact ⟨z, by rw [ho2, ez], Classical.byContradiction fun d => nl (ltP_iff.mpr d)⟩
                · exact w3 q st2 (by omega) eq
              have set1 : setG w.1 (((i : Int) + st.a) % U) (some (adP x st)) = some (w.1.set (((i : Int) + st.a) % U).toNat (some (adP x st))) := by
                have := setD (l := w.1) (i := (((i : Int) + st.a) % U).toNat) (x := some (adP x st)) (by have := jw.l; omega)
                rw [Int.toNat_of_nonneg th0] at this
                exact this
              have ea : (⟨x.a + st.b, x.b + st.a⟩ : Z2) = adP x st := rfl
              have up : (∀ z, o = some z → ltP (adP x st) z) → Ok (setG w.1 (((i : Int) + st.a) % U) (some (adP x st))) fun x_2 => J U S x_2 ∧ Mv U t.1 x_2 ∧ (t.2 = true ∨ ¬ AllS U F s.1) ∧ ∀ (q : Nat) (st : Z2), q < k + 1 → S[q]? = some st → ∃ y, x_2[(((i : Int) + st.a) % U).toNat]? = some (some y) ∧ leP y (adP x st) := fun hz => by
                obtain ⟨y1, y2, y3, y4⟩ := yes hz
                exact ok_of set1 ⟨y1, y2, .inr y3, y4⟩
              (try simp only [ok_some, ok_none, ok_bind, ok_lift1, ok_lift2, ok_lift3, ok_lift4, ok_bind2, ok_app1, ok_app2, ok_app3, ok_app4, ok_bif, ok_andG, ok_orG, ok_chain, ok_bindOut, bo_nx, bo_rt, bo_bk, bo_ct, ok_finO, fo_nx, fo_rt, nx_nx, nx_rt, ok_mul, ok_mod, ok_div, ok_appG, ok_szG, ok_catG, decide_eq_true_eq, decide_eq_false_iff_not, Bool.not_eq_true', Bool.not_eq_false', cLe, cLt, reduceCtorEq, false_implies, true_implies, implies_true, and_true, true_and, id])
              refine ⟨by omega, ok_of ho ⟨fun c1 => up fun z ez => ?_, fun c1 => ok_of ho ?_⟩⟩
              · subst ez; cases c1
              · cases o with
                | none => cases c1
                | some z =>
                  refine ok_of rfl ⟨fun c2 => up fun z' ez => ?_, fun c2 => ⟨jw, mw, w1, w2, no z rfl ?_⟩⟩
                  · cases ez
                    rw [ea, ltD_eq] at c2
                    simpa using c2
                  · rw [ea, ltD_eq] at c2
                    simpa using c2
            · obtain ⟨jw, mw, w1, w2, w3⟩ := hw
              (try simp only [ok_some, ok_none, ok_bind, ok_lift1, ok_lift2, ok_lift3, ok_lift4, ok_bind2, ok_app1, ok_app2, ok_app3, ok_app4, ok_bif, ok_andG, ok_orG, ok_chain, ok_bindOut, bo_nx, bo_rt, bo_bk, bo_ct, ok_finO, fo_nx, fo_rt, nx_nx, nx_rt, ok_mul, ok_mod, ok_div, ok_appG, ok_szG, ok_catG, decide_eq_true_eq, decide_eq_false_iff_not, Bool.not_eq_true', Bool.not_eq_false', cLe, cLt, reduceCtorEq, false_implies, true_implies, implies_true, and_true, true_and])
              refine ⟨jw, mt.tr mw, fun e => ?_, fun e => ?_, fun p p0 p1 sp st hs => ?_⟩
              · obtain ⟨e1, e2⟩ := w1 e
                rw [e1]; exact t1 e2
              · rcases w2 e with z | z
                · exact t2 z
                · exact z
              · by_cases cp : p = (i : Int)
                · subst cp
                  have sx := stl_mv b jt mt p0 (by omega) sp
                  unfold Stl at sx
                  rw [Int.toNat_natCast, hv2] at sx
                  have sx := Option.some.inj (Option.some.inj sx)
                  obtain ⟨q, hq⟩ := List.mem_iff_getElem?.mp hs
                  obtain ⟨y, ey, ly⟩ := w3 q st (List.getElem?_eq_some_iff.mp hq).1 hq
                  exact ⟨y, ey, by rw [← sx]; exact ly⟩
                · obtain ⟨y, ey, ly⟩ := t3 p p0 (by omega) sp st hs
                  have q2 := mod_b (x := p + st.a) (U := U) (by omega)
                  obtain ⟨y2, ey2, ly2⟩ := mw _ y q2.1 q2.2 ey
                  exact ⟨y2, ey2, leP_tr ly2 ly⟩
        · cases v with
          | some x => simp at c
          | none =>
            refine ⟨jt, mt, t1, t2, fun p p0 p1 sp st hs => ?_⟩
            by_cases cp : p = (i : Int)
            · subst cp
              have sx := stl_mv b jt mt p0 (by omega) sp
              unfold Stl at sx
              rw [Int.toNat_natCast, hv2] at sx
              cases sx
            · exact t3 p p0 (by omega) sp st hs
      · obtain ⟨jt, mt, t1, t2, t3⟩ := ht
        rw [rng_len] at t3
        have rx : Rlx U S F s.1 t.1 := fun p p0 p1 sp st hs => t3 p p0 (by omega) sp st hs
        (try simp only [ok_some, ok_none, ok_bind, ok_lift1, ok_lift2, ok_lift3, ok_lift4, ok_bind2, ok_app1, ok_app2, ok_app3, ok_app4, ok_bif, ok_andG, ok_orG, ok_chain, ok_bindOut, bo_nx, bo_rt, bo_bk, bo_ct, ok_finO, fo_nx, fo_rt, nx_nx, nx_rt, ok_mul, ok_mod, ok_div, ok_appG, ok_szG, ok_catG, decide_eq_true_eq, decide_eq_false_iff_not, Bool.not_eq_true', Bool.not_eq_false', cLe, cLt, reduceCtorEq, false_implies, true_implies, implies_true, and_true, true_and])
        have lt : ¬ AllS U F s.1 → unset U F t.1 < unset U F s.1 := fun n => sweep st' b jf jt mt rx n
        have ec : s.2 = true := ec
        refine ⟨⟨jt, fun e => ?_⟩, ?_⟩
        · rw [t1 e]
          exact Classical.byContradiction fun n => by
            have := lt n
            rw [t1 e] at this; omega
        · rw [if_pos ec]
          by_cases e : t.2 = true
          · have := lt (t2 e)
            rw [if_pos e]; omega
          · rw [if_neg e, t1 (by simpa using e)]; omega
    · (try simp only [ok_some, ok_none, ok_bind, ok_lift1, ok_lift2, ok_lift3, ok_lift4, ok_bind2, ok_app1, ok_app2, ok_app3, ok_app4, ok_bif, ok_andG, ok_orG, ok_chain, ok_bindOut, bo_nx, bo_rt, bo_bk, bo_ct, ok_finO, fo_nx, fo_rt, nx_nx, nx_rt, ok_mul, ok_mod, ok_div, ok_appG, ok_szG, ok_catG, decide_eq_true_eq, decide_eq_false_iff_not, Bool.not_eq_true', Bool.not_eq_false', cLe, cLt, reduceCtorEq, false_implies, true_implies, implies_true, and_true, true_and])
      have al := hs2 ec
      refine List.ext_getElem? fun i => ?_
      by_cases c : i < U.toNat
      · have := al (i : Int) (by omega) (by omega)
        unfold Stl at this
        rw [Int.toNat_natCast] at this
        rw [this, List.getElem?_map]
        unfold rngL
        rw [List.getElem?_map, List.getElem?_range c]
        show _ = some (some (F (0 + (i : Int))))
        rw [Int.zero_add]
      · rw [List.getElem?_eq_none (by rw [jf.l]; omega), List.getElem?_eq_none (by rw [List.length_map, rng_len]; omega)]
  · have := unset_le (U := U) (F := F) f00
    show unset U F f00 + (if true = true then 1 else 0) < f00.length + 2
    rw [if_pos rfl]; omega
end Lay.K17

set_option Elab.async false
set_option linter.all false
set_option maxRecDepth 100000
namespace Lay.K17
open PySem PySem.Spec PyProof.Rows L2 Lay
open Lay.Enc (enc)
theorem minL_ok {l : List Int} (h : l ≠ []) {P : Int → Prop} (hp : ∀ m, m ∈ l → (∀ x, x ∈ l → m ≤ x) → P m) : Ok (minL l) P := by
  cases l with
  | nil => exact absurd rfl h
  | cons x xs =>
    have e : minL (x :: xs) = some (xs.foldl (fun m y => if y < m then y else m) x) := rfl
    obtain ⟨h1, h2⟩ := minL_spec e
    exact ok_of e (hp _ h1 h2)

theorem maxL_okK {l : List Int} (h : l ≠ []) {P : Int → Prop} (hp : ∀ m, m ∈ l → (∀ x, x ∈ l → x ≤ m) → P m) : Ok (maxL l) P := by
  cases l with
  | nil => exact absurd rfl h
  | cons x xs =>
    obtain ⟨h1, h2⟩ := maxL_fold xs x
    exact ⟨_, rfl, hp _ h1 h2⟩
/-! ### the law's own losses -/
theorem minLD_fold : ∀ (xs : List Z2) (x : Z2), (xs.foldl (fun a y => if ltD y a = true then y else a) x) ∈ x :: xs ∧ ∀ y, y ∈ x :: xs → leP (xs.foldl (fun a y => if ltD y a = true then y else a) x) y
  | [], x => ⟨by simp, fun y hy => by have : y = x := by simpa using hy
                                      subst this; exact leP_refl _⟩
  | z :: xs, x => by
    rw [List.foldl_cons]
    by_cases c : ltD z x = true
    · rw [if_pos c]
      obtain ⟨h1, h2⟩ := minLD_fold xs z
      have lt : ltP z x := by rw [ltD_eq] at c; simpa using c
      refine ⟨by simp at h1 ⊢; exact .inr h1, fun y hy => ?_⟩
      rcases List.mem_cons.mp hy with e | e
      · subst e
        exact leP_tr (h2 z (by simp)) (by unfold ltP leP at *; omega)
      · exact h2 y e
    · rw [if_neg c]
      obtain ⟨h1, h2⟩ := minLD_fold xs x
      have lt : ¬ ltP z x := by rw [ltD_eq] at c; simpa using c
      refine ⟨by
        rcases List.mem_cons.mp h1 with e | e
        · rw [e]; simp
        · simp [e], fun y hy => ?_⟩
      rcases List.mem_cons.mp hy with e | e
      · subst e; exact h2 y (by simp)
      · rcases List.mem_cons.mp e with e | e
        · subst e
          exact leP_tr (h2 x (by simp)) (Classical.byContradiction fun d => lt (ltP_iff.mpr d))
        · exact h2 y (by simp [e])
theorem minLD_ok {l : List Z2} {m : Z2} (hm : m ∈ l) (h : ∀ x, x ∈ l → leP m x) : minLD l = some m := by
  cases l with
  | nil => cases hm
  | cons x xs =>
    obtain ⟨h1, h2⟩ := minLD_fold xs x
    exact congrArg some (leP_anti (h2 m hm) (h _ h1))
def ownS (K : List Z2) (T : Z2) : List Z2 := ⟨1, 0⟩ :: K.filter fun y => !decide (y = T)
def lossF (T y : Z2) : Z2 := ⟨y.a, T.b * y.a - T.a * y.b⟩
theorem own_steps (K : List Z2) (T : Z2) : (ownS K T).map (lossF T) = stepsOf K T := by
  unfold ownS stepsOf
  rw [List.map_cons]
  congr 1
  exact z2_ext rfl (by show T.b * 1 - T.a * 0 = T.b; omega)
def LS (S : List Z2) (l : List Int) : Prop := ∀ (s : Nat) v, l[s]? = some v → Ach S ⟨v, s⟩ ∧ ∀ y, Ach S y → y.b = s → v ≤ y.a
theorem mem_rngC {r U m x : Int} (hU : 0 < U) (hr : 0 ≤ r) : x ∈ rngC r U (Builtin.Range.rangeSize r m U).toNat ↔ r ≤ x ∧ x < m ∧ x % U = r % U := by
  unfold rngC Builtin.Range.rangeSize
  rw [if_pos (show U > 0 from hU), List.mem_map]
  constructor
  · rintro ⟨i, hi, e⟩
    have hi := List.mem_range.mp hi
    split at hi
    · have k : (i : Int) ≤ (m - r - 1) / U := by omega
      have := Int.mul_le_of_le_ediv hU k
      have n := Int.mul_nonneg (show 0 ≤ (i : Int) by omega) (Int.le_of_lt hU)
      refine ⟨by omega, by omega, ?_⟩
      rw [← e, Int.add_mul_emod_self_right]
    · simp at hi
  · rintro ⟨h1, h2, e⟩
    have z : (x - r) % U = 0 := by rw [Int.sub_emod, e, Int.sub_self, Int.zero_emod]
    obtain ⟨j, hj⟩ := Int.dvd_of_emod_eq_zero z
    have j0 : 0 ≤ j := by
      by_cases c : 0 ≤ j
      · exact c
      · have := Int.mul_neg_of_pos_of_neg hU (show j < 0 by omega)
        omega
    have jl : j ≤ (m - r - 1) / U := Int.le_ediv_of_mul_le hU (by rw [Int.mul_comm]; omega)
    rw [if_pos (by omega)]
    refine ⟨j.toNat, List.mem_range.mpr (by omega), ?_⟩
    rw [Int.toNat_of_nonneg j0, Int.mul_comm]; omega
theorem law_losses_eq {K : List Z2} (h : KOk K) {F : Int → Z2} (b : Best (topF K).a (stepsOf K (topF K)) F) : m__law_losses K (topF K) = some ((rngL 0 (topF K).a.toNat).map F) := by
  have t := top_ok h
  have st' := steps_st h t
  have top := steps_top h t
  have bT := h.b _ t.m
  have l := h.l
  have os := own_steps K (topF K)
  have sl : (ownS K (topF K)).length ≤ 7 := by
    unfold ownS
    rw [List.length_cons]
    have := List.length_filter_le (fun y => !decide (y = topF K)) K
    omega
  have sb : ∀ y, y ∈ ownS K (topF K) → (1 ≤ y.a ∧ y.a ≤ 40) ∧ (0 ≤ y.b ∧ y.b ≤ 200) := fun y hy => by
    unfold ownS at hy
    rcases List.mem_cons.mp hy with e | e
    · subst e; exact ⟨by decide, by decide⟩
    · exact h.b y (List.mem_filter.mp e).1
  have one : (⟨1, 0⟩ : Z2) ∈ ownS K (topF K) := by simp [ownS]
  have eO : [(⟨1, 0⟩ : Z2)] ++ (K.filter fun y => !decide (y = topF K)) = ownS K (topF K) := rfl
  rw [ok_iff]
  unfold m__law_losses b__law_losses
  (try simp only [ok_some, ok_none, ok_bind, ok_lift1, ok_lift2, ok_lift3, ok_lift4, ok_bind2, ok_app1, ok_app2, ok_app3, ok_app4, ok_bif, ok_andG, ok_orG, ok_chain, ok_bindOut, bo_nx, bo_rt, bo_bk, bo_ct, ok_finO, fo_nx, fo_rt, nx_nx, nx_rt, ok_mul, ok_mod, ok_div, ok_appG, ok_szG, ok_catG, decide_eq_true_eq, decide_eq_false_iff_not, Bool.not_eq_true', Bool.not_eq_false', cLe, cLt, reduceCtorEq, false_implies, true_implies, implies_true, and_true, true_and])
  refine ⟨by simp, ok_filter (fun y => !decide (y = topF K)) (fun x hx => rfl) ?_⟩
  rw [← List.length_append, eO]
  generalize topF K = T at *
  generalize ownS K T = O at *
  generalize stepsOf K T = S at *
  generalize hU : T.a = U at *
  refine ⟨by omega, ok_map T2.a (fun _ _ => rfl) (maxL_okK (by intro c; rw [List.map_eq_nil_iff] at c; subst c; cases one) fun M hM mM => ?_)⟩
  have M1 : 1 ≤ M := mM _ (List.mem_map_of_mem one)
  have M2 : M ≤ 40 := by
    obtain ⟨y, hy, e⟩ := List.mem_map.mp hM
    have := sb y hy
    rw [← e]; omega
  have sM : ∀ s, s ∈ S → s.a ≤ M := fun s hs => by
    rw [← os] at hs
    obtain ⟨y, hy, e⟩ := List.mem_map.mp hs
    rw [← e]
    exact mM y.a (List.mem_map_of_mem hy)
  have bm : ∀ r, 0 ≤ r → r < U → (F r).b ≤ U * M := fun r r0 r1 => bulk_most st' b sM r0 r1
  have UM := Int.mul_le_mul_of_nonneg_right bT.1.2 (show 0 ≤ M by omega)
  have UM0 := Int.mul_nonneg (show 0 ≤ U by omega) (show 0 ≤ M by omega)
  have nz : ∀ (s : Nat) v, [(0 : Int)][s]? = some v → s = 0 ∧ v = 0 := fun s v e => by
    cases s with
    | zero => exact ⟨rfl, (Option.some.inj e).symm⟩
    | succ s => cases e
  refine ⟨mulOk (by omega) (by omega), by simp, ok_of (rng2_of (by decide) (by omega) (by decide) (by omega)) (ok_for (fun i l => l.length = i + 1 ∧ LS S l) ⟨rfl, fun s v e => ?_⟩ (fun i l y hy hl => ?_) fun l hl => ?_)⟩
  · obtain ⟨e1, e2⟩ := nz s v e
    subst e1 e2
    exact ⟨.z, fun y a _ => (ach_nn st' a).1⟩
  · obtain ⟨hi, rfl⟩ := rng_get hy
    obtain ⟨ll, ls⟩ := hl
    have get : ∀ y, y ∈ O → y.a ≤ 1 + (i : Int) → ∃ v, l[(1 + (i : Int) - y.a).toNat]? = some v ∧ atI l (1 + (i : Int) - y.a) = some v := fun y hy hle => by
      have := sb y hy
      obtain ⟨v, e1, e2, _⟩ := atI_nat' (l := l) (i := 1 + (i : Int) - y.a) (by omega) (by omega)
      exact ⟨v, e2, e1⟩
    (try simp only [ok_some, ok_none, ok_bind, ok_lift1, ok_lift2, ok_lift3, ok_lift4, ok_bind2, ok_app1, ok_app2, ok_app3, ok_app4, ok_bif, ok_andG, ok_orG, ok_chain, ok_bindOut, bo_nx, bo_rt, bo_bk, bo_ct, ok_finO, fo_nx, fo_rt, nx_nx, nx_rt, ok_mul, ok_mod, ok_div, ok_appG, ok_szG, ok_catG, decide_eq_true_eq, decide_eq_false_iff_not, Bool.not_eq_true', Bool.not_eq_false', cLe, cLt, reduceCtorEq, false_implies, true_implies, implies_true, and_true, true_and])
    refine ok_lc (fun y => decide (y.a ≤ 1 + (i : Int))) (fun y => (l.getD (1 + (i : Int) - y.a).toNat 0) + (T.b * y.a) - U * y.b) (fun _ _ => rfl) (fun y hy hle => ?_) ?_
    · have b1 := sb y hy
      obtain ⟨v, e1, e2⟩ := get y hy (by simpa using hle)
      rw [ok_iff]
      (try simp only [ok_some, ok_none, ok_bind, ok_lift1, ok_lift2, ok_lift3, ok_lift4, ok_bind2, ok_app1, ok_app2, ok_app3, ok_app4, ok_bif, ok_andG, ok_orG, ok_chain, ok_bindOut, bo_nx, bo_rt, bo_bk, bo_ct, ok_finO, fo_nx, fo_rt, nx_nx, nx_rt, ok_mul, ok_mod, ok_div, ok_appG, ok_szG, ok_catG, decide_eq_true_eq, decide_eq_false_iff_not, Bool.not_eq_true', Bool.not_eq_false', cLe, cLt, reduceCtorEq, false_implies, true_implies, implies_true, and_true, true_and])
      refine ok_of e2 ⟨mulOk (by omega) (by omega), mulOk (by omega) (by omega), ?_⟩
      rw [List.getD_eq_getElem?_getD, e1]; rfl
    · refine minL_ok ?_ fun m hm mm => ?_
      · intro c
        rw [List.map_eq_nil_iff, List.filter_eq_nil_iff] at c
        exact c _ one (by simp; omega)
      · obtain ⟨y, hy, em⟩ := List.mem_map.mp hm
        obtain ⟨yO, yl⟩ := List.mem_filter.mp hy
        obtain ⟨v, e1, e2⟩ := get y yO (by simpa using yl)
        have b1 := sb y yO
        have yl : y.a ≤ 1 + (i : Int) := by simpa using yl
        rw [List.getD_eq_getElem?_getD, e1] at em
        have em : v + T.b * y.a - U * y.b = m := em
        have lS : lossF T y ∈ S := by rw [← os]; exact List.mem_map_of_mem yO
        refine ⟨by omega, by simp; omega, fun s w ew => ?_⟩
        by_cases c : s < l.length
        · rw [List.getElem?_append_left c] at ew
          exact ls s w ew
        · have c2 : s = l.length := by
            have := (List.getElem?_eq_some_iff.mp ew).1
            simp at this; omega
          rw [c2, List.getElem?_append_right (Nat.le_refl _), Nat.sub_self] at ew
          cases ew
          refine ⟨?_, fun z az ez => ?_⟩
          · obtain ⟨a, _⟩ := ls _ v e1
            have a2 := Ach.s a lS
            have e : adP ⟨v, (((1 + (i : Int) - y.a).toNat : Nat) : Int)⟩ (lossF T y) = ⟨m, (l.length : Nat)⟩ := z2_ext (by show v + (T.b * y.a - T.a * y.b) = m; rw [hU]; omega) (by show (((1 + (i : Int) - y.a).toNat : Nat) : Int) + y.a = ((l.length : Nat) : Int); omega)
            rw [c2, ← e]; exact a2
          · cases az with
            | z =>
              have ez : (0 : Int) = s := ez
              omega
            | @s x st ax hst =>
              have ez : x.b + st.a = s := ez
              have nn := ach_nn st' ax
              have hst' := hst
              rw [← os] at hst'
              obtain ⟨y2, hy2, est⟩ := List.mem_map.mp hst'
              have ea : y2.a = st.a := by rw [← est]; rfl
              have eb : T.b * y2.a - T.a * y2.b = st.b := by rw [← est]; rfl
              rw [hU] at eb
              have le2 : y2.a ≤ 1 + (i : Int) := by omega
              obtain ⟨v2, f1, f2⟩ := get y2 hy2 le2
              have q := (ls _ v2 f1).2 x ax (by omega)
              have k := mm _ (List.mem_map.mpr ⟨y2, List.mem_filter.mpr ⟨hy2, by simpa using le2⟩, rfl⟩)
              rw [List.getD_eq_getElem?_getD, f1] at k
              have k : m ≤ v2 + T.b * y2.a - U * y2.b := k
              show m ≤ x.a + st.b
              omega
  · obtain ⟨ll, ls⟩ := hl
    rw [rng_len] at ll
    (try simp only [ok_some, ok_none, ok_bind, ok_lift1, ok_lift2, ok_lift3, ok_lift4, ok_bind2, ok_app1, ok_app2, ok_app3, ok_app4, ok_bif, ok_andG, ok_orG, ok_chain, ok_bindOut, bo_nx, bo_rt, bo_bk, bo_ct, ok_finO, fo_nx, fo_rt, nx_nx, nx_rt, ok_mul, ok_mod, ok_div, ok_appG, ok_szG, ok_catG, decide_eq_true_eq, decide_eq_false_iff_not, Bool.not_eq_true', Bool.not_eq_false', cLe, cLt, reduceCtorEq, false_implies, true_implies, implies_true, and_true, true_and])
    refine ⟨by simp, ok_of (rng1_of (by omega) (by omega)) (ok_for (fun i s => s = ((rngL 0 U.toNat).take i).map F) rfl (fun i s y hy hs => ?_) fun s hs => ?_)⟩
    · have ty := take1 hy
      obtain ⟨hi, rfl⟩ := rng_get hy
      subst hs
      rw [ty, List.map_append]
      rw [Int.zero_add] at *
      have r3 : rng3 (i : Int) (U * M + 1 + 1) U = some (rngC (i : Int) U (Builtin.Range.rangeSize (i : Int) (U * M + 1 + 1) U).toNat) := if_pos (by omega)
      have get : ∀ x, x ∈ rngC (i : Int) U (Builtin.Range.rangeSize (i : Int) (U * M + 1 + 1) U).toNat → ∃ v, l[x.toNat]? = some v ∧ atI l x = some v ∧ (i : Int) ≤ x ∧ x % U = (i : Int) := fun x hx => by
        obtain ⟨x1, x2, x3⟩ := (mem_rngC (by omega) (by omega)).mp hx
        obtain ⟨v, e1, e2, _⟩ := atI_nat' (l := l) (i := x) (by omega) (by omega)
        exact ⟨v, e2, e1, x1, by rw [x3, Int.emod_eq_of_lt (by omega) (by omega)]⟩
      obtain ⟨fa, fb, fm⟩ := b (i : Int) (by omega) (by omega)
      have nn := ach_nn st' fa
      have bi := bm (i : Int) (by omega) (by omega)
      (try simp only [ok_some, ok_none, ok_bind, ok_lift1, ok_lift2, ok_lift3, ok_lift4, ok_bind2, ok_app1, ok_app2, ok_app3, ok_app4, ok_bif, ok_andG, ok_orG, ok_chain, ok_bindOut, bo_nx, bo_rt, bo_bk, bo_ct, ok_finO, fo_nx, fo_rt, nx_nx, nx_rt, ok_mul, ok_mod, ok_div, ok_appG, ok_szG, ok_catG, decide_eq_true_eq, decide_eq_false_iff_not, Bool.not_eq_true', Bool.not_eq_false', cLe, cLt, reduceCtorEq, false_implies, true_implies, implies_true, and_true, true_and])
      have r3' : bind3 rng3 (some (i : Int)) (some (U * M + 1 + 1)) (some U) = some (rngC (i : Int) U (Builtin.Range.rangeSize (i : Int) (U * M + 1 + 1) U).toNat) := r3
      refine ok_of r3' (ok_map (fun x => (⟨l.getD x.toNat 0, x⟩ : Z2)) (fun x hx => ?_) (ok_of (minLD_ok (m := F (i : Int)) ?_ fun x hx => ?_) ?_))
      · obtain ⟨v, e1, e2, _⟩ := get x hx
        rw [ok_iff]
        (try simp only [ok_some, ok_none, ok_bind, ok_lift1, ok_lift2, ok_lift3, ok_lift4, ok_bind2, ok_app1, ok_app2, ok_app3, ok_app4, ok_bif, ok_andG, ok_orG, ok_chain, ok_bindOut, bo_nx, bo_rt, bo_bk, bo_ct, ok_finO, fo_nx, fo_rt, nx_nx, nx_rt, ok_mul, ok_mod, ok_div, ok_appG, ok_szG, ok_catG, decide_eq_true_eq, decide_eq_false_iff_not, Bool.not_eq_true', Bool.not_eq_false', cLe, cLt, reduceCtorEq, false_implies, true_implies, implies_true, and_true, true_and])
        refine ok_of e2 ?_
        rw [List.getD_eq_getElem?_getD, e1]; rfl
      · have mem : (F (i : Int)).b ∈ rngC (i : Int) U (Builtin.Range.rangeSize (i : Int) (U * M + 1 + 1) U).toNat := by
          refine (mem_rngC (by omega) (by omega)).mpr ⟨?_, by omega, by rw [fb, Int.emod_eq_of_lt (by omega) (by omega)]⟩
          have e1 := Int.emod_add_mul_ediv (F (i : Int)).b U
          have e2 := Int.mul_nonneg (show 0 ≤ U by omega) (Int.ediv_nonneg nn.2 (show 0 ≤ U by omega))
          omega
        refine List.mem_map.mpr ⟨_, mem, ?_⟩
        obtain ⟨v, e1, _⟩ := get _ mem
        obtain ⟨a1, a2⟩ := ls _ v e1
        have k := a2 _ fa (by omega)
        have k2 := fm _ a1 (by show (((F (i : Int)).b.toNat : Nat) : Int) % U = _; rw [Int.toNat_of_nonneg nn.2]; exact fb)
        rw [List.getD_eq_getElem?_getD, e1]
        refine z2_ext ?_ rfl
        show v = (F (i : Int)).a
        unfold leP at k2
        have k2 : (F (i : Int)).a < v ∨ ((F (i : Int)).a = v ∧ _) := k2
        omega
      · obtain ⟨z, hz, e⟩ := List.mem_map.mp hx
        obtain ⟨v, e1, _, z1, z2⟩ := get z hz
        obtain ⟨a1, _⟩ := ls _ v e1
        rw [Int.toNat_of_nonneg (by omega)] at a1
        rw [List.getD_eq_getElem?_getD, e1] at e
        subst e
        exact fm _ a1 z2
      · simp
        omega
    · (try simp only [ok_some, ok_none, ok_bind, ok_lift1, ok_lift2, ok_lift3, ok_lift4, ok_bind2, ok_app1, ok_app2, ok_app3, ok_app4, ok_bif, ok_andG, ok_orG, ok_chain, ok_bindOut, bo_nx, bo_rt, bo_bk, bo_ct, ok_finO, fo_nx, fo_rt, nx_nx, nx_rt, ok_mul, ok_mod, ok_div, ok_appG, ok_szG, ok_catG, decide_eq_true_eq, decide_eq_false_iff_not, Bool.not_eq_true', Bool.not_eq_false', cLe, cLt, reduceCtorEq, false_implies, true_implies, implies_true, and_true, true_and])
      rw [hs, List.take_length]
end Lay.K17

set_option Elab.async false
set_option linter.all false
set_option maxRecDepth 100000
namespace Lay.K17
open PySem PySem.Spec PyProof.Rows L2 Lay
open Lay.Enc (enc)
/-! ### worths -/
def mxF (p : Z2 → Bool) (f : Z2 → Int) (m : Int) (L : List Z2) : Int := L.foldl (fun m y => if p y = true then (if f y > m then f y else m) else m) m
theorem mxF_spec (p : Z2 → Bool) (f : Z2 → Int) : ∀ (L : List Z2) (m : Int), m ≤ mxF p f m L ∧ (∀ y, y ∈ L → p y = true → f y ≤ mxF p f m L) ∧ (mxF p f m L = m ∨ ∃ y, y ∈ L ∧ p y = true ∧ mxF p f m L = f y)
  | [], m => ⟨Int.le_refl _, by simp, .inl rfl⟩
  | z :: L, m => by
    have e : mxF p f m (z :: L) = mxF p f (if p z = true then (if f z > m then f z else m) else m) L := rfl
    rw [e]
    obtain ⟨h1, h2, h3⟩ := mxF_spec p f L (if p z = true then (if f z > m then f z else m) else m)
    generalize mxF p f (if p z = true then (if f z > m then f z else m) else m) L = R at *
    refine ⟨?_, fun y hy py => ?_, ?_⟩
    · revert h1
      split
      · split <;> omega
      · omega
    · rcases List.mem_cons.mp hy with k | k
      · subst k
        rw [if_pos py] at h1
        revert h1; split <;> omega
      · exact h2 y k py
    · rcases h3 with k | ⟨y, hy, py, k⟩
      · rw [k]
        split
        · rename_i pz
          split
          · exact .inr ⟨z, by simp, pz, rfl⟩
          · exact .inl rfl
        · exact .inl rfl
      · exact .inr ⟨y, by simp [hy], py, k⟩
theorem mxF_max (p : Z2 → Bool) (f : Z2 → Int) : ∀ (L : List Z2) (m : Int), ((L.filter p).map f).foldl (fun m y => if y > m then y else m) m = mxF p f m L
  | [], m => rfl
  | z :: L, m => by
    have e : mxF p f m (z :: L) = mxF p f (if p z = true then (if f z > m then f z else m) else m) L := rfl
    rw [e]
    by_cases c : p z = true
    · rw [List.filter_cons_of_pos c, List.map_cons, List.foldl_cons, mxF_max, if_pos c]
    · rw [List.filter_cons_of_neg c, mxF_max, if_neg c]
theorem mxF_snoc (p : Z2 → Bool) (f : Z2 → Int) (m : Int) (L : List Z2) (y : Z2) : mxF p f m (L ++ [y]) = if p y = true then (if f y > mxF p f m L then f y else mxF p f m L) else mxF p f m L := by
  unfold mxF
  rw [List.foldl_append]; rfl
def fits (n : Nat) (y : Z2) : Bool := decide (y.a ≤ (n : Int))
def cand (l : List Int) (n : Nat) (y : Z2) : Int := l.getD ((n : Int) - y.a).toNat 0 + y.b
def wN (K : List Z2) : Nat → List Int
  | 0 => [0]
  | n + 1 => wN K n ++ [mxF (fits (n + 1)) (cand (wN K n) (n + 1)) ((wN K n).getD n 0) K]
def W (K : List Z2) (n : Nat) : Int := (wN K n).getD n 0
theorem wN_len (K : List Z2) : ∀ n, (wN K n).length = n + 1
  | 0 => rfl
  | n + 1 => by unfold wN; rw [List.length_append, wN_len]; rfl
theorem wN_get (K : List Z2) : ∀ {n s : Nat}, s ≤ n → (wN K n)[s]? = some (W K s)
  | 0, s, h => by
    have : s = 0 := by omega
    subst this; rfl
  | n + 1, s, h => by
    by_cases c : s = n + 1
    · subst c
      unfold W
      rw [List.getD_eq_getElem?_getD]
      have := wN_len K (n + 1)
      rw [List.getElem?_eq_getElem (by omega)]; rfl
    · unfold wN
      rw [List.getElem?_append_left (by rw [wN_len]; omega)]
      exact wN_get K (by omega)
theorem W_zero (K : List Z2) : W K 0 = 0 := rfl
theorem W_succ (K : List Z2) (n : Nat) : W K (n + 1) = mxF (fits (n + 1)) (cand (wN K n) (n + 1)) (W K n) K := by
  have e := wN_get K (Nat.le_refl (n + 1))
  unfold wN at e
  have l := wN_len K n
  rw [List.getElem?_append_right (by omega), l, Nat.sub_self] at e
  exact (Option.some.inj e).symm
section
variable {K : List Z2} (h : KOk K)
include h
theorem cand_eq {n : Nat} {y : Z2} (hy : y ∈ K) (hf : fits (n + 1) y = true) : cand (wN K n) (n + 1) y = W K ((n + 1) - y.a.toNat) + y.b := by
  have b := h.b y hy
  have hf : y.a ≤ ((n + 1 : Nat) : Int) := by unfold fits at hf; simpa using hf
  unfold cand
  have e : (((n + 1 : Nat) : Int) - y.a).toNat = (n + 1) - y.a.toNat := by omega
  rw [e, List.getD_eq_getElem?_getD, wN_get K (by omega)]; rfl
theorem W_mono (n : Nat) : W K n ≤ W K (n + 1) := by rw [W_succ]; exact (mxF_spec _ _ _ _).1
theorem W_kind {n : Nat} {y : Z2} (hy : y ∈ K) : W K n + y.b ≤ W K (n + y.a.toNat) := by
  have b := h.b y hy
  obtain ⟨m, hm⟩ : ∃ m, n + y.a.toNat = m + 1 := ⟨n + y.a.toNat - 1, by omega⟩
  rw [hm, W_succ]
  have hf : fits (m + 1) y = true := by unfold fits; simp; omega
  have := (mxF_spec (fits (m + 1)) (cand (wN K m) (m + 1)) K (W K m)).2.1 y hy hf
  rw [cand_eq h hy hf, show m + 1 - y.a.toNat = n by omega] at this
  exact this
theorem W_of (n : Nat) : W K (n + 1) = W K n ∨ ∃ y, y ∈ K ∧ y.a.toNat ≤ n + 1 ∧ W K (n + 1) = W K ((n + 1) - y.a.toNat) + y.b := by
  rw [W_succ]
  rcases (mxF_spec (fits (n + 1)) (cand (wN K n) (n + 1)) K (W K n)).2.2 with e | ⟨y, hy, hf, e⟩
  · exact .inl e
  · refine .inr ⟨y, hy, ?_, by rw [e, cand_eq h hy hf]⟩
    have b := h.b y hy
    unfold fits at hf
    have : y.a ≤ ((n + 1 : Nat) : Int) := by simpa using hf
    omega
theorem step_of {T y : Z2} (hy : y ∈ K) (n : y ≠ T) : (⟨y.a, T.b * y.a - T.a * y.b⟩ : Z2) ∈ stepsOf K T := by
  unfold stepsOf
  exact List.mem_cons_of_mem _ (List.mem_map.mpr ⟨y, List.mem_filter.mpr ⟨hy, by simpa using n⟩, rfl⟩)
theorem W_low {T : Z2} (t : Top K T) (n : Nat) : ∃ x, Ach (stepsOf K T) x ∧ x.b ≤ n ∧ x.b % T.a = (n : Int) % T.a ∧ T.a * W K n = T.b * n - x.a := by
  have bT := h.b T t.m
  induction n using Nat.strongRecOn with
  | _ n ih =>
    cases n with
    | zero => exact ⟨_, .z, by simp, rfl, by rw [W_zero]; simp⟩
    | succ n =>
      rcases W_of h n with e | ⟨y, hy, hl, e⟩
      · obtain ⟨x, a, x1, x2, x3⟩ := ih n (by omega)
        refine ⟨_, .s a (show (⟨1, T.b⟩ : Z2) ∈ stepsOf K T by simp [stepsOf]), ?_, ?_, ?_⟩
        · show x.b + 1 ≤ ((n + 1 : Nat) : Int); omega
        · show (x.b + 1) % T.a = ((n + 1 : Nat) : Int) % T.a
          rw [mod_add x2, Int.emod_add_emod]; rfl
        · show T.a * W K (n + 1) = T.b * ((n + 1 : Nat) : Int) - (x.a + T.b)
          rw [e, x3, show ((n + 1 : Nat) : Int) = (n : Int) + 1 by omega, Int.mul_add]; omega
      · have by' := h.b y hy
        obtain ⟨x, a, x1, x2, x3⟩ := ih (n + 1 - y.a.toNat) (by omega)
        have en : ((n + 1 - y.a.toNat : Nat) : Int) = (n : Int) + 1 - y.a := by omega
        rw [en] at x1 x2 x3
        by_cases c : y = T
        · subst c
          refine ⟨x, a, by omega, ?_, ?_⟩
          · rw [x2, show (n : Int) + 1 - y.a = ((n + 1 : Nat) : Int) - y.a by omega, Int.sub_emod_right]
          · rw [e, Int.mul_add, x3, show ((n + 1 : Nat) : Int) = (n : Int) + 1 by omega, Int.mul_sub, Int.mul_comm y.b y.a]; omega
        · refine ⟨_, .s a (step_of h hy c), ?_, ?_, ?_⟩
          · show x.b + y.a ≤ ((n + 1 : Nat) : Int); omega
          · show (x.b + y.a) % T.a = ((n + 1 : Nat) : Int) % T.a
            rw [mod_add x2, Int.emod_add_emod, show (n : Int) + 1 - y.a + y.a = ((n + 1 : Nat) : Int) by omega]
          · show T.a * W K (n + 1) = T.b * ((n + 1 : Nat) : Int) - (x.a + (T.b * y.a - T.a * y.b))
            rw [e, Int.mul_add, x3, show ((n + 1 : Nat) : Int) = (n : Int) + 1 by omega, Int.mul_sub]; omega
theorem W_high {T : Z2} (t : Top K T) {x : Z2} (a : Ach (stepsOf K T) x) : ∀ (k n : Nat), (n : Int) = x.b + k * T.a → T.b * n - x.a ≤ T.a * W K n := by
  have bT := h.b T t.m
  have st' := steps_st h t
  have base : ∀ {x : Z2}, Ach (stepsOf K T) x → ∀ n : Nat, (n : Int) = x.b → T.b * n - x.a ≤ T.a * W K n := fun {x} a => by
    induction a with
    | z =>
      intro n e
      have e : (n : Int) = 0 := e
      have : n = 0 := by omega
      subst this
      rw [W_zero]; simp
    | @s x s ax hs ih =>
      intro n e
      have e : (n : Int) = x.b + s.a := e
      have nn := ach_nn st' ax
      have ss := st'.s s hs
      have ih := ih x.b.toNat (by omega)
      show T.b * n - (x.a + s.b) ≤ T.a * W K n
      have en : n = x.b.toNat + s.a.toNat := by omega
      have ei : (x.b.toNat : Int) = x.b := by omega
      rw [ei] at ih
      unfold stepsOf at hs
      rcases List.mem_cons.mp hs with c | c
      · subst c
        have m := W_mono h x.b.toNat
        have m2 := Int.mul_le_mul_of_nonneg_left m (show 0 ≤ T.a by omega)
        have en : n = x.b.toNat + 1 := en
        rw [en, show ((x.b.toNat + 1 : Nat) : Int) = x.b + 1 by omega, Int.mul_add]
        show T.b * x.b + T.b * 1 - (x.a + T.b) ≤ _
        omega
      · obtain ⟨y, hy, c⟩ := List.mem_map.mp c
        have ym := (List.mem_filter.mp hy).1
        have by' := h.b y ym
        subst c
        have m := W_kind h (n := x.b.toNat) ym
        have m2 := Int.mul_le_mul_of_nonneg_left m (show 0 ≤ T.a by omega)
        rw [Int.mul_add] at m2
        have en : n = x.b.toNat + y.a.toNat := en
        have e : (n : Int) = x.b + y.a := e
        rw [e, Int.mul_add, en]
        show T.b * x.b + T.b * y.a - (x.a + (T.b * y.a - T.a * y.b)) ≤ _
        omega
  intro k
  induction k with
  | zero => intro n e; exact base a n (by simpa using e)
  | succ k ih =>
    intro n e
    have nn := ach_nn st' a
    have k0 := Int.mul_nonneg (show 0 ≤ (k : Int) by omega) (show 0 ≤ T.a by omega)
    have ek : ((k + 1 : Nat) : Int) * T.a = k * T.a + T.a := by rw [show ((k + 1 : Nat) : Int) = (k : Int) + 1 by omega, Int.add_mul, Int.one_mul]
    rw [ek] at e
    have q := ih (n - T.a.toNat) (by omega)
    have m := W_kind h (n := n - T.a.toNat) t.m
    rw [show n - T.a.toNat + T.a.toNat = n by omega] at m
    have m2 := Int.mul_le_mul_of_nonneg_left m (show 0 ≤ T.a by omega)
    rw [Int.mul_add] at m2
    rw [show ((n - T.a.toNat : Nat) : Int) = (n : Int) - T.a by omega, Int.mul_sub] at q
    have := Int.mul_comm T.a T.b
    omega
end
end Lay.K17

set_option Elab.async false
set_option linter.all false
set_option maxRecDepth 100000
namespace Lay.K17
open PySem PySem.Spec PyProof.Rows L2 Lay
open Lay.Enc (enc)
/-! ### how worths grow -/
section
variable {K : List Z2} (h : KOk K)
include h
theorem congr_le {U x n : Int} (hU : 0 < U) (e : x % U = n % U) (l : x < n + U) : x ≤ n := by
  have z : (x - n) % U = 0 := by rw [Int.sub_emod, e, Int.sub_self, Int.zero_emod]
  obtain ⟨j, hj⟩ := Int.dvd_of_emod_eq_zero z
  by_cases c : j ≤ 0
  · have := Int.mul_nonneg (show 0 ≤ U by omega) (show 0 ≤ -j by omega)
    rw [Int.mul_neg] at this
    omega
  · have := Int.mul_le_mul_of_nonneg_left (show 1 ≤ j by omega) (show 0 ≤ U by omega)
    omega
theorem congr_k {U x n : Int} (hU : 0 < U) (e : x % U = n % U) (l : x ≤ n) : ∃ k : Nat, n = x + k * U := by
  have z : (n - x) % U = 0 := by rw [Int.sub_emod, e, Int.sub_self, Int.zero_emod]
  obtain ⟨j, hj⟩ := Int.dvd_of_emod_eq_zero z
  have j0 : 0 ≤ j := by
    by_cases c : 0 ≤ j
    · exact c
    · have := Int.mul_neg_of_pos_of_neg hU (show j < 0 by omega)
      omega
  exact ⟨j.toNat, by rw [Int.toNat_of_nonneg j0, Int.mul_comm]; omega⟩
theorem W_top {T : Z2} (t : Top K T) (n : Nat) : W K n + T.b ≤ W K (n + T.a.toNat) := W_kind h t.m
theorem grow {T : Z2} (t : Top K T) {F : Int → Z2} (b : Best T.a (stepsOf K T) F) {n : Nat} (hb : (F ((n : Int) % T.a)).b ≤ n) : W K (n + T.a.toNat) = W K n + T.b := by
  have bT := h.b T t.m
  have r := mod_b (x := (n : Int)) (U := T.a) (by omega)
  obtain ⟨fa, fb, fm⟩ := b _ r.1 r.2
  obtain ⟨k, hk⟩ := congr_k h (U := T.a) (by omega) fb hb
  have hi := W_high h t fa k n hk
  obtain ⟨x, ax, x1, x2, x3⟩ := W_low h t (n + T.a.toNat)
  have en : ((n + T.a.toNat : Nat) : Int) = n + T.a := by omega
  rw [en] at x1 x2 x3
  rw [Int.add_emod_right] at x2
  have l := fm x ax x2
  have lo : (F ((n : Int) % T.a)).a ≤ x.a := by unfold leP at l; omega
  have up := W_top h t n
  rw [Int.mul_add] at x3
  have cm := Int.mul_comm T.a T.b
  have q : T.a * W K (n + T.a.toNat) ≤ T.a * (W K n + T.b) := by rw [Int.mul_add]; omega
  have := Int.le_of_mul_le_mul_left q (show 0 < T.a by omega)
  omega
theorem nogrow {T : Z2} (t : Top K T) {F : Int → Z2} (b : Best T.a (stepsOf K T) F) {n : Nat} (hb : (F ((n : Int) % T.a)).b = n + T.a) : W K (n + T.a.toNat) ≠ W K n + T.b := fun c => by
  have bT := h.b T t.m
  have r := mod_b (x := (n : Int)) (U := T.a) (by omega)
  obtain ⟨fa, fb, fm⟩ := b _ r.1 r.2
  have en : ((n + T.a.toNat : Nat) : Int) = n + T.a := by omega
  have hi := W_high h t fa 0 (n + T.a.toNat) (by rw [hb, en]; simp)
  obtain ⟨x, ax, x1, x2, x3⟩ := W_low h t n
  have l := fm x ax x2
  rw [c, en, Int.mul_add, Int.mul_add] at hi
  have cm := Int.mul_comm T.a T.b
  unfold leP at l
  omega
/-! ### the two tables of worths -/
theorem worths_to_eq {a : Int} (a0 : 0 ≤ a) (a1 : a ≤ 100000) : m_worths_to K a = some (wN K a.toNat) := by
  have kl := h.l
  rw [ok_iff]
  unfold m_worths_to b_worths_to
  (try simp only [ok_some, ok_none, ok_bind, ok_lift1, ok_lift2, ok_lift3, ok_lift4, ok_bind2, ok_app1, ok_app2, ok_app3, ok_app4, ok_bif, ok_andG, ok_orG, ok_chain, ok_bindOut, bo_nx, bo_rt, bo_bk, bo_ct, ok_finO, fo_nx, fo_rt, nx_nx, nx_rt, ok_mul, ok_mod, ok_div, ok_appG, ok_szG, ok_catG, decide_eq_true_eq, decide_eq_false_iff_not, Bool.not_eq_true', Bool.not_eq_false', cLe, cLt, reduceCtorEq, false_implies, true_implies, implies_true, and_true, true_and])
  refine ⟨by simp, ok_of (rng2_of (by decide) (by omega) (by decide) (by omega)) (ok_for (fun i s => s = wN K i) rfl (fun i s y hy hs => ?_) fun s hs => ?_)⟩
  · obtain ⟨hi, rfl⟩ := rng_get hy
    subst hs
    have ln := wN_len K i
    have e0 : atI (wN K i) (1 + (i : Int) - 1) = some (W K i) := by
      have := atE (wN_get K (Nat.le_refl i))
      rw [show 1 + (i : Int) - 1 = (i : Int) by omega]; exact this
    (try simp only [ok_some, ok_none, ok_bind, ok_lift1, ok_lift2, ok_lift3, ok_lift4, ok_bind2, ok_app1, ok_app2, ok_app3, ok_app4, ok_bif, ok_andG, ok_orG, ok_chain, ok_bindOut, bo_nx, bo_rt, bo_bk, bo_ct, ok_finO, fo_nx, fo_rt, nx_nx, nx_rt, ok_mul, ok_mod, ok_div, ok_appG, ok_szG, ok_catG, decide_eq_true_eq, decide_eq_false_iff_not, Bool.not_eq_true', Bool.not_eq_false', cLe, cLt, reduceCtorEq, false_implies, true_implies, implies_true, and_true, true_and])
    refine ok_of e0 (ok_for (fun j s => s = mxF (fits (i + 1)) (cand (wN K i) (i + 1)) (W K i) (K.take j)) rfl (fun j s y hy hs => ?_) fun s hs => ?_)
    · subst hs
      have by' := h.b y (List.mem_of_getElem? hy)
      rw [take1 hy, mxF_snoc]
      generalize mxF (fits (i + 1)) (cand (wN K i) (i + 1)) (W K i) (K.take j) = m
      (try simp only [ok_some, ok_none, ok_bind, ok_lift1, ok_lift2, ok_lift3, ok_lift4, ok_bind2, ok_app1, ok_app2, ok_app3, ok_app4, ok_bif, ok_andG, ok_orG, ok_chain, ok_bindOut, bo_nx, bo_rt, bo_bk, bo_ct, ok_finO, fo_nx, fo_rt, nx_nx, nx_rt, ok_mul, ok_mod, ok_div, ok_appG, ok_szG, ok_catG, decide_eq_true_eq, decide_eq_false_iff_not, Bool.not_eq_true', Bool.not_eq_false', cLe, cLt, reduceCtorEq, false_implies, true_implies, implies_true, and_true, true_and])
      refine ⟨fun c => ?_, fun c => ?_⟩
      · have hf : fits (i + 1) y = true := by unfold fits; simp; omega
        obtain ⟨v, e1, e2, _⟩ := atI_nat' (l := wN K i) (i := 1 + (i : Int) - y.a) (by omega) (by omega)
        refine ok_of e1 ?_
        have ec : cand (wN K i) (i + 1) y = v + y.b := by
          unfold cand
          rw [show ((i + 1 : Nat) : Int) - y.a = 1 + (i : Int) - y.a by omega, List.getD_eq_getElem?_getD, e2]; rfl
        rw [if_pos hf, ec]
      · have hf : ¬ fits (i + 1) y = true := by unfold fits; simp; omega
        rw [if_neg hf]
    · subst hs
      rw [List.take_length]
      (try simp only [ok_some, ok_none, ok_bind, ok_lift1, ok_lift2, ok_lift3, ok_lift4, ok_bind2, ok_app1, ok_app2, ok_app3, ok_app4, ok_bif, ok_andG, ok_orG, ok_chain, ok_bindOut, bo_nx, bo_rt, bo_bk, bo_ct, ok_finO, fo_nx, fo_rt, nx_nx, nx_rt, ok_mul, ok_mod, ok_div, ok_appG, ok_szG, ok_catG, decide_eq_true_eq, decide_eq_false_iff_not, Bool.not_eq_true', Bool.not_eq_false', cLe, cLt, reduceCtorEq, false_implies, true_implies, implies_true, and_true, true_and])
      refine ⟨by omega, ?_⟩
      show wN K i ++ [_] = wN K (i + 1)
      rw [wN, ← show W K i = (wN K i).getD i 0 from rfl]
  · (try simp only [ok_some, ok_none, ok_bind, ok_lift1, ok_lift2, ok_lift3, ok_lift4, ok_bind2, ok_app1, ok_app2, ok_app3, ok_app4, ok_bif, ok_andG, ok_orG, ok_chain, ok_bindOut, bo_nx, bo_rt, bo_bk, bo_ct, ok_finO, fo_nx, fo_rt, nx_nx, nx_rt, ok_mul, ok_mod, ok_div, ok_appG, ok_szG, ok_catG, decide_eq_true_eq, decide_eq_false_iff_not, Bool.not_eq_true', Bool.not_eq_false', cLe, cLt, reduceCtorEq, false_implies, true_implies, implies_true, and_true, true_and])
    rw [hs, rng_len]
    congr 1
    omega
theorem law_worths_eq {a : Int} (a0 : 0 ≤ a) (a1 : a ≤ 100000) : m__law_worths K a = some (wN K a.toNat) := by
  have kl := h.l
  rw [ok_iff]
  unfold m__law_worths b__law_worths
  (try simp only [ok_some, ok_none, ok_bind, ok_lift1, ok_lift2, ok_lift3, ok_lift4, ok_bind2, ok_app1, ok_app2, ok_app3, ok_app4, ok_bif, ok_andG, ok_orG, ok_chain, ok_bindOut, bo_nx, bo_rt, bo_bk, bo_ct, ok_finO, fo_nx, fo_rt, nx_nx, nx_rt, ok_mul, ok_mod, ok_div, ok_appG, ok_szG, ok_catG, decide_eq_true_eq, decide_eq_false_iff_not, Bool.not_eq_true', Bool.not_eq_false', cLe, cLt, reduceCtorEq, false_implies, true_implies, implies_true, and_true, true_and])
  refine ⟨by simp, ok_of (rng2_of (by decide) (by omega) (by decide) (by omega)) (ok_for (fun i s => s = wN K i) rfl (fun i s y hy hs => ?_) fun s hs => ?_)⟩
  · obtain ⟨hi, rfl⟩ := rng_get hy
    subst hs
    have ln := wN_len K i
    have e0 : atI (wN K i) (1 + (i : Int) - 1) = some (W K i) := by
      have := atE (wN_get K (Nat.le_refl i))
      rw [show 1 + (i : Int) - 1 = (i : Int) by omega]; exact this
    (try simp only [ok_some, ok_none, ok_bind, ok_lift1, ok_lift2, ok_lift3, ok_lift4, ok_bind2, ok_app1, ok_app2, ok_app3, ok_app4, ok_bif, ok_andG, ok_orG, ok_chain, ok_bindOut, bo_nx, bo_rt, bo_bk, bo_ct, ok_finO, fo_nx, fo_rt, nx_nx, nx_rt, ok_mul, ok_mod, ok_div, ok_appG, ok_szG, ok_catG, decide_eq_true_eq, decide_eq_false_iff_not, Bool.not_eq_true', Bool.not_eq_false', cLe, cLt, reduceCtorEq, false_implies, true_implies, implies_true, and_true, true_and])
    refine ok_of e0 ⟨by simp, ok_lc (fits (i + 1)) (cand (wN K i) (i + 1)) (fun y hy => ?_) (fun y hy hf => ?_) ?_⟩
    · unfold fits
      rw [show ((i + 1 : Nat) : Int) = 1 + (i : Int) by omega]; rfl
    · have by' := h.b y hy
      have hf : y.a ≤ ((i + 1 : Nat) : Int) := by unfold fits at hf; simpa using hf
      obtain ⟨v, e1, e2, _⟩ := atI_nat' (l := wN K i) (i := 1 + (i : Int) - y.a) (by omega) (by omega)
      rw [ok_iff]
      (try simp only [ok_some, ok_none, ok_bind, ok_lift1, ok_lift2, ok_lift3, ok_lift4, ok_bind2, ok_app1, ok_app2, ok_app3, ok_app4, ok_bif, ok_andG, ok_orG, ok_chain, ok_bindOut, bo_nx, bo_rt, bo_bk, bo_ct, ok_finO, fo_nx, fo_rt, nx_nx, nx_rt, ok_mul, ok_mod, ok_div, ok_appG, ok_szG, ok_catG, decide_eq_true_eq, decide_eq_false_iff_not, Bool.not_eq_true', Bool.not_eq_false', cLe, cLt, reduceCtorEq, false_implies, true_implies, implies_true, and_true, true_and])
      refine ok_of e1 ?_
      unfold cand
      rw [show ((i + 1 : Nat) : Int) - y.a = 1 + (i : Int) - y.a by omega, List.getD_eq_getElem?_getD, e2]; rfl
    · have fl := List.length_filter_le (fits (i + 1)) K
      refine ⟨by simp; omega, ?_⟩
      have e : maxL ([W K i] ++ (K.filter (fits (i + 1))).map (cand (wN K i) (i + 1))) = some (mxF (fits (i + 1)) (cand (wN K i) (i + 1)) (W K i) K) := congrArg some (mxF_max _ _ _ _)
      refine ok_of e ⟨by omega, ?_⟩
      rw [wN, ← show W K i = (wN K i).getD i 0 from rfl]
  · (try simp only [ok_some, ok_none, ok_bind, ok_lift1, ok_lift2, ok_lift3, ok_lift4, ok_bind2, ok_app1, ok_app2, ok_app3, ok_app4, ok_bif, ok_andG, ok_orG, ok_chain, ok_bindOut, bo_nx, bo_rt, bo_bk, bo_ct, ok_finO, fo_nx, fo_rt, nx_nx, nx_rt, ok_mul, ok_mod, ok_div, ok_appG, ok_szG, ok_catG, decide_eq_true_eq, decide_eq_false_iff_not, Bool.not_eq_true', Bool.not_eq_false', cLe, cLt, reduceCtorEq, false_implies, true_implies, implies_true, and_true, true_and])
    rw [hs, rng_len]
    congr 1
    omega
theorem worth_eq {a : Int} (a0 : 0 ≤ a) (a1 : a ≤ 2000) : m_worth K a = some (W K a.toNat) := by
  rw [ok_iff]
  unfold m_worth b_worth
  (try simp only [ok_some, ok_none, ok_bind, ok_lift1, ok_lift2, ok_lift3, ok_lift4, ok_bind2, ok_app1, ok_app2, ok_app3, ok_app4, ok_bif, ok_andG, ok_orG, ok_chain, ok_bindOut, bo_nx, bo_rt, bo_bk, bo_ct, ok_finO, fo_nx, fo_rt, nx_nx, nx_rt, ok_mul, ok_mod, ok_div, ok_appG, ok_szG, ok_catG, decide_eq_true_eq, decide_eq_false_iff_not, Bool.not_eq_true', Bool.not_eq_false', cLe, cLt, reduceCtorEq, false_implies, true_implies, implies_true, and_true, true_and])
  have ca : m_check_amount a 2000 = some () := by
    rw [ok_iff]
    unfold m_check_amount b_check_amount
    (try simp only [ok_some, ok_none, ok_bind, ok_lift1, ok_lift2, ok_lift3, ok_lift4, ok_bind2, ok_app1, ok_app2, ok_app3, ok_app4, ok_bif, ok_andG, ok_orG, ok_chain, ok_bindOut, bo_nx, bo_rt, bo_bk, bo_ct, ok_finO, fo_nx, fo_rt, nx_nx, nx_rt, ok_mul, ok_mod, ok_div, ok_appG, ok_szG, ok_catG, decide_eq_true_eq, decide_eq_false_iff_not, Bool.not_eq_true', Bool.not_eq_false', cLe, cLt, reduceCtorEq, false_implies, true_implies, implies_true, and_true, true_and])
    exact ⟨fun _ c => c a1, fun c => c a0⟩
  refine ok_of (check_kinds_eq h) (ok_of ca (ok_of (worths_to_eq h a0 (by omega)) (ok_of (v := W K a.toNat) ?_ rfl)))
  have := atE (wN_get K (Nat.le_refl a.toNat))
  rw [Int.toNat_of_nonneg a0] at this; exact this
end
end Lay.K17

set_option Elab.async false
set_option linter.all false
set_option maxRecDepth 100000
namespace Lay.K17
open PySem PySem.Spec PyProof.Rows L2 Lay
open Lay.Enc (enc)
/-! ### drawn kinds, the law -/
theorem kinds_ok {ds : List Int} (hd : DB ds) {k : Int} (h0 : 0 ≤ k) (h1 : k < 2 ^ 30) : Ok (m__law_kinds ds k) KOk := by
  unfold m__law_kinds b__law_kinds
  (try simp only [ok_some, ok_none, ok_bind, ok_lift1, ok_lift2, ok_lift3, ok_lift4, ok_bind2, ok_app1, ok_app2, ok_app3, ok_app4, ok_bif, ok_andG, ok_orG, ok_chain, ok_bindOut, bo_nx, bo_rt, bo_bk, bo_ct, ok_finO, fo_nx, fo_rt, nx_nx, nx_rt, ok_mul, ok_mod, ok_div, ok_appG, ok_szG, ok_catG, decide_eq_true_eq, decide_eq_false_iff_not, Bool.not_eq_true', Bool.not_eq_false', cLe, cLt, reduceCtorEq, false_implies, true_implies, implies_true, and_true, true_and])
  refine ⟨by simp, by simp, ok_mono (mix_ok hd (by omega) (by omega) (by decide)) fun w hw => ok_atI hw.1 (by simp; omega) fun v _ hv => ?_⟩
  have hv : v = 0 ∨ v = 1 ∨ v = 2 := by
    have : v = 0 ∨ v = 1 ∨ v = 1 ∨ v = 2 := by simpa using hv
    omega
  refine ok_atI (by omega) (by simp; omega) fun top _ ht => ?_
  have ht : 6 ≤ top ∧ top ≤ 40 := by
    have : top = 6 ∨ top = 12 ∨ top = 40 := by simpa using ht
    omega
  refine ⟨by simp, ok_mono (mix_ok hd (by omega) (by omega) (by decide)) fun p hp => ok_mono (mix_ok hd (by omega) (by omega) (by decide)) fun q hq => ok_mono (mix_ok hd (by omega) (by omega) (by decide)) fun n hn => ?_⟩
  refine ok_rng1 (by omega) (by omega) (ok_for (fun i s => s.length ≤ i ∧ (0 < i → 0 < s.length) ∧ s.Nodup ∧ ∀ y, y ∈ s → (1 ≤ y.a ∧ y.a ≤ 40) ∧ (0 ≤ y.b ∧ y.b ≤ 200)) ⟨by simp, by simp, List.nodup_nil, by simp⟩ (fun i s y hy hs => ?_) fun s hs => ?_)
  · obtain ⟨hi, rfl⟩ := rng_get hy
    obtain ⟨s1, s2, s3, s4⟩ := hs
    refine ok_let (fun y => (1 ≤ y.a ∧ y.a ≤ 40) ∧ (0 ≤ y.b ∧ y.b ≤ 200)) ?_ fun z hz => ok_ifS (fun y => (1 ≤ y.a ∧ y.a ≤ 40) ∧ (0 ≤ y.b ∧ y.b ≤ 200)) ?_ fun y hy => ?_
    · (try simp only [ok_some, ok_none, ok_bind, ok_lift1, ok_lift2, ok_lift3, ok_lift4, ok_bind2, ok_app1, ok_app2, ok_app3, ok_app4, ok_bif, ok_andG, ok_orG, ok_chain, ok_bindOut, bo_nx, bo_rt, bo_bk, bo_ct, ok_finO, fo_nx, fo_rt, nx_nx, nx_rt, ok_mul, ok_mod, ok_div, ok_appG, ok_szG, ok_catG, decide_eq_true_eq, decide_eq_false_iff_not, Bool.not_eq_true', Bool.not_eq_false', cLe, cLt, reduceCtorEq, false_implies, true_implies, implies_true, and_true, true_and])
      refine ⟨mulOk (by omega) (by omega), ok_mono (mix_ok hd (by omega) (by omega) (by omega)) fun a ha => ⟨mulOk (by omega) (by omega), mulOk (by omega) (by omega), ok_mono (mix_ok hd (by omega) (by omega) (by omega)) fun b hb => ⟨⟨by omega, by omega⟩, ⟨by omega, by omega⟩⟩⟩⟩
    · (try simp only [ok_some, ok_none, ok_bind, ok_lift1, ok_lift2, ok_lift3, ok_lift4, ok_bind2, ok_app1, ok_app2, ok_app3, ok_app4, ok_bif, ok_andG, ok_orG, ok_chain, ok_bindOut, bo_nx, bo_rt, bo_bk, bo_ct, ok_finO, fo_nx, fo_rt, nx_nx, nx_rt, ok_mul, ok_mod, ok_div, ok_appG, ok_szG, ok_catG, decide_eq_true_eq, decide_eq_false_iff_not, Bool.not_eq_true', Bool.not_eq_false', cLe, cLt, reduceCtorEq, false_implies, true_implies, implies_true, and_true, true_and])
      refine ok_mono (mix_ok hd (by omega) (by omega) (by decide)) fun a ha => ⟨fun _ => ok_mono (mix_ok hd (by omega) (by omega) (by decide)) fun b hb => ?_, fun _ => hz⟩
      have m1 := Int.mul_le_mul (show 1 + p ≤ 5 by omega) (show 1 + b ≤ 3 by omega) (by omega) (by decide)
      have m2 := Int.mul_le_mul (show q ≤ 19 by omega) (show 1 + b ≤ 3 by omega) (by omega) (by decide)
      have m3 := Int.mul_le_mul (show 1 ≤ 1 + p by omega) (show 1 ≤ 1 + b by omega) (by omega) (by omega)
      have m4 := Int.mul_nonneg (show 0 ≤ q by omega) (show 0 ≤ 1 + b by omega)
      exact ⟨mulOk (by omega) (by omega), mulOk (by omega) (by omega), ⟨by omega, by omega⟩, ⟨by omega, by omega⟩⟩
    · (try simp only [ok_some, ok_none, ok_bind, ok_lift1, ok_lift2, ok_lift3, ok_lift4, ok_bind2, ok_app1, ok_app2, ok_app3, ok_app4, ok_bif, ok_andG, ok_orG, ok_chain, ok_bindOut, bo_nx, bo_rt, bo_bk, bo_ct, ok_finO, fo_nx, fo_rt, nx_nx, nx_rt, ok_mul, ok_mod, ok_div, ok_appG, ok_szG, ok_catG, decide_eq_true_eq, decide_eq_false_iff_not, Bool.not_eq_true', Bool.not_eq_false', cLe, cLt, reduceCtorEq, false_implies, true_implies, implies_true, and_true, true_and])
      refine ⟨fun c => ⟨by omega, by simp; omega, by simp, ?_, fun x hx => ?_⟩, fun c => ⟨by omega, fun _ => ?_, s3, s4⟩⟩
      · rw [List.nodup_append]
        refine ⟨s3, by simp, fun a ha b hb => ?_⟩
        have : b = y := by simpa using hb
        subst this
        exact fun e => c (e ▸ ha)
      · rw [List.mem_append, List.mem_singleton] at hx
        rcases hx with e | e
        · exact s4 x e
        · subst e; exact hy
      · exact List.length_pos_of_mem c
  · (try simp only [ok_some, ok_none, ok_bind, ok_lift1, ok_lift2, ok_lift3, ok_lift4, ok_bind2, ok_app1, ok_app2, ok_app3, ok_app4, ok_bif, ok_andG, ok_orG, ok_chain, ok_bindOut, bo_nx, bo_rt, bo_bk, bo_ct, ok_finO, fo_nx, fo_rt, nx_nx, nx_rt, ok_mul, ok_mod, ok_div, ok_appG, ok_szG, ok_catG, decide_eq_true_eq, decide_eq_false_iff_not, Bool.not_eq_true', Bool.not_eq_false', cLe, cLt, reduceCtorEq, false_implies, true_implies, implies_true, and_true, true_and])
    rw [rng_len] at hs
    obtain ⟨s1, s2, s3, s4⟩ := hs
    exact ⟨⟨s2 (by omega), by omega⟩, s4, s3⟩
theorem ach_one {S : List Z2} {v : Int} (h : (⟨1, v⟩ : Z2) ∈ S) : ∀ n : Nat, Ach S ⟨n * v, n⟩
  | 0 => by
    have e : (⟨((0 : Nat) : Int) * v, ((0 : Nat) : Int)⟩ : Z2) = ⟨0, 0⟩ := z2_ext (by simp) rfl
    rw [e]; exact .z
  | n + 1 => by
    have := Ach.s (ach_one h n) h
    have e : adP ⟨(n : Int) * v, n⟩ ⟨1, v⟩ = ⟨((n + 1 : Nat) : Int) * v, ((n + 1 : Nat) : Int)⟩ := z2_ext (by show (n : Int) * v + v = ((n + 1 : Nat) : Int) * v; rw [show ((n + 1 : Nat) : Int) = (n : Int) + 1 by omega, Int.add_mul]; omega) (by show (n : Int) + 1 = ((n + 1 : Nat) : Int); omega)
    rw [e] at this; exact this
theorem law_true (ns : List Int) (h : ns.length ≤ 63) : m_law ns = some true := by
  rw [ok_iff]
  unfold m_law b_law
  rw [ok_finO]
  refine ok_let _ (draws_ok ns h) fun ds hd => ?_
  refine ok_forS (e := by rw [Option.bind_some]; exact rng1_at (j := 2) (by decide)) (fun _ _ => True) trivial (fun i u y hy _ => ?_) fun u _ => by (try simp only [ok_some, ok_none, ok_bind, ok_lift1, ok_lift2, ok_lift3, ok_lift4, ok_bind2, ok_app1, ok_app2, ok_app3, ok_app4, ok_bif, ok_andG, ok_orG, ok_chain, ok_bindOut, bo_nx, bo_rt, bo_bk, bo_ct, ok_finO, fo_nx, fo_rt, nx_nx, nx_rt, ok_mul, ok_mod, ok_div, ok_appG, ok_szG, ok_catG, decide_eq_true_eq, decide_eq_false_iff_not, Bool.not_eq_true', Bool.not_eq_false', cLe, cLt, reduceCtorEq, false_implies, true_implies, implies_true, and_true, true_and])
  obtain ⟨hi, rfl⟩ := rng_get hy
  refine ok_let KOk ?_ fun K hK => ?_
  · (try simp only [ok_some, ok_none, ok_bind, ok_lift1, ok_lift2, ok_lift3, ok_lift4, ok_bind2, ok_app1, ok_app2, ok_app3, ok_app4, ok_bif, ok_andG, ok_orG, ok_chain, ok_bindOut, bo_nx, bo_rt, bo_bk, bo_ct, ok_finO, fo_nx, fo_rt, nx_nx, nx_rt, ok_mul, ok_mod, ok_div, ok_appG, ok_szG, ok_catG, decide_eq_true_eq, decide_eq_false_iff_not, Bool.not_eq_true', Bool.not_eq_false', cLe, cLt, reduceCtorEq, false_implies, true_implies, implies_true, and_true, true_and])
    exact ⟨mulOk (by decide) (by omega), kinds_ok hd (by omega) (by omega)⟩
  have t := top_ok hK
  have bT := hK.b _ t.m
  have st' := steps_st hK t
  have stp := steps_top hK t
  obtain ⟨F, b⟩ := ex_best st'
  have be := best_of_eq hK
  have lb := law_best_eq hK
  have le := losses_of_eq hK b
  have ll := law_losses_eq hK b
  have ck := check_kinds_eq hK
  have bulkb : ∀ r, 0 ≤ r → r < (topF K).a → (0 ≤ (F r).b ∧ (F r).b ≤ 1600) ∧ (0 ≤ (F r).a ∧ (F r).a ≤ 8000) := fun r r0 r1 => by
    obtain ⟨fa, fb, fm⟩ := b r r0 r1
    have nn := ach_nn st' fa
    have b1 := bulk_most st' b (fun s hs => (stp s hs).1) r0 r1
    have b2 := Int.mul_le_mul_of_nonneg_right bT.1.2 (show (0 : Int) ≤ 40 by decide)
    have a1 := fm _ (ach_one (v := (topF K).b) (by simp [stepsOf]) r.toNat) (by show ((r.toNat : Nat) : Int) % _ = r; rw [Int.toNat_of_nonneg r0, Int.emod_eq_of_lt r0 r1])
    have a2 := Int.mul_le_mul (show ((r.toNat : Nat) : Int) ≤ 40 by omega) bT.2.2 bT.2.1 (by decide)
    have a3 : (F r).a ≤ ((r.toNat : Nat) : Int) * (topF K).b := by
      unfold leP at a1
      have a1 : (F r).a < ((r.toNat : Nat) : Int) * (topF K).b ∨ ((F r).a = ((r.toNat : Nat) : Int) * (topF K).b ∧ _) := a1
      omega
    omega
  have gr := fun n hb => grow hK t b (n := n) hb
  have ng := fun n hb => nogrow hK t b (n := n) hb
  have wt := fun a a0 a1 => worth_eq hK (a := a) a0 a1
  have rK : RB K (6 * (73 + 2) + 3) := rb_list hK.l.2 fun y hy => by
    have := hK.b y hy
    exact (rb_t2 (rb_int (by omega)) (rb_int (by omega))).mono (by decide)
  have kK := rb_repr rK (by decide)
  have lw := fun a a0 a1 => law_worths_eq hK (a := a) a0 a1
  have fsm : m_losses K = some ((rngL 0 (topF K).a.toNat).map fun r => some (F r)) := by
    rw [ok_iff]
    unfold m_losses b_losses
    (try simp only [ok_some, ok_none, ok_bind, ok_lift1, ok_lift2, ok_lift3, ok_lift4, ok_bind2, ok_app1, ok_app2, ok_app3, ok_app4, ok_bif, ok_andG, ok_orG, ok_chain, ok_bindOut, bo_nx, bo_rt, bo_bk, bo_ct, ok_finO, fo_nx, fo_rt, nx_nx, nx_rt, ok_mul, ok_mod, ok_div, ok_appG, ok_szG, ok_catG, decide_eq_true_eq, decide_eq_false_iff_not, Bool.not_eq_true', Bool.not_eq_false', cLe, cLt, reduceCtorEq, false_implies, true_implies, implies_true, and_true, true_and])
    exact ok_of ck (ok_of le rfl)
  have bk : m_best_kind K = some (topF K) := by
    rw [ok_iff]
    unfold m_best_kind b_best_kind
    (try simp only [ok_some, ok_none, ok_bind, ok_lift1, ok_lift2, ok_lift3, ok_lift4, ok_bind2, ok_app1, ok_app2, ok_app3, ok_app4, ok_bif, ok_andG, ok_orG, ok_chain, ok_bindOut, bo_nx, bo_rt, bo_bk, bo_ct, ok_finO, fo_nx, fo_rt, nx_nx, nx_rt, ok_mul, ok_mod, ok_div, ok_appG, ok_szG, ok_catG, decide_eq_true_eq, decide_eq_false_iff_not, Bool.not_eq_true', Bool.not_eq_false', cLe, cLt, reduceCtorEq, false_implies, true_implies, implies_true, and_true, true_and])
    exact ok_of ck (ok_of be rfl)
  generalize topF K = T at *
  have mem : ∀ r, r ∈ rngL 0 T.a.toNat ↔ 0 ≤ r ∧ r < T.a := fun r => by
    rw [mem_rng]; omega
  have ne : ((rngL 0 T.a.toNat).map F).map T2.b ≠ [] := fun c => by
    have := congrArg List.length c
    rw [List.length_map, List.length_map, rng_len] at this
    simp at this; omega
  obtain ⟨M, eM, hM, mM⟩ : ∃ M, maxL (((rngL 0 T.a.toNat).map F).map T2.b) = some M ∧ M ∈ ((rngL 0 T.a.toNat).map F).map T2.b ∧ ∀ x, x ∈ ((rngL 0 T.a.toNat).map F).map T2.b → x ≤ M := by
    obtain ⟨x, e, p, q⟩ := maxL_okK (P := fun m => m ∈ ((rngL 0 T.a.toNat).map F).map T2.b ∧ ∀ x, x ∈ ((rngL 0 T.a.toNat).map F).map T2.b → x ≤ m) ne fun m hm hx => ⟨hm, hx⟩
    exact ⟨x, e, p, q⟩
  obtain ⟨r0, hr0, eM0⟩ : ∃ r, (0 ≤ r ∧ r < T.a) ∧ (F r).b = M := by
    obtain ⟨z, hz, e⟩ := List.mem_map.mp hM
    obtain ⟨r, hr, e2⟩ := List.mem_map.mp hz
    exact ⟨r, (mem r).mp hr, by rw [e2]; exact e⟩
  have leM : ∀ r, 0 ≤ r → r < T.a → (F r).b ≤ M := fun r r1 r2 => mM _ (List.mem_map_of_mem (List.mem_map_of_mem ((mem r).mpr ⟨r1, r2⟩)))
  have bM := bulkb r0 hr0.1 hr0.2
  rw [eM0] at bM
  have fs : m_first_settled K = some (if M - T.a + 1 > 0 then M - T.a + 1 else 0) := by
    rw [ok_iff]
    unfold m_first_settled b_first_settled
    (try simp only [ok_some, ok_none, ok_bind, ok_lift1, ok_lift2, ok_lift3, ok_lift4, ok_bind2, ok_app1, ok_app2, ok_app3, ok_app4, ok_bif, ok_andG, ok_orG, ok_chain, ok_bindOut, bo_nx, bo_rt, bo_bk, bo_ct, ok_finO, fo_nx, fo_rt, nx_nx, nx_rt, ok_mul, ok_mod, ok_div, ok_appG, ok_szG, ok_catG, decide_eq_true_eq, decide_eq_false_iff_not, Bool.not_eq_true', Bool.not_eq_false', cLe, cLt, reduceCtorEq, false_implies, true_implies, implies_true, and_true, true_and])
    have e : seqO ((rngL 0 T.a.toNat).map fun r => some (F r)) = some ((rngL 0 T.a.toNat).map F) := by
      have := seqO_some ((rngL 0 T.a.toNat).map F)
      rw [List.map_map] at this
      exact this
    refine ok_of ck (ok_of be (ok_of le (ok_of e (ok_map T2.b (fun _ _ => rfl) (ok_of eM rfl)))))
  have eD : (enc ((rngL 0 T.a.toNat).map fun r => some (F r)) : PyData) = enc ((rngL 0 T.a.toNat).map F) := by
    have := enc_some ((rngL 0 T.a.toNat).map F)
    rw [List.map_map (f := F)] at this
    exact congrArg PyData.list this
  have rD : RB ((rngL 0 T.a.toNat).map F) (40 * (73 + 2) + 3) := rb_list (by rw [List.length_map, rng_len]; omega) fun y hy => by
    obtain ⟨r, hr, e⟩ := List.mem_map.mp hy
    have := (mem r).mp hr
    have := bulkb r this.1 this.2
    rw [← e]
    exact (rb_t2 (rb_int (by omega)) (rb_int (by omega))).mono (by decide)
  have kD := rb_repr rD (by decide)
  have kD' : reprD (enc ((rngL 0 T.a.toNat).map fun r => some (F r))) = some (enc ((rngL 0 T.a.toNat).map F) : PyData).shown := by rw [eD]; exact kD
  have rT : RB T 73 := (rb_t2 (rb_int (by omega)) (rb_int (by omega))).mono (by decide)
  have kT := rb_repr rT (by decide)
  refine ok_set (show _ = some _ from kK) ?_
  refine ok_set lb ?_
  refine ok_skip ?_ ?_
  · (try simp only [ok_some, ok_none, ok_bind, ok_lift1, ok_lift2, ok_lift3, ok_lift4, ok_bind2, ok_app1, ok_app2, ok_app3, ok_app4, ok_bif, ok_andG, ok_orG, ok_chain, ok_bindOut, bo_nx, bo_rt, bo_bk, bo_ct, ok_finO, fo_nx, fo_rt, nx_nx, nx_rt, ok_mul, ok_mod, ok_div, ok_appG, ok_szG, ok_catG, decide_eq_true_eq, decide_eq_false_iff_not, Bool.not_eq_true', Bool.not_eq_false', cLe, cLt, reduceCtorEq, false_implies, true_implies, implies_true, and_true, true_and])
    exact ok_of bk (ok_of kT (ok_of kT rfl))
  refine ok_set ll ?_
  refine ok_set fsm ?_
  refine ok_skip ?_ ?_
  · (try simp only [ok_some, ok_none, ok_bind, ok_lift1, ok_lift2, ok_lift3, ok_lift4, ok_bind2, ok_app1, ok_app2, ok_app3, ok_app4, ok_bif, ok_andG, ok_orG, ok_chain, ok_bindOut, bo_nx, bo_rt, bo_bk, bo_ct, ok_finO, fo_nx, fo_rt, nx_nx, nx_rt, ok_mul, ok_mod, ok_div, ok_appG, ok_szG, ok_catG, decide_eq_true_eq, decide_eq_false_iff_not, Bool.not_eq_true', Bool.not_eq_false', cLe, cLt, reduceCtorEq, false_implies, true_implies, implies_true, and_true, true_and])
    exact ok_of kD' (ok_of kD rfl)
  refine ok_set (v := M) ?_ ?_
  · rw [ok_iff]
    (try simp only [ok_some, ok_none, ok_bind, ok_lift1, ok_lift2, ok_lift3, ok_lift4, ok_bind2, ok_app1, ok_app2, ok_app3, ok_app4, ok_bif, ok_andG, ok_orG, ok_chain, ok_bindOut, bo_nx, bo_rt, bo_bk, bo_ct, ok_finO, fo_nx, fo_rt, nx_nx, nx_rt, ok_mul, ok_mod, ok_div, ok_appG, ok_szG, ok_catG, decide_eq_true_eq, decide_eq_false_iff_not, Bool.not_eq_true', Bool.not_eq_false', cLe, cLt, reduceCtorEq, false_implies, true_implies, implies_true, and_true, true_and])
    exact ok_map T2.b (fun _ _ => rfl) (ok_of eM rfl)
  refine ok_let (fun m => (T.a + 50 ≤ m ∧ m ≤ 2000) ∧ M < m) ?_ fun most hmost => ?_
  · (try simp only [ok_some, ok_none, ok_bind, ok_lift1, ok_lift2, ok_lift3, ok_lift4, ok_bind2, ok_app1, ok_app2, ok_app3, ok_app4, ok_bif, ok_andG, ok_orG, ok_chain, ok_bindOut, bo_nx, bo_rt, bo_bk, bo_ct, ok_finO, fo_nx, fo_rt, nx_nx, nx_rt, ok_mul, ok_mod, ok_div, ok_appG, ok_szG, ok_catG, decide_eq_true_eq, decide_eq_false_iff_not, Bool.not_eq_true', Bool.not_eq_false', cLe, cLt, reduceCtorEq, false_implies, true_implies, implies_true, and_true, true_and])
    refine ⟨mulOk (by omega) (by omega), mulOk (by omega) (by omega), ?_⟩
    split <;> omega
  refine ok_set (lw most (by omega) (by omega)) ?_
  refine ok_set (v := if M - T.a + 1 > 0 then M - T.a + 1 else 0) rfl ?_
  have hf : 0 ≤ (if M - T.a + 1 > 0 then M - T.a + 1 else 0) ∧ (if M - T.a + 1 > 0 then M - T.a + 1 else 0) ≤ 1600 ∧ (∀ n : Nat, (if M - T.a + 1 > 0 then M - T.a + 1 else 0) ≤ n → M ≤ (n : Int) + T.a - 1) ∧ (0 < (if M - T.a + 1 > 0 then M - T.a + 1 else 0) → (if M - T.a + 1 > 0 then M - T.a + 1 else 0) = M - T.a + 1) := by
    split <;> refine ⟨by omega, by omega, fun n hn => by omega, fun k => by omega⟩
  generalize (if M - T.a + 1 > 0 then M - T.a + 1 else 0) = first at *
  obtain ⟨f0, f1, f2, f3⟩ := hf
  have r1 : RB first 33 := rb_int (by omega)
  have k1 := rb_repr r1 (by decide)
  refine ok_skip ?_ ?_
  · (try simp only [ok_some, ok_none, ok_bind, ok_lift1, ok_lift2, ok_lift3, ok_lift4, ok_bind2, ok_app1, ok_app2, ok_app3, ok_app4, ok_bif, ok_andG, ok_orG, ok_chain, ok_bindOut, bo_nx, bo_rt, bo_bk, bo_ct, ok_finO, fo_nx, fo_rt, nx_nx, nx_rt, ok_mul, ok_mod, ok_div, ok_appG, ok_szG, ok_catG, decide_eq_true_eq, decide_eq_false_iff_not, Bool.not_eq_true', Bool.not_eq_false', cLe, cLt, reduceCtorEq, false_implies, true_implies, implies_true, and_true, true_and])
    exact ok_of fs (ok_of k1 (ok_of k1 rfl))
  have wg : ∀ n : Nat, (n : Int) ≤ most → atI (wN K most.toNat) (n : Int) = some (W K n) := fun n hn => atE (wN_get K (by omega))
  have mU : ∀ n : Nat, 0 ≤ (n : Int) % T.a ∧ (n : Int) % T.a < T.a := fun n => mod_b (by omega)
  refine ok_set (v := (rngL 0 (most - T.a + 1).toNat).map fun x => decide (W K (x.toNat + T.a.toNat) = W K x.toNat + T.b)) ?_ ?_
  · rw [ok_iff]
    (try simp only [ok_some, ok_none, ok_bind, ok_lift1, ok_lift2, ok_lift3, ok_lift4, ok_bind2, ok_app1, ok_app2, ok_app3, ok_app4, ok_bif, ok_andG, ok_orG, ok_chain, ok_bindOut, bo_nx, bo_rt, bo_bk, bo_ct, ok_finO, fo_nx, fo_rt, nx_nx, nx_rt, ok_mul, ok_mod, ok_div, ok_appG, ok_szG, ok_catG, decide_eq_true_eq, decide_eq_false_iff_not, Bool.not_eq_true', Bool.not_eq_false', cLe, cLt, reduceCtorEq, false_implies, true_implies, implies_true, and_true, true_and])
    refine ok_of (rng1_of (by omega) (by omega)) (ok_map (fun x : Int => decide (W K (x.toNat + T.a.toNat) = W K x.toNat + T.b)) (fun x hx => ?_) rfl)
    have hx := mem_rng.mp hx
    have g1 := wg (x.toNat + T.a.toNat) (by omega)
    have g2 := wg x.toNat (by omega)
    rw [show ((x.toNat + T.a.toNat : Nat) : Int) = x + T.a by omega] at g1
    rw [show ((x.toNat : Nat) : Int) = x by omega] at g2
    rw [ok_iff]
    (try simp only [ok_some, ok_none, ok_bind, ok_lift1, ok_lift2, ok_lift3, ok_lift4, ok_bind2, ok_app1, ok_app2, ok_app3, ok_app4, ok_bif, ok_andG, ok_orG, ok_chain, ok_bindOut, bo_nx, bo_rt, bo_bk, bo_ct, ok_finO, fo_nx, fo_rt, nx_nx, nx_rt, ok_mul, ok_mod, ok_div, ok_appG, ok_szG, ok_catG, decide_eq_true_eq, decide_eq_false_iff_not, Bool.not_eq_true', Bool.not_eq_false', cLe, cLt, reduceCtorEq, false_implies, true_implies, implies_true, and_true, true_and])
    exact ok_of g1 (ok_of g2 rfl)
  refine ok_skip ?_ ?_
  · (try simp only [ok_some, ok_none, ok_bind, ok_lift1, ok_lift2, ok_lift3, ok_lift4, ok_bind2, ok_app1, ok_app2, ok_app3, ok_app4, ok_bif, ok_andG, ok_orG, ok_chain, ok_bindOut, bo_nx, bo_rt, bo_bk, bo_ct, ok_finO, fo_nx, fo_rt, nx_nx, nx_rt, ok_mul, ok_mod, ok_div, ok_appG, ok_szG, ok_catG, decide_eq_true_eq, decide_eq_false_iff_not, Bool.not_eq_true', Bool.not_eq_false', cLe, cLt, reduceCtorEq, false_implies, true_implies, implies_true, and_true, true_and])
    rw [List.length_map, rng_len]
    refine fun c => ⟨fun hm => ?_, fun _ c2 => ?_⟩
    · exfalso
      obtain ⟨k, hk⟩ : ∃ k : Nat, first = k := ⟨first.toNat, by omega⟩
      rw [hk, cut_from (by rw [List.length_map, rng_len]; omega)] at hm
      obtain ⟨q, hq⟩ := List.mem_iff_getElem?.mp hm
      rw [List.getElem?_drop, List.getElem?_map] at hq
      have hl : k + q < (most - T.a + 1).toNat := by
        by_cases c3 : k + q < (most - T.a + 1).toNat
        · exact c3
        · rw [List.getElem?_eq_none (by rw [rng_len]; omega)] at hq
          cases hq
      unfold rngL at hq
      rw [List.getElem?_map, List.getElem?_range hl] at hq
      have hq : decide (W K ((0 + ((k + q : Nat) : Int)).toNat + T.a.toNat) = W K (0 + ((k + q : Nat) : Int)).toNat + T.b) = false := Option.some.inj hq
      rw [show (0 + ((k + q : Nat) : Int)).toNat = k + q by omega] at hq
      have hq := of_decide_eq_false hq
      refine hq (gr (k + q) ?_)
      have l1 := leM _ (mU (k + q)).1 (mU (k + q)).2
      have l2 := f2 (k + q) (by omega)
      have fb := (b _ (mU (k + q)).1 (mU (k + q)).2).2.1
      exact congr_le hK (U := T.a) (by omega) fb (by omega)
    · have e3 := f3 c2
      have lt : first - 1 < ((most - T.a + 1).toNat : Int) := by omega
      refine ok_of (v := decide (W K ((first - 1).toNat + T.a.toNat) = W K (first - 1).toNat + T.b)) ?_ ?_
      · rw [atI_eq (by omega) (by rw [List.length_map, rng_len]; omega), List.getElem?_map]
        unfold rngL
        rw [List.getElem?_map, List.getElem?_range (by omega)]
        show some (decide (W K ((0 + (((first - 1).toNat : Nat) : Int)).toNat + T.a.toNat) = _)) = _
        rw [show (0 + (((first - 1).toNat : Nat) : Int)).toNat = (first - 1).toNat by omega]
      · rw [decide_eq_false_iff_not]
        refine ng (first - 1).toNat ?_
        rw [Int.toNat_of_nonneg (by omega), e3, show M - T.a + 1 - 1 = M - T.a by omega]
        have fb := (b _ hr0.1 hr0.2).2.1
        rw [eM0] at fb
        rw [Int.sub_emod_right, fb, eM0]; omega
  refine ok_let (fun l : List Int => ∀ x, x ∈ l → 0 ≤ x ∧ x ≤ 2000) ?_ fun l hl => ok_bindOut.mpr (ok_for (fun _ _ => True) trivial (fun j u y hy _ => ?_) fun u _ => ?_)
  · (try simp only [ok_some, ok_none, ok_bind, ok_lift1, ok_lift2, ok_lift3, ok_lift4, ok_bind2, ok_app1, ok_app2, ok_app3, ok_app4, ok_bif, ok_andG, ok_orG, ok_chain, ok_bindOut, bo_nx, bo_rt, bo_bk, bo_ct, ok_finO, fo_nx, fo_rt, nx_nx, nx_rt, ok_mul, ok_mod, ok_div, ok_appG, ok_szG, ok_catG, decide_eq_true_eq, decide_eq_false_iff_not, Bool.not_eq_true', Bool.not_eq_false', cLe, cLt, reduceCtorEq, false_implies, true_implies, implies_true, and_true, true_and])
    refine ⟨by simp, ok_of (rng1_at (j := 3) (by decide)) (ok_all (fun _ y => 0 ≤ y ∧ y < 200) (fun x hx => ?_) fun m hm hq => ?_)⟩
    · have hx := mem_rng.mp hx
      (try simp only [ok_some, ok_none, ok_bind, ok_lift1, ok_lift2, ok_lift3, ok_lift4, ok_bind2, ok_app1, ok_app2, ok_app3, ok_app4, ok_bif, ok_andG, ok_orG, ok_chain, ok_bindOut, bo_nx, bo_rt, bo_bk, bo_ct, ok_finO, fo_nx, fo_rt, nx_nx, nx_rt, ok_mul, ok_mod, ok_div, ok_appG, ok_szG, ok_catG, decide_eq_true_eq, decide_eq_false_iff_not, Bool.not_eq_true', Bool.not_eq_false', cLe, cLt, reduceCtorEq, false_implies, true_implies, implies_true, and_true, true_and])
      exact ⟨mulOk (by decide) (by omega), mix_ok hd (by omega) (by omega) (by decide)⟩
    · rw [rng_len] at hm
      refine ⟨by simp; omega, fun x hx => ?_⟩
      rw [List.mem_append] at hx
      rcases hx with hx | hx
      · have hx : x = 0 ∨ x = 1 ∨ x = T.a ∨ x = first ∨ x = most ∨ x = 2000 := by simpa using hx
        omega
      · obtain ⟨q, hq2⟩ := List.mem_iff_getElem?.mp hx
        have lq := (List.getElem?_eq_some_iff.mp hq2).1
        have := hq q _ x (List.getElem?_eq_getElem (by rw [rng_len]; omega)) hq2
        omega
  · have yb := hl y (List.mem_of_getElem? hy)
    refine ok_skip ?_ (by (try simp only [ok_some, ok_none, ok_bind, ok_lift1, ok_lift2, ok_lift3, ok_lift4, ok_bind2, ok_app1, ok_app2, ok_app3, ok_app4, ok_bif, ok_andG, ok_orG, ok_chain, ok_bindOut, bo_nx, bo_rt, bo_bk, bo_ct, ok_finO, fo_nx, fo_rt, nx_nx, nx_rt, ok_mul, ok_mod, ok_div, ok_appG, ok_szG, ok_catG, decide_eq_true_eq, decide_eq_false_iff_not, Bool.not_eq_true', Bool.not_eq_false', cLe, cLt, reduceCtorEq, false_implies, true_implies, implies_true, and_true, true_and]))
    (try simp only [ok_some, ok_none, ok_bind, ok_lift1, ok_lift2, ok_lift3, ok_lift4, ok_bind2, ok_app1, ok_app2, ok_app3, ok_app4, ok_bif, ok_andG, ok_orG, ok_chain, ok_bindOut, bo_nx, bo_rt, bo_bk, bo_ct, ok_finO, fo_nx, fo_rt, nx_nx, nx_rt, ok_mul, ok_mod, ok_div, ok_appG, ok_szG, ok_catG, decide_eq_true_eq, decide_eq_false_iff_not, Bool.not_eq_true', Bool.not_eq_false', cLe, cLt, reduceCtorEq, false_implies, true_implies, implies_true, and_true, true_and])
    intro c
    refine ok_of (wt y yb.1 yb.2) (ok_of (v := W K y.toNat) ?_ (by simp))
    have := wg y.toNat (by omega)
    rw [Int.toNat_of_nonneg yb.1] at this; exact this
  · refine ok_set (wt 2000 (by decide) (by decide)) ?_
    refine ok_skip ?_ ?_
    · (try simp only [ok_some, ok_none, ok_bind, ok_lift1, ok_lift2, ok_lift3, ok_lift4, ok_bind2, ok_app1, ok_app2, ok_app3, ok_app4, ok_bif, ok_andG, ok_orG, ok_chain, ok_bindOut, bo_nx, bo_rt, bo_bk, bo_ct, ok_finO, fo_nx, fo_rt, nx_nx, nx_rt, ok_mul, ok_mod, ok_div, ok_appG, ok_szG, ok_catG, decide_eq_true_eq, decide_eq_false_iff_not, Bool.not_eq_true', Bool.not_eq_false', cLe, cLt, reduceCtorEq, false_implies, true_implies, implies_true, and_true, true_and])
      intro c
      refine ok_of (wt (2000 - T.a) (by omega) (by omega)) ?_
      have e := gr (2000 - T.a).toNat (by
        have l1 := leM _ (mU (2000 - T.a).toNat).1 (mU (2000 - T.a).toNat).2
        have l2 := f2 (2000 - T.a).toNat (by omega)
        have fb := (b _ (mU (2000 - T.a).toNat).1 (mU (2000 - T.a).toNat).2).2.1
        exact congr_le hK (U := T.a) (by omega) fb (by omega))
      rw [show (2000 - T.a).toNat + T.a.toNat = (2000 : Int).toNat by omega] at e
      rw [e]
    refine ok_let (fun _ => True) ?_ fun _ _ => ?_
    · (try simp only [ok_some, ok_none, ok_bind, ok_lift1, ok_lift2, ok_lift3, ok_lift4, ok_bind2, ok_app1, ok_app2, ok_app3, ok_app4, ok_bif, ok_andG, ok_orG, ok_chain, ok_bindOut, bo_nx, bo_rt, bo_bk, bo_ct, ok_finO, fo_nx, fo_rt, nx_nx, nx_rt, ok_mul, ok_mod, ok_div, ok_appG, ok_szG, ok_catG, decide_eq_true_eq, decide_eq_false_iff_not, Bool.not_eq_true', Bool.not_eq_false', cLe, cLt, reduceCtorEq, false_implies, true_implies, implies_true, and_true, true_and])
      rw [List.length_map, rng_len]; omega
    refine ok_skip ?_ (by (try simp only [ok_some, ok_none, ok_bind, ok_lift1, ok_lift2, ok_lift3, ok_lift4, ok_bind2, ok_app1, ok_app2, ok_app3, ok_app4, ok_bif, ok_andG, ok_orG, ok_chain, ok_bindOut, bo_nx, bo_rt, bo_bk, bo_ct, ok_finO, fo_nx, fo_rt, nx_nx, nx_rt, ok_mul, ok_mod, ok_div, ok_appG, ok_szG, ok_catG, decide_eq_true_eq, decide_eq_false_iff_not, Bool.not_eq_true', Bool.not_eq_false', cLe, cLt, reduceCtorEq, false_implies, true_implies, implies_true, and_true, true_and]))
    (try simp only [ok_some, ok_none, ok_bind, ok_lift1, ok_lift2, ok_lift3, ok_lift4, ok_bind2, ok_app1, ok_app2, ok_app3, ok_app4, ok_bif, ok_andG, ok_orG, ok_chain, ok_bindOut, bo_nx, bo_rt, bo_bk, bo_ct, ok_finO, fo_nx, fo_rt, nx_nx, nx_rt, ok_mul, ok_mod, ok_div, ok_appG, ok_szG, ok_catG, decide_eq_true_eq, decide_eq_false_iff_not, Bool.not_eq_true', Bool.not_eq_false', cLe, cLt, reduceCtorEq, false_implies, true_implies, implies_true, and_true, true_and])
    exact ok_of fsm (ok_of kD' (ok_of kD ⟨fun c => absurd rfl c, fun _ => ok_of kK rfl⟩))
end Lay.K17

open PySem PySem.W PyProof.Rows
set_option maxHeartbeats 0 in
theorem PySem.Challenge.cw_wholebest_k17_whole_worths_that_settle_holds : PySem.Challenge.rw_wholebest_k17_whole_worths_that_settle.Holds := by
  w_on; o_law; k_head; (case hw => w_witness2)
  k_fill
  refine Lay.law_walk (l := PySem.Challenge.rw_wholebest_k17_whole_worths_that_settle) (n := 63) (k := 4) (x := "script") (sp := fun K => Lay.spR K .dd Lay.K17.m_law) rfl (by decide) rfl ⟨rfl, by decide, by decide⟩ (fun w h Y => PySem.W.kIn_of Y) ?F (fun K H a ns hl hO hS => Lay.law_sp Lay.K17.law_true K H a ns hl hO hS)
  case F =>
    intro w mg fa h KX G hmg
    refine' Lay.K17.all_mk KX G hmg ?a0 ?l0 ?c0 ?k0 ?a1 ?l1 ?c1 ?k1 ?a2 ?l2 ?c2 ?k2 ?a3 ?l3 ?c3 ?k3 ?a4 ?l4 ?c4 ?k4 ?a5 ?l5 ?c5 ?k5 ?a6 ?l6 ?c6 ?k6 ?a7 ?l7 ?c7 ?k7 ?a8 ?l8 ?c8 ?k8 ?a9 ?l9 ?c9 ?k9 ?a10 ?l10 ?c10 ?k10 ?a11 ?l11 ?c11 ?k11 ?a12 ?l12 ?c12 ?k12 ?a13 ?l13 ?c13 ?k13 ?a14 ?l14 ?c14 ?k14 ?a15 ?l15 ?c15 ?k15 ?z0 ?z1 ?z2 ?z3 ?z4 ?z5 ?z6 ?z7 ?z8 ?z9 ?z10 ?z11
    (case a0 => k_is)
    (case l0 => k_is)
    (case c0 => k_is)
    (case k0 => k_is)
    (case a1 => k_is)
    (case l1 => k_is)
    (case c1 => k_is)
    (case k1 => k_is)
    (case a2 => k_is)
    (case l2 => k_is)
    (case c2 => k_is)
    (case k2 => k_is)
    (case a3 => k_is)
    (case l3 => k_is)
    (case c3 => k_is)
    (case k3 => k_is)
    (case a4 => k_is)
    (case l4 => k_is)
    (case c4 => k_is)
    (case k4 => k_is)
    (case a5 => k_is)
    (case l5 => k_is)
    (case c5 => k_is)
    (case k5 => k_is)
    (case a6 => k_is)
    (case l6 => k_is)
    (case c6 => k_is)
    (case k6 => k_is)
    (case a7 => k_is)
    (case l7 => k_is)
    (case c7 => k_is)
    (case k7 => k_is)
    (case a8 => k_is)
    (case l8 => k_is)
    (case c8 => k_is)
    (case k8 => k_is)
    (case a9 => k_is)
    (case l9 => k_is)
    (case c9 => k_is)
    (case k9 => k_is)
    (case a10 => k_is)
    (case l10 => k_is)
    (case c10 => k_is)
    (case k10 => k_is)
    (case a11 => k_is)
    (case l11 => k_is)
    (case c11 => k_is)
    (case k11 => k_is)
    (case a12 => k_is)
    (case l12 => k_is)
    (case c12 => k_is)
    (case k12 => k_is)
    (case a13 => k_is)
    (case l13 => k_is)
    (case c13 => k_is)
    (case k13 => k_is)
    (case a14 => k_is)
    (case l14 => k_is)
    (case c14 => k_is)
    (case k14 => k_is)
    (case a15 => k_is)
    (case l15 => k_is)
    (case c15 => k_is)
    (case k15 => k_is)
    (case z0 => k_is)
    (case z1 => k_is)
    (case z2 => k_is)
    (case z3 => k_is)
    (case z4 => k_is)
    (case z5 => k_is)
    (case z6 => k_is)
    (case z7 => k_is)
    (case z8 => k_is)
    (case z9 => k_is)
    (case z10 => k_is)
    (case z11 => k_is)
