import PyProof.Rows.All
import Wide.All
import OpenK.AllK
import Wide.FinOn
import HandS.ForMost
import HandS.Wide
import HandS.Star
import HandS.Zip
import HandS.SortInts
import HandS.TupAny
import HandS.Deep
import KE.GoesMore
import KE.GoesEnum
import HandS.Gcd
import HandS.Conv
import KE.SortData
import HandS.NoneIn
import HandS.Style
import HandS.TupMul
import PySem.Challenge.RW_wholebest_k36_whole_full_rows
set_option Elab.async false
set_option linter.all false
set_option maxRecDepth 100000
/-! Lay1: typed data over HandS: what slots hold, expressions, statements. -/
namespace Lay
open PySem PySem.Spec PyProof.Rows L2

/-! ### typed data -/
class Enc (α : Type) where
  enc : α → PyData
open Enc (enc)
instance : Enc Int := ⟨PyData.int⟩
instance : Enc Bool := ⟨PyData.bool⟩
instance : Enc Str := ⟨PyData.str⟩
instance : Enc Unit := ⟨fun _ => PyData.none⟩
instance {α : Type} [Enc α] : Enc (List α) := ⟨fun l => PyData.list (l.map enc)⟩
instance {α : Type} [Enc α] : Enc (Option α) := ⟨fun o => match o with | none => PyData.none | some x => enc x⟩
/-- a tuple of any length -/
structure Tup (α : Type) where
  l : List α
  deriving DecidableEq
instance {α : Type} [Enc α] : Enc (Tup α) := ⟨fun t => PyData.tuple (t.l.map enc)⟩
structure T2 (α β : Type) where
  a : α
  b : β
  deriving DecidableEq
structure T3 (α β γ : Type) where
  a : α
  b : β
  c : γ
  deriving DecidableEq
structure T4 (α β γ δ : Type) where
  a : α
  b : β
  c : γ
  d : δ
  deriving DecidableEq
instance {α β : Type} [Enc α] [Enc β] : Enc (T2 α β) := ⟨fun t => PyData.tuple [enc t.a, enc t.b]⟩
instance {α β γ : Type} [Enc α] [Enc β] [Enc γ] : Enc (T3 α β γ) := ⟨fun t => PyData.tuple [enc t.a, enc t.b, enc t.c]⟩
instance {α β γ δ : Type} [Enc α] [Enc β] [Enc γ] [Enc δ] : Enc (T4 α β γ δ) := ⟨fun t => PyData.tuple [enc t.a, enc t.b, enc t.c, enc t.d]⟩

/-! ### the data at a value: lists and tuples that are tracked (or known) -/
mutual
inductive Dq (H : Hp) : V → PyData → Prop
  | non : Dq H .non .none
  | bl (b : Bool) : Dq H (.bl b) (.bool b)
  | int (i : Int) : Dq H (.int i) (.int i)
  | str (x : Str) : Dq H (.str x) (.str x)
  | lst {a : Addr} {xs : List V} {ds : List PyData} : Rd H a (.lst xs) → DqAll H xs ds → Dq H (.ref a) (.list ds)
  | tup {a : Addr} {xs : List V} {ds : List PyData} : Rd H a (.tup xs) → DqAll H xs ds → Dq H (.ref a) (.tuple ds)
inductive DqAll (H : Hp) : List V → List PyData → Prop
  | nil : DqAll H [] []
  | cons {v : V} {vs : List V} {d : PyData} {ds : List PyData} : Dq H v d → DqAll H vs ds → DqAll H (v :: vs) (d :: ds)
end
theorem rd_mono {H H' : Hp} {a : Addr} {u : HO} (e : Same H H') (h : Rd H a u) : Rd H' a u := h.imp (e _ _) fun ⟨o, q⟩ => ⟨o, e _ _ q⟩
mutual
theorem Dq_mono {H H' : Hp} (e : Same H H') : ∀ (d : PyData) (v : V), Dq H v d → Dq H' v d
  | .none, _, h => by cases h; exact .non
  | .bool b, _, h => by cases h; exact .bl _
  | .int i, _, h => by cases h; exact .int _
  | .str x, _, h => by cases h; exact .str _
  | .list ds, _, h => by cases h with | lst h1 h2 => exact .lst (rd_mono e h1) (DqAll_mono e _ _ h2)
  | .tuple ds, _, h => by cases h with | tup h1 h2 => exact .tup (rd_mono e h1) (DqAll_mono e _ _ h2)
  | .dict _, _, h => by cases h
theorem DqAll_mono {H H' : Hp} (e : Same H H') : ∀ (ds : List PyData) (vs : List V), DqAll H vs ds → DqAll H' vs ds
  | [], _, h => by cases h; exact .nil
  | d :: ds, _, h => by cases h with | cons h1 h2 => exact .cons (Dq_mono e _ _ h1) (DqAll_mono e _ _ h2)
end
mutual
theorem Dq_dp {K : PySem.W.Frag} {H : Hp} : ∀ (d : PyData) (v : V), Dq H v d → Dp K H v d
  | .none, _, h => by cases h; exact .non
  | .bool b, _, h => by cases h; exact .bl _
  | .int i, _, h => by cases h; exact .int _
  | .str x, _, h => by cases h; exact .str _
  | .list ds, _, h => by cases h with | lst h1 h2 => exact .lst (.inl h1) (DqAll_dp _ _ h2)
  | .tuple ds, _, h => by cases h with | tup h1 h2 => exact .tup (.inl h1) (DqAll_dp _ _ h2)
  | .dict _, _, h => by cases h
theorem DqAll_dp {K : PySem.W.Frag} {H : Hp} : ∀ (ds : List PyData) (vs : List V), DqAll H vs ds → DpAll K H vs ds
  | [], _, h => by cases h; exact .nil
  | d :: ds, _, h => by cases h with | cons h1 h2 => exact .cons (Dq_dp _ _ h1) (DqAll_dp _ _ h2)
end
section
variable {H H' : Hp}
theorem DqAll.len : ∀ {vs : List V} {ds : List PyData}, DqAll H vs ds → vs.length = ds.length
  | _, _, .nil => rfl
  | _, _, .cons _ h => by simp [DqAll.len h]
theorem DqAll.app : ∀ {vs ws : List V} {ds es : List PyData}, DqAll H vs ds → DqAll H ws es → DqAll H (vs ++ ws) (ds ++ es)
  | _, _, _, _, .nil, h => h
  | _, _, _, _, .cons h t, h' => .cons h (DqAll.app t h')
theorem DqAll.at : ∀ {vs : List V} {ds : List PyData} {i : Nat} {d : PyData}, DqAll H vs ds → ds[i]? = some d → ∃ v, vs[i]? = some v ∧ Dq H v d
  | _, _, _, _, .nil, h => by simp at h
  | _, _, 0, _, .cons h _, e => by simp at e; subst e; exact ⟨_, rfl, h⟩
  | _, _, i + 1, _, .cons _ t, e => by
    obtain ⟨v, h1, h2⟩ := DqAll.at (i := i) t (by simpa using e)
    exact ⟨v, by simpa using h1, h2⟩
theorem DqAll.set : ∀ {vs : List V} {ds : List PyData} {v : V} {d : PyData} (i : Nat), DqAll H vs ds → Dq H v d → DqAll H (vs.set i v) (ds.set i d)
  | _, _, _, _, _, .nil, _ => .nil
  | _, _, _, _, 0, .cons _ t, h => .cons h t
  | _, _, _, _, i + 1, .cons h0 t, h => .cons h0 (DqAll.set i t h)
theorem DqAll.take : ∀ {vs : List V} {ds : List PyData} (n : Nat), DqAll H vs ds → DqAll H (vs.take n) (ds.take n)
  | _, _, 0, _ => .nil
  | _, _, _ + 1, .nil => .nil
  | _, _, n + 1, .cons h t => .cons h (DqAll.take n t)
theorem DqAll.drop : ∀ {vs : List V} {ds : List PyData} (n : Nat), DqAll H vs ds → DqAll H (vs.drop n) (ds.drop n)
  | _, _, 0, h => h
  | _, _, _ + 1, .nil => .nil
  | _, _, n + 1, .cons _ t => DqAll.drop n t
end

/-! ### slots -/
/-- what is known of a slot: nothing; persistent data; a list of the def's own -/
inductive Sl where
  | un
  | dat (d : PyData)
  | own (ds : List PyData)
  | rd (ds : List PyData)
  | old (d : PyData)
  | nw (d : PyData)
/-- what is known in I and F both -/
def rgO (F I : Hp) : Hp := fun a => match F a with | none => none | some _ => I a
/-- what is known in I; lists only where they are not in F -/
def rgN (F I : Hp) : Hp := fun a => match I a with
  | some (.lst xs) => (match F a with | none => some (.lst xs) | some _ => none)
  | some (.frz _ (.lst _)) => none
  | o => o
theorem rgO_le {F I : Hp} : Same (rgO F I) I := fun a u h => by
  unfold rgO at h; split at h
  · cases h
  · exact h
theorem rgN_le {F I : Hp} : Same (rgN F I) I := fun a u h => by
  unfold rgN at h; split at h
  · rename_i xs e
    split at h
    · rw [e]; exact h
    · cases h
  · cases h
  · exact h
theorem rgO_mono {F I I' : Hp} (e : Same I I') : Same (rgO F I) (rgO F I') := fun a u h => by
  unfold rgO at h ⊢
  split at h
  · cases h
  · exact e _ _ h
theorem rgN_mono {F I I' : Hp} (e : Same I I') : Same (rgN F I) (rgN F I') := fun a u h => by
  have h' := rgN_le _ _ h
  have h2 := e _ _ h'
  unfold rgN at h ⊢
  rw [h'] at h; rw [h2]
  exact h
theorem rgO_same {F F' I : Hp} (h : ∀ a, I a ≠ none → (F' a = none ↔ F a = none)) : rgO F' I = rgO F I := funext fun a => by
  unfold rgO
  by_cases c : I a = none
  · cases F' a <;> cases F a <;> simp [c]
  · have := h a c
    cases e : F' a <;> cases e' : F a <;> simp_all
theorem rgN_same {F F' I : Hp} (h : ∀ a, I a ≠ none → (F' a = none ↔ F a = none)) : rgN F' I = rgN F I := funext fun a => by
  unfold rgN
  split
  · rename_i xs e
    have := h a (by rw [e]; simp)
    cases e : F' a <;> cases e' : F a <;> simp_all
  · rfl
  · rfl
def slAt : List Sl → Nat → Sl
  | [], _ => .un
  | s :: _, 0 => s
  | _ :: r, i + 1 => slAt r i
theorem slAt_set_self {s : Sl} : ∀ {G : List Sl} {i : Nat}, i < G.length → slAt (G.set i s) i = s
  | [], _, h => by simp at h
  | _ :: _, 0, _ => rfl
  | _ :: r, i + 1, h => slAt_set_self (G := r) (i := i) (by simpa using h)
theorem slAt_set_ne {s : Sl} : ∀ {G : List Sl} {i j : Nat}, i ≠ j → slAt (G.set i s) j = slAt G j
  | [], _, _, _ => rfl
  | _ :: _, 0, 0, h => absurd rfl h
  | _ :: _, 0, _ + 1, _ => rfl
  | _ :: _, _ + 1, 0, _ => rfl
  | _ :: r, i + 1, j + 1, h => slAt_set_ne (G := r) (i := i) (j := j) (by omega)
theorem slAt_out {G : List Sl} {i : Nat} (h : G.length ≤ i) : slAt G i = .un := by
  induction G generalizing i with
  | nil => rfl
  | cons s r ih => cases i with
    | zero => simp at h
    | succ i => exact ih (by simpa using h)

def SlR (K : PySem.W.Frag) (F I H : Hp) : Sl → Option V → Option Addr → Prop
  | .un, _, p => p = none
  | .old d, v, p => p = none ∧ ∃ x, v = some x ∧ Dq (rgO F I) x d
  | .nw d, v, p => p = none ∧ ∃ x, v = some x ∧ Dq (rgN F I) x d
  | .dat d, v, p => p = none ∧ ∃ x, v = some x ∧ Dq I x d
  | .own ds, v, p => ∃ a xs, p = some a ∧ v = some (.ref a) ∧ I a = none ∧ H a = some (.lst xs) ∧ DqAll I xs ds
  | .rd ds, v, p => p = none ∧ ∃ a xs, v = some (.ref a) ∧ SqL K I a xs ∧ DqAll I xs ds

/-- the state: F what stands for others (kept), I the persistent data, ps the def's own lists -/
structure RS (K : PySem.W.Frag) (F : Hp) (G : List Sl) (σ : L2.St) (H I : Hp) (ps : Nat → Option Addr) : Prop where
  si : Same I H
  sf : Same F H
  fo : ∀ i a, ps i = some a → F a = none
  len : G.length = σ.length
  sl : ∀ i, i < G.length → ∃ v, σ[i]? = some v ∧ SlR K F I H (slAt G i) v (ps i)
  out : ∀ i, G.length ≤ i → ps i = none
  dis : ∀ i j a, ps i = some a → ps j = some a → i = j
/-- the persistent part grows outside of F -/
structure Grow (F I I' : Hp) : Prop where
  same : Same I I'
  out : ∀ a, I' a ≠ none → I a ≠ none ∨ F a = none
theorem Grow.refl {F I : Hp} : Grow F I I := ⟨Same.refl _, fun _ h => .inl h⟩
theorem Grow.trans {F I J L : Hp} (a : Grow F I J) (b : Grow F J L) : Grow F I L :=
  ⟨a.same.trans b.same, fun x h => (b.out x h).elim (a.out x) .inr⟩
theorem Same.none {H H' : Hp} (e : Same H H') {a : Addr} (h : H' a = none) : H a = none := e.free h
theorem same_upd {H : Hp} {p : Addr} {o : HO} (h : H p = none) : Same H (upd H p o) := fun b x e => by
  rw [upd_ne (ne_of_none e h)]; exact e
theorem same_upd2 {H J : Hp} {p : Addr} {o : HO} (e : Same J H) (h : J p = none) : Same J (upd H p o) := fun b x q => by
  rw [upd_ne (ne_of_none q h)]; exact e _ _ q
theorem upd_iff {F I : Hp} {D : Addr} {o : HO} (n : I D = none) : ∀ a, I a ≠ none → (upd F D o a = none ↔ F a = none) := fun a h => by
  rw [upd_ne (fun c : a = D => h (by rw [c]; exact n))]
theorem Grow.new {F I : Hp} {p : Addr} {o : HO} (hI : I p = none) (hF : F p = none) : Grow F I (upd I p o) := by
  refine ⟨same_upd hI, fun a h => ?_⟩
  by_cases e : a = p
  · subst e; exact .inr hF
  · rw [upd_ne e] at h; exact .inl h

section
variable {K : PySem.W.Frag} {F : Hp} {G : List Sl} {σ : L2.St} {H H' I I' : Hp} {ps : Nat → Option Addr}
theorem SlR.mono {s : Sl} {v : Option V} {p : Option Addr} (h : SlR K F I H s v p) (e : Same I I') (hp : ∀ a, p = some a → I' a = none ∧ ∀ o, H a = some o → H' a = some o) : SlR K F I' H' s v p := by
  cases s with
  | un => exact h
  | old d => obtain ⟨e1, x, e2, q⟩ := h; exact ⟨e1, x, e2, Dq_mono (rgO_mono e) _ _ q⟩
  | nw d => obtain ⟨e1, x, e2, q⟩ := h; exact ⟨e1, x, e2, Dq_mono (rgN_mono e) _ _ q⟩
  | dat d => obtain ⟨e1, x, e2, q⟩ := h; exact ⟨e1, x, e2, Dq_mono e _ _ q⟩
  | own ds =>
    obtain ⟨a, xs, e1, e2, n, q, r⟩ := h
    obtain ⟨n', k⟩ := hp a e1
    exact ⟨a, xs, e1, e2, n', k _ q, DqAll_mono e _ _ r⟩
  | rd ds => obtain ⟨e1, a, xs, e2, q, d⟩ := h; exact ⟨e1, a, xs, e2, Same.seq e q, DqAll_mono e _ _ d⟩
/-- an own list's address, as it is known -/
theorem RS.own_at (R : RS K F G σ H I ps) {i : Nat} {a : Addr} (h : ps i = some a) : I a = none ∧ F a = none ∧ ∃ xs, H a = some (.lst xs) := by
  have hi : i < G.length := by
    by_cases c : i < G.length
    · exact c
    · rw [R.out i (by omega)] at h; cases h
  obtain ⟨v, _, q⟩ := R.sl i hi
  cases s : slAt G i with
  | un => rw [s] at q; rw [show ps i = none from q] at h; cases h
  | dat d => rw [s] at q; rw [q.1] at h; cases h
  | rd d => rw [s] at q; rw [q.1] at h; cases h
  | old d => rw [s] at q; rw [q.1] at h; cases h
  | nw d => rw [s] at q; rw [q.1] at h; cases h
  | own ds =>
    rw [s] at q
    obtain ⟨b, xs, e1, e2, n, q, r⟩ := q
    rw [h] at e1; cases e1
    exact ⟨n, R.fo i a h, xs, q⟩
/-- the heap grows to H', the persistent part to I' -/
theorem RS.grow (R : RS K F G σ H I ps) (e : Same H H') (si : Same I' H') (g : Same I I') (n : ∀ i a, ps i = some a → I' a = none) : RS K F G σ H' I' ps where
  si := si
  sf := R.sf.trans e
  fo := R.fo
  len := R.len
  sl := fun i hi => by
    obtain ⟨v, h1, h2⟩ := R.sl i hi
    exact ⟨v, h1, h2.mono g fun a ha => ⟨n i a ha, fun o q => e _ _ q⟩⟩
  out := R.out
  dis := R.dis
/-- a new persistent object -/
theorem RS.new (R : RS K F G σ H I ps) {p : Addr} {o : HO} (h : H p = none) : RS K F G σ (upd H p o) (upd I p o) ps := by
  have hI : I p = none := R.si.free h
  refine R.grow (same_upd h) (fun b x q => ?_) (same_upd hI) fun i a ha => ?_
  · by_cases e : b = p
    · subst e; rw [upd_same] at q ⊢; exact q
    · rw [upd_ne e] at q ⊢; exact R.si _ _ q
  · obtain ⟨n, _, xs, q⟩ := R.own_at ha
    rw [upd_ne (ne_of_none q h)]; exact n
theorem RS.grow_new (R : RS K F G σ H I ps) {p : Addr} {o : HO} (h : H p = none) : Grow F I (upd I p o) := Grow.new (R.si.free h) (R.sf.free h)
/-- a new object that is not persistent (yet) -/
theorem RS.newOwn (R : RS K F G σ H I ps) {p : Addr} {o : HO} (h : H p = none) : RS K F G σ (upd H p o) I ps :=
  R.grow (same_upd h) (R.si.trans (same_upd h)) (Same.refl _) fun i a ha => (R.own_at ha).1
/-- an object outside all is written -/
theorem RS.wr (R : RS K F G σ H I ps) {p : Addr} {o : HO} (hI : I p = none) (hF : F p = none) (hp : ∀ i, ps i ≠ some p) : RS K F G σ (upd H p o) I ps where
  si := same_upd2 R.si hI
  sf := same_upd2 R.sf hF
  fo := R.fo
  len := R.len
  sl := fun i hi => by
    obtain ⟨v, h1, h2⟩ := R.sl i hi
    refine ⟨v, h1, h2.mono (Same.refl _) fun a ha => ⟨(R.own_at ha).1, fun o q => ?_⟩⟩
    rw [upd_ne (fun e : a = p => hp i (by rw [← e]; exact ha))]; exact q
  out := R.out
  dis := R.dis
/-- what stands for others may be named otherwise -/
theorem RS.frame (R : RS K F G σ H I ps) {F' : Hp} (s : Same F' H) (n : ∀ i a, ps i = some a → F' a = none) (h : ∀ a, I a ≠ none → (F' a = none ↔ F a = none)) : RS K F' G σ H I ps := ⟨R.si, s, n, R.len, fun i hi => by
  obtain ⟨v, h1, h2⟩ := R.sl i hi
  refine ⟨v, h1, ?_⟩
  cases e : slAt G i with
  | un => rw [e] at h2; exact h2
  | dat d => rw [e] at h2; exact h2
  | own d => rw [e] at h2; exact h2
  | rd d => rw [e] at h2; exact h2
  | old d => rw [e] at h2; obtain ⟨e1, x, e2, q⟩ := h2; exact ⟨e1, x, e2, by rw [rgO_same h]; exact q⟩
  | nw d => rw [e] at h2; obtain ⟨e1, x, e2, q⟩ := h2; exact ⟨e1, x, e2, by rw [rgN_same h]; exact q⟩, R.out, R.dis⟩
/-- a slot is stored: persistent data -/
def psDel (ps : Nat → Option Addr) (i : Nat) : Nat → Option Addr := fun j => if j = i then none else ps j
def psSet (ps : Nat → Option Addr) (i : Nat) (a : Addr) : Nat → Option Addr := fun j => if j = i then some a else ps j
theorem RS.setDat (R : RS K F G σ H I ps) {i : Nat} {v : V} {d : PyData} (h : Dq I v d) : RS K F (G.set i (.dat d)) (σ.set i (some v)) H I (psDel ps i) where
  si := R.si
  sf := R.sf
  fo := fun j a h => by
    unfold psDel at h; split at h
    · cases h
    · exact R.fo j a h
  len := by simp [R.len]
  sl := fun j hj => by
    rw [List.length_set] at hj
    obtain ⟨w, h1, h2⟩ := R.sl j hj
    by_cases e : j = i
    · subst e
      refine ⟨some v, List.getElem?_set_self (by rw [← R.len]; exact hj), ?_⟩
      rw [slAt_set_self hj]
      exact ⟨if_pos rfl, v, rfl, h⟩
    · refine ⟨w, by rw [List.getElem?_set_ne (Ne.symm e)]; exact h1, ?_⟩
      rw [slAt_set_ne (Ne.symm e), show psDel ps i j = ps j from if_neg e]
      exact h2
  out := fun j hj => by
    unfold psDel; split
    · rfl
    · exact R.out j (by simpa using hj)
  dis := fun j l a h1 h2 => by
    unfold psDel at h1 h2
    split at h1
    · cases h1
    · split at h2
      · cases h2
      · exact R.dis j l a h1 h2
theorem RS.setOwn (R : RS K F G σ H I ps) {i : Nat} {p : Addr} {xs : List V} {ds : List PyData} (hi : i < G.length) (hI : I p = none) (hF : F p = none) (hp : ∀ j, ps j ≠ some p) (hH : H p = some (.lst xs)) (h : DqAll I xs ds) :
    RS K F (G.set i (.own ds)) (σ.set i (some (.ref p))) H I (psSet ps i p) where
  si := R.si
  sf := R.sf
  fo := fun j a h => by
    unfold psSet at h; split at h
    · cases h; exact hF
    · exact R.fo j a h
  len := by simp [R.len]
  sl := fun j hj => by
    rw [List.length_set] at hj
    obtain ⟨w, h1, h2⟩ := R.sl j hj
    by_cases e : j = i
    · subst e
      refine ⟨some (.ref p), List.getElem?_set_self (by rw [← R.len]; exact hj), ?_⟩
      rw [slAt_set_self hj]
      exact ⟨p, xs, if_pos rfl, rfl, hI, hH, h⟩
    · refine ⟨w, by rw [List.getElem?_set_ne (Ne.symm e)]; exact h1, ?_⟩
      rw [slAt_set_ne (Ne.symm e), show psSet ps i p j = ps j from if_neg e]
      exact h2
  out := fun j hj => by
    unfold psSet; split
    · rename_i e; subst e; rw [List.length_set] at hj; omega
    · exact R.out j (by simpa using hj)
  dis := fun j l a h1 h2 => by
    unfold psSet at h1 h2
    split at h1
    · cases h1
      split at h2
      · omega
      · exact absurd h2 (hp l)
    · split at h2
      · cases h2; exact absurd h1 (hp j)
      · exact R.dis j l a h1 h2
/-- nothing is known of a slot any more -/
theorem RS.setUn (R : RS K F G σ H I ps) {i : Nat} {v : Option V} : RS K F (G.set i .un) (σ.set i v) H I (psDel ps i) where
  si := R.si
  sf := R.sf
  fo := fun j a h => by
    unfold psDel at h; split at h
    · cases h
    · exact R.fo j a h
  len := by simp [R.len]
  sl := fun j hj => by
    rw [List.length_set] at hj
    obtain ⟨w, h1, h2⟩ := R.sl j hj
    by_cases e : j = i
    · subst e
      refine ⟨v, List.getElem?_set_self (by rw [← R.len]; exact hj), ?_⟩
      rw [slAt_set_self hj]
      exact if_pos rfl
    · refine ⟨w, by rw [List.getElem?_set_ne (Ne.symm e)]; exact h1, ?_⟩
      rw [slAt_set_ne (Ne.symm e), show psDel ps i j = ps j from if_neg e]
      exact h2
  out := fun j hj => by
    unfold psDel; split
    · rfl
    · exact R.out j (by simpa using hj)
  dis := fun j l a h1 h2 => by
    unfold psDel at h1 h2
    split at h1
    · cases h1
    · split at h2
      · cases h2
      · exact R.dis j l a h1 h2
/-- an own list is written -/
theorem RS.wrOwn (R : RS K F G σ H I ps) {i : Nat} {p : Addr} {ys : List V} {es : List PyData} (hp : ps i = some p) (h : DqAll I ys es) : RS K F (G.set i (.own es)) σ (upd H p (.lst ys)) I ps where
  si := same_upd2 R.si (R.own_at hp).1
  sf := same_upd2 R.sf (R.own_at hp).2.1
  fo := R.fo
  len := by simp [R.len]
  sl := fun j hj => by
    rw [List.length_set] at hj
    obtain ⟨w, h1, h2⟩ := R.sl j hj
    by_cases e : j = i
    · subst e
      refine ⟨w, h1, ?_⟩
      rw [slAt_set_self hj]
      refine ⟨p, ys, hp, ?_, (R.own_at hp).1, upd_same, h⟩
      cases s : slAt G j with
      | un => rw [s] at h2; rw [show ps j = none from h2] at hp; cases hp
      | dat d => rw [s] at h2; rw [h2.1] at hp; cases hp
      | rd d => rw [s] at h2; rw [h2.1] at hp; cases hp
      | old d => rw [s] at h2; rw [h2.1] at hp; cases hp
      | nw d => rw [s] at h2; rw [h2.1] at hp; cases hp
      | own ds =>
        rw [s] at h2
        obtain ⟨a, xs, e1, e2, _⟩ := h2
        rw [hp] at e1; cases e1; exact e2
    · refine ⟨w, h1, ?_⟩
      rw [slAt_set_ne (Ne.symm e)]
      refine h2.mono (Same.refl _) fun a ha => ⟨(R.own_at ha).1, fun o q => ?_⟩
      rw [upd_ne (fun z : a = p => e (R.dis j i a ha (by rw [z]; exact hp)))]; exact q
  out := fun j hj => R.out j (by simpa using hj)
  dis := R.dis
/-- an own list becomes persistent -/
theorem RS.frz (R : RS K F G σ H I ps) {i : Nat} {ds : List PyData} (hs : slAt G i = .own ds) : ∃ I', Grow F I I' ∧ RS K F (G.set i (.dat (.list ds))) σ H I' (psDel ps i) := by
  have hi : i < G.length := by
    by_cases c : i < G.length
    · exact c
    · rw [slAt_out (by omega)] at hs; cases hs
  obtain ⟨v, h1, h2⟩ := R.sl i hi
  rw [hs] at h2
  obtain ⟨a, xs, e1, e2, n, q, r⟩ := h2
  have g : Same I (upd I a (.lst xs)) := same_upd n
  refine ⟨upd I a (.lst xs), Grow.new n (R.fo i a e1), ?_⟩
  refine ⟨fun b x z => ?_, R.sf, fun j b z => ?_, by simp [R.len], fun j hj => ?_, fun j hj => ?_, fun j l b z1 z2 => ?_⟩
  · by_cases e : b = a
    · subst e; rw [upd_same] at z; cases z; exact q
    · rw [upd_ne e] at z; exact R.si _ _ z
  · unfold psDel at z; split at z
    · cases z
    · exact R.fo j b z
  · rw [List.length_set] at hj
    obtain ⟨w, k1, k2⟩ := R.sl j hj
    by_cases e : j = i
    · subst e
      rw [h1] at k1; cases k1
      refine ⟨v, h1, ?_⟩
      rw [slAt_set_self hj]
      refine ⟨if_pos rfl, .ref a, e2, .lst (.inl upd_same) (DqAll_mono g _ _ r)⟩
    · refine ⟨w, k1, ?_⟩
      rw [slAt_set_ne (Ne.symm e), show psDel ps i j = ps j from if_neg e]
      refine k2.mono g fun b hb => ⟨?_, fun o z => z⟩
      rw [upd_ne (fun z : b = a => e (R.dis j i a (by rw [← z]; exact hb) e1))]
      exact (R.own_at hb).1
  · unfold psDel; split
    · rfl
    · exact R.out j (by simpa using hj)
  · unfold psDel at z1 z2
    split at z1
    · cases z1
    · split at z2
      · cases z2
      · exact R.dis j l b z1 z2
end
end Lay

set_option Elab.async false
set_option linter.all false
set_option maxRecDepth 100000
/-! Lay2: expressions. -/
namespace Lay
open PySem PySem.Spec PyProof.Rows L2
open Lay.Enc (enc)

/-! ### the context of a def's body or of a comprehension's block -/
def fnOf : Option Scope → Str → Bool
  | none => fun _ => true
  | some scope => fun x => scope.names.lookup x == some .cell
structure Ctx (X : Cx) (N : List Str) (sc : Scope) (fs : Option Scope) (k : Nat) : Prop where
  n : X.N = N
  s : X.env.scope = sc
  fk : sc.kind = .function
  calm : X.calm = true
  nd : N.Nodup
  gd : X.A.guards = some []
  rm : Room k X.A
  px : PassesOwn (model X.prog X.w) X.A X.env X.xe
  fn : X.fn = fnOf fs
theorem Ctx.blk {X : Cx} {N : List Str} {sc : Scope} {fs : Option Scope} {k : Nat} (C : Ctx X N sc fs k) (s : Shared) (H : Hp) (scope : Scope) (Ca : Addr) (cl : List (Str × Addr)) (fp : List Addr) (hk : scope.kind = .function) :
    Ctx (X.blk s H scope (compEnvC scope cl Ca X.env) fp) N (relS scope sc) (some scope) k :=
  ⟨C.n, by show relS scope X.env.scope = _; rw [C.s], hk, C.calm, C.nd, C.gd, C.rm, PassesOwn.never, rfl⟩
/-- the name in slot i is seen in the scope -/
def visB (N : List Str) (sc : Scope) (i : Nat) (x : Str) : Bool :=
  decide (N[i]? = some x) && (match sc.names.lookup x with | some .local => true | some .cell => true | some .free => true | _ => false) && !(x == ("__debug__" : Str)) && !(x == ("__classdict__" : Str))
/-- the name in slot i is the scope's own -/
def locB (N : List Str) (sc : Scope) (fs : Option Scope) (i : Nat) (x : Str) : Bool :=
  decide (N[i]? = some x) && (match sc.names.lookup x with | some .local => true | some .cell => fnOf fs x | _ => false)
def glbB (sc : Scope) (x : Str) : Bool := (match sc.names.lookup x with | some .globalImplicit => true | _ => false) && !(x == ("__debug__" : Str))

/-! ### what is wanted of an expression -/
def tD (K : PySem.W.Frag) (G : List Sl) (d : PyData) : TE := fun σ H Q => ∃ F I ps, RS K F G σ H I ps ∧ ∀ v H' I', Grow F I I' → RS K F G σ H' I' ps → Dq I' v d → Q v H'
def tO (K : PySem.W.Frag) (G : List Sl) (ds : List PyData) : TE := fun σ H Q => ∃ F I ps, RS K F G σ H I ps ∧ ∀ p xs H' I', Grow F I I' → RS K F G σ H' I' ps → I' p = none → F p = none → (∀ i, ps i ≠ some p) → H' p = some (.lst xs) → DqAll I' xs ds → Q (.ref p) H'
def tR (K : PySem.W.Frag) (G : List Sl) (ds : List PyData) : TE := fun σ H Q => ∃ F I ps, RS K F G σ H I ps ∧ ∀ a xs H' I', Grow F I I' → RS K F G σ H' I' ps → SqL K H' a xs → DqAll I' xs ds → Q (.ref a) H'
def tB (K : PySem.W.Frag) (G : List Sl) (b : Bool) : TT := fun σ H Q => ∃ F I ps, RS K F G σ H I ps ∧ ∀ H' I', Grow F I I' → RS K F G σ H' I' ps → Q b H'
def tA (K : PySem.W.Frag) (G : List Sl) (ds : List PyData) : TA := fun σ H Q => ∃ F I ps, RS K F G σ H I ps ∧ ∀ vs H' I', Grow F I I' → RS K F G σ H' I' ps → DqAll I' vs ds → Q vs H'

/-- the expression gives the data o (if o is some) -/
def ED (X : Cx) (G : List Sl) {α : Type} [Enc α] (e : Expr) (o : Option α) : Prop := ∀ x, o = some x → PE X e (tD X.K G (enc x))
/-- .. a new list that nothing else holds -/
def EO (X : Cx) (G : List Sl) {α : Type} [Enc α] (e : Expr) (o : Option (List α)) : Prop := ∀ l, o = some l → PE X e (tO X.K G (l.map enc))
/-- .. a list that may be read -/
def ER (X : Cx) (G : List Sl) {α : Type} [Enc α] (e : Expr) (o : Option (List α)) : Prop := ∀ l, o = some l → PE X e (tR X.K G (l.map enc))
/-- .. a test -/
def EB (X : Cx) (G : List Sl) (e : Expr) (o : Option Bool) : Prop := ∀ b, o = some b → PT X e (tB X.K G b)
/-- .. in a chain of and, or -/
def EW (X : Cx) (G : List Sl) (e : Expr) (o : Option Bool) : Prop := ∀ b, o = some b → PW X e (tB X.K G b)
def AD (X : Cx) (G : List Sl) (es : List Expr) (o : Option (List PyData)) : Prop := ∀ ds, o = some ds → PA X es (tA X.K G ds)

theorem _root_.L2.PE.imp {X : Cx} {e : Expr} {t t' : TE} (h : PE X e t) (w : ∀ σ H Q, t' σ H Q → t σ H Q) : PE X e t' := ⟨fun pins s σ H Q I q => h.run pins s σ H Q I (w σ H Q q)⟩
theorem _root_.L2.PT.imp {X : Cx} {e : Expr} {t t' : TT} (h : PT X e t) (w : ∀ σ H Q, t' σ H Q → t σ H Q) : PT X e t' := ⟨fun pins s σ H Q I q => h.run pins s σ H Q I (w σ H Q q)⟩
theorem _root_.L2.PW.imp {X : Cx} {e : Expr} {t t' : TT} (h : PW X e t) (w : ∀ σ H Q, t' σ H Q → t σ H Q) : PW X e t' := ⟨fun wh pins s σ H Q I q => h.run wh pins s σ H Q I (w σ H Q q)⟩
theorem _root_.L2.PA.imp {X : Cx} {e : List Expr} {t t' : TA} (h : PA X e t) (w : ∀ σ H Q, t' σ H Q → t σ H Q) : PA X e t' := ⟨fun pos pins s σ H Q I q => h.run pos pins s σ H Q I (w σ H Q q)⟩

def lift1 {α β : Type} (f : α → β) (a : Option α) : Option β := a.bind fun x => some (f x)
def lift2 {α β γ : Type} (f : α → β → γ) (a : Option α) (b : Option β) : Option γ := a.bind fun x => b.bind fun y => some (f x y)
def bind2 {α β γ : Type} (f : α → β → Option γ) (a : Option α) (b : Option β) : Option γ := a.bind fun x => b.bind fun y => f x y
@[simp] theorem lift1_some {α β : Type} (f : α → β) (a : α) : lift1 f (some a) = some (f a) := rfl
@[simp] theorem lift2_some {α β γ : Type} (f : α → β → γ) (a : α) (b : β) : lift2 f (some a) (some b) = some (f a b) := rfl
@[simp] theorem bind2_some {α β γ : Type} (f : α → β → Option γ) (a : α) (b : β) : bind2 f (some a) (some b) = f a b := rfl
theorem bind2_get {α β γ : Type} {f : α → β → Option γ} {a : Option α} {b : Option β} {z : γ} (h : bind2 f a b = some z) : ∃ x y, a = some x ∧ b = some y ∧ f x y = some z := by
  cases a with
  | none => cases h
  | some x => cases b with
    | none => cases h
    | some y => exact ⟨x, y, rfl, rfl, h⟩
theorem lift2_get {α β γ : Type} {f : α → β → γ} {a : Option α} {b : Option β} {z : γ} (h : lift2 f a b = some z) : ∃ x y, a = some x ∧ b = some y ∧ f x y = z := by
  obtain ⟨x, y, h1, h2, h3⟩ := bind2_get (f := fun x y => some (f x y)) h
  exact ⟨x, y, h1, h2, Option.some.inj h3⟩
theorem bind_get {α β : Type} {f : α → Option β} {a : Option α} {z : β} (h : a.bind f = some z) : ∃ x, a = some x ∧ f x = some z := by
  cases a with
  | none => cases h
  | some x => exact ⟨x, rfl, h⟩
theorem lift1_get {α β : Type} {f : α → β} {a : Option α} {z : β} (h : lift1 f a = some z) : ∃ x, a = some x ∧ f x = z := by
  obtain ⟨x, h1, h2⟩ := bind_get (f := fun x => some (f x)) h
  exact ⟨x, h1, Option.some.inj h2⟩

section
variable {X : Cx} {G : List Sl} {α β γ : Type} [Enc α] [Enc β] [Enc γ]

/-! ### from one form to another -/
theorem er_of_ed {e : Expr} {o : Option (List α)} (h : ED X G e o) : ER X G e o := fun l hl => (h l hl).imp fun σ H Q ⟨F, I, ps, R, q⟩ => ⟨F, I, ps, R, fun v H' I' g R' d => by
  cases d with | lst h1 h2 => exact q _ _ _ _ g R' (.inl (rd_mono R'.si h1)) h2⟩
theorem er_of_eo {e : Expr} {o : Option (List α)} (h : EO X G e o) : ER X G e o := fun l hl => (h l hl).imp fun σ H Q ⟨F, I, ps, R, q⟩ => ⟨F, I, ps, R, fun p xs H' I' g R' _ _ _ hp d => q _ _ _ _ g R' (.inl (.inl hp)) d⟩
/-- a new list that becomes persistent at once -/
theorem frz_new {K : PySem.W.Frag} {F H' I I' : Hp} {σ : L2.St} {ps : Nat → Option Addr} {p : Addr} {xs : List V} {ds : List PyData} (g : Grow F I I') (R' : RS K F G σ H' I' ps) (hI : I' p = none) (hF : F p = none) (hp : ∀ i, ps i ≠ some p) (hH : H' p = some (.lst xs)) (d : DqAll I' xs ds) :
    Grow F I (upd I' p (.lst xs)) ∧ RS K F G σ H' (upd I' p (.lst xs)) ps ∧ Dq (upd I' p (.lst xs)) (.ref p) (.list ds) := by
  have s := same_upd (o := .lst xs) hI
  refine ⟨g.trans (Grow.new hI hF), R'.grow (Same.refl _) (fun b x q => ?_) s fun i a ha => ?_, .lst (.inl upd_same) (DqAll_mono s _ _ d)⟩
  · by_cases e : b = p
    · subst e; rw [upd_same] at q; cases q; exact hH
    · rw [upd_ne e] at q; exact R'.si _ _ q
  · rw [upd_ne (fun z : a = p => hp i (by rw [← z]; exact ha))]; exact (R'.own_at ha).1
theorem ed_of_eo {e : Expr} {o : Option (List α)} (h : EO X G e o) : ED X G e o := fun l hl => (h l hl).imp fun σ H Q ⟨F, I, ps, R, q⟩ => ⟨F, I, ps, R, fun p xs H' I' g R' hI hF hp hH d => by
  obtain ⟨g', R'', d'⟩ := frz_new g R' hI hF hp hH d
  exact q _ _ _ g' R'' d'⟩
/-- another type with the same data -/
theorem ed_coe {e : Expr} {o : Option α} (c : α → β) (hc : ∀ x, enc (c x) = enc x) (h : ED X G e o) : ED X G e (lift1 c o) := fun y hy => by
  obtain ⟨x, h1, h2⟩ := lift1_get hy
  rw [← h2, hc]; exact h x h1
theorem ed_coeP {e : Expr} {o : Option α} (c : α → Option β) (hc : ∀ x y, c x = some y → enc y = enc x) (h : ED X G e o) : ED X G e (o.bind c) := fun y hy => by
  obtain ⟨x, h1, h2⟩ := bind_get hy
  rw [hc x y h2]; exact h x h1
theorem ed_some {e : Expr} {o : Option α} (h : ED X G e o) : ED X G e (lift1 (some : α → Option α) o) := ed_coe _ (fun _ => rfl) h
theorem ed_get {e : Expr} {o : Option (Option α)} (h : ED X G e o) : ED X G e (o.bind id) := ed_coeP _ (fun x y h => by have h : x = some y := h; subst h; rfl) h
theorem eo_coe {e : Expr} {o : Option (List α)} (c : α → β) (hc : ∀ x, enc (c x) = enc x) (h : EO X G e o) : EO X G e (lift1 (List.map c) o) := fun y hy => by
  obtain ⟨x, h1, h2⟩ := lift1_get hy
  rw [← h2, List.map_map, show (enc ∘ c : α → PyData) = enc from funext hc]; exact h x h1
theorem er_coe {e : Expr} {o : Option (List α)} (c : α → β) (hc : ∀ x, enc (c x) = enc x) (h : ER X G e o) : ER X G e (lift1 (List.map c) o) := fun y hy => by
  obtain ⟨x, h1, h2⟩ := lift1_get hy
  rw [← h2, List.map_map, show (enc ∘ c : α → PyData) = enc from funext hc]; exact h x h1
theorem enc_map (c : α → β) (hc : ∀ x, enc (c x) = enc x) (l : List α) : enc (l.map c) = enc l := by
  show PyData.list ((l.map c).map enc) = PyData.list (l.map enc)
  rw [List.map_map, show (enc ∘ c : α → PyData) = enc from funext hc]

/-! ### names and constants -/
theorem ed_var {N : List Str} {sc : Scope} {fs : Option Scope} {k i : Nat} {x : Str} {v : α} {pos : Pos} (C : Ctx X N sc fs k) (hv : visB N sc i x = true) (hs : slAt G i = .dat (enc v)) : ED X G (.Name x pos) (some v) := fun y hy => by
  cases hy
  unfold visB at hv
  simp only [Bool.and_eq_true, decide_eq_true_eq, Bool.not_eq_true'] at hv
  obtain ⟨⟨⟨h1, h2⟩, h3⟩, h4⟩ := hv
  have hvis : Vis X.env.scope x := by
    rw [C.s]; unfold Vis
    split at h2 <;> simp_all
  refine (pe_var (by rw [C.n]; exact h1) hvis h3 h4).imp fun σ H Q ⟨F, I, ps, R, q⟩ => ?_
  have hi : i < G.length := by
    by_cases c : i < G.length
    · exact c
    · rw [slAt_out (by omega)] at hs; cases hs
  obtain ⟨w, k1, k2⟩ := R.sl i hi
  rw [hs] at k2
  obtain ⟨_, z, e, d⟩ := k2
  subst e
  exact ⟨z, k1, q z H I Grow.refl R d⟩
theorem er_own {N : List Str} {sc : Scope} {fs : Option Scope} {k i : Nat} {x : Str} {l : List α} {pos : Pos} (C : Ctx X N sc fs k) (hv : visB N sc i x = true) (hs : slAt G i = .own (l.map enc)) : ER X G (.Name x pos) (some l) := fun y hy => by
  cases hy
  unfold visB at hv
  simp only [Bool.and_eq_true, decide_eq_true_eq, Bool.not_eq_true'] at hv
  obtain ⟨⟨⟨h1, h2⟩, h3⟩, h4⟩ := hv
  have hvis : Vis X.env.scope x := by
    rw [C.s]; unfold Vis
    split at h2 <;> simp_all
  refine (pe_var (by rw [C.n]; exact h1) hvis h3 h4).imp fun σ H Q ⟨F, I, ps, R, q⟩ => ?_
  have hi : i < G.length := by
    by_cases c : i < G.length
    · exact c
    · rw [slAt_out (by omega)] at hs; cases hs
  obtain ⟨w, k1, k2⟩ := R.sl i hi
  rw [hs] at k2
  obtain ⟨a, xs, e1, e2, n, hH, d⟩ := k2
  subst e2
  exact ⟨_, k1, q a xs H I Grow.refl R (.inl (.inl hH)) d⟩
theorem tC_ed {v : V} {d : PyData} (hd : ∀ H : Hp, Dq H v d) {K : PySem.W.Frag} (σ : L2.St) (H : Hp) (Q : VK) (h : tD K G d σ H Q) : tC v σ H Q := by
  obtain ⟨F, I, ps, R, q⟩ := h
  exact q v H I Grow.refl R (hd _)
theorem ed_num {i : Int} {j : Nat} {pos : Pos} : ED X G (.Constant (.int i) j pos) (some i) := fun y hy => by
  cases hy; exact pe_int.imp (tC_ed fun _ => .int _)
theorem ed_bl {b : Bool} {j : Nat} {pos : Pos} : ED X G (.Constant (.bool b) j pos) (some b) := fun y hy => by
  cases hy; exact pe_bl.imp (tC_ed fun _ => .bl _)
theorem ed_str {b : Str} {j : Nat} {pos : Pos} : ED X G (.Constant (.str b) j pos) (some b) := fun y hy => by
  cases hy; exact pe_str.imp (tC_ed fun _ => .str _)
theorem ed_none {j : Nat} {pos : Pos} : ED X G (.Constant .none j pos) (some (none : Option α)) := fun y hy => by
  cases hy; exact pe_non.imp (tC_ed fun _ => .non)
theorem ed_unit {j : Nat} {pos : Pos} : ED X G (.Constant .none j pos) (some ()) := fun y hy => by
  cases hy; exact pe_non.imp (tC_ed fun _ => .non)

/-! ### operators -/
/-- what a rule of two values gives on data -/
def Sem2 (K : PySem.W.Frag) (r : R2) (d1 d2 d : PyData) : Prop :=
  ∀ (F : Hp) (G : List Sl) (σ : L2.St) (H I : Hp) (ps : Nat → Option Addr) (v w : V) (Q : VK), RS K F G σ H I ps → Dq I v d1 → Dq I w d2 → (∀ u H' I', Grow F I I' → RS K F G σ H' I' ps → Dq I' u d → Q u H') → r v w H Q
theorem tD_op {K : PySem.W.Frag} {r : R2} {d1 d2 d : PyData} (h : Sem2 K r d1 d2 d) (σ : L2.St) (H : Hp) (Q : VK) (t : tD K G d σ H Q) : tOp r (tD K G d1) (tD K G d2) σ H Q := by
  obtain ⟨F, I, ps, R, q⟩ := t
  refine ⟨F, I, ps, R, fun v H1 I1 g1 R1 dv => ⟨F, I1, ps, R1, fun w H2 I2 g2 R2 dw => ?_⟩⟩
  exact h F G σ H2 I2 ps v w Q R2 (Dq_mono g2.same _ _ dv) dw fun u H3 I3 g3 R3 du => q u H3 I3 (g1.trans (g2.trans g3)) R3 du
theorem ed_op2 {op : Operator} {a b : Expr} {pos : Pos} {oa : Option α} {ob : Option β} {f : α → β → Option γ} {r : R2} (ho : OpR X (binaryOp op) r) (hr : ∀ x y z, f x y = some z → Sem2 X.K r (enc x) (enc y) (enc z))
    (ha : ED X G a oa) (hb : ED X G b ob) : ED X G (.BinOp a op b pos) (bind2 f oa ob) := fun z hz => by
  obtain ⟨x, y, h1, h2, h3⟩ := bind2_get hz
  exact (pe_op ho (ha x h1) (hb y h2)).imp (tD_op (hr x y z h3))
theorem Sem2.int {K : PySem.W.Frag} {C : Int → Int → Prop} {g : Int → Int → Int} {i j : Int} (hc : C i j) : Sem2 K (rI C fun i j => .int (g i j)) (.int i) (.int j) (.int (g i j)) := by
  intro F G σ H I ps v w Q R hv hw q
  cases hv; cases hw
  exact ⟨i, j, rfl, rfl, hc, q _ _ _ Grow.refl R (.int _)⟩
theorem Sem2.int0 {K : PySem.W.Frag} {g : Int → Int → Int} {i j : Int} : Sem2 K (rI0 fun i j => .int (g i j)) (.int i) (.int j) (.int (g i j)) := by
  intro F G σ H I ps v w Q R hv hw q
  cases hv; cases hw
  exact ⟨i, j, rfl, rfl, q _ _ _ Grow.refl R (.int _)⟩
theorem Sem2.bool0 {K : PySem.W.Frag} {g : Int → Int → Bool} {i j : Int} : Sem2 K (rI0 fun i j => .bl (g i j)) (.int i) (.int j) (.bool (g i j)) := by
  intro F G σ H I ps v w Q R hv hw q
  cases hv; cases hw
  exact ⟨i, j, rfl, rfl, q _ _ _ Grow.refl R (.bl _)⟩

def mulG (i j : Int) : Option Int := if i.natAbs.log2 + j.natAbs.log2 < 1000000 then some (i * j) else none
def divG (i j : Int) : Option Int := if 0 < j ∧ j.natAbs.log2 < 9000 then some (i / j) else none
def modG (i j : Int) : Option Int := if 0 < j then some (i % j) else none
def powG (i j : Int) : Option Int := if 0 ≤ j ∧ j ≤ 1000000 ∧ i.natAbs < 2 ^ 64 then some (i ^ j.toNat) else none
theorem ite_get {α : Type} {c : Prop} [Decidable c] {x z : α} (h : (if c then some x else none) = some z) : c ∧ x = z := by
  by_cases e : c
  · rw [if_pos e] at h; exact ⟨e, Option.some.inj h⟩
  · rw [if_neg e] at h; cases h
variable {a b c : Expr} {pos : Pos} {oa ob oc : Option Int}
theorem ed_add (ha : ED X G a oa) (hb : ED X G b ob) : ED X G (.BinOp a .Add b pos) (lift2 (· + ·) oa ob) :=
  ed_op2 (f := fun i j => some (i + j)) op_add (fun x y z h => by cases h; exact Sem2.int0) ha hb
theorem ed_sub (ha : ED X G a oa) (hb : ED X G b ob) : ED X G (.BinOp a .Sub b pos) (lift2 (· - ·) oa ob) :=
  ed_op2 (f := fun i j => some (i - j)) op_sub (fun x y z h => by cases h; exact Sem2.int0) ha hb
theorem ed_mul (ha : ED X G a oa) (hb : ED X G b ob) : ED X G (.BinOp a .Mult b pos) (bind2 mulG oa ob) :=
  ed_op2 (f := mulG) op_mulW (fun x y z h => by obtain ⟨h1, h2⟩ := ite_get h; subst h2; exact Sem2.int h1) ha hb
theorem ed_fdiv (ha : ED X G a oa) (hb : ED X G b ob) : ED X G (.BinOp a .FloorDiv b pos) (bind2 divG oa ob) :=
  ed_op2 (f := divG) op_fdivW (fun x y z h => by obtain ⟨h1, h2⟩ := ite_get h; subst h2; exact Sem2.int h1) ha hb
theorem ed_mod (ha : ED X G a oa) (hb : ED X G b ob) : ED X G (.BinOp a .Mod b pos) (bind2 modG oa ob) :=
  ed_op2 (f := modG) op_mod (fun x y z h => by obtain ⟨h1, h2⟩ := ite_get h; subst h2; exact Sem2.int h1) ha hb
theorem ed_pow (ha : ED X G a oa) (hb : ED X G b ob) : ED X G (.BinOp a .Pow b pos) (bind2 powG oa ob) :=
  ed_op2 (f := powG) op_pow (fun x y z h => by obtain ⟨h1, h2⟩ := ite_get h; subst h2; exact Sem2.int h1) ha hb
theorem ed_neg (ha : ED X G a oa) : ED X G (.UnaryOp .USub a pos) (lift1 (fun i => -i) oa) := fun z hz => by
  obtain ⟨x, h1, h2⟩ := lift1_get hz
  subst h2
  refine (pe_un un_neg (ha x h1)).imp fun σ H Q ⟨F, I, ps, R, q⟩ => ⟨F, I, ps, R, fun v H' I' g R' d => ?_⟩
  cases d
  exact ⟨x, rfl, q _ _ _ g R' (.int _)⟩

/-! ### comparisons -/
theorem eb_of_ed {e : Expr} {o : Option Bool} (h : ED X G e o) (he : ∀ whole, isTrue e X.env whole = (do let v ← whole; standAt e.pos; holding [v] (truthy v)) := by intro _; rfl) : EB X G e o := fun k hk =>
  (pt_val (h k hk) he).imp fun σ H Q ⟨F, I, ps, R, q⟩ => ⟨F, I, ps, R, fun v H' I' g R' d => by cases d; exact ⟨k, rfl, q _ _ g R'⟩⟩
/-- a comparison, as a value and as a test -/
def EC (X : Cx) (G : List Sl) (op : CmpOp) (a b : Expr) (o : Option Bool) : Prop := ∀ k, o = some k → ∃ r ta tb, OpR X (compareOp op) r ∧ PE X a ta ∧ PE X b tb ∧ behindInMarks op b = false ∧ ∀ σ H Q, tD X.K G (.bool k) σ H Q → tOp r ta tb σ H Q
theorem ed_cmp {op : CmpOp} {o : Option Bool} (h : EC X G op a b o) : ED X G (.Compare a [op] [b] pos) o := fun k hk => by
  obtain ⟨r, ta, tb, h1, h2, h3, h4, h5⟩ := h k hk
  exact (pe_cmpR h1 h2 h3 h4).imp h5
theorem eb_cmp {op : CmpOp} {o : Option Bool} (h : EC X G op a b o) : EB X G (.Compare a [op] [b] pos) o := fun k hk => by
  obtain ⟨r, ta, tb, h1, h2, h3, h4, h5⟩ := h k hk
  refine (pt_cmpR h1 h2 h3 h4).imp fun σ H Q t => ?_
  refine h5 σ H _ ?_
  obtain ⟨F, I, ps, R, q⟩ := t
  exact ⟨F, I, ps, R, fun v H' I' g R' d => by cases d; exact ⟨k, rfl, q _ _ g R'⟩⟩
theorem ec_of {op : CmpOp} {r : R2} {f : α → β → Bool} {oa : Option α} {ob : Option β} (ho : OpR X (compareOp op) r) (hr : ∀ x y, Sem2 X.K r (enc x) (enc y) (.bool (f x y))) (hm : behindInMarks op b = false)
    (ha : ED X G a oa) (hb : ED X G b ob) : EC X G op a b (lift2 f oa ob) := fun k hk => by
  obtain ⟨x, y, h1, h2, h3⟩ := lift2_get hk
  subst h3
  exact ⟨r, _, _, ho, ha x h1, hb y h2, hm, tD_op (hr x y)⟩
theorem ec_lt (ha : ED X G a oa) (hb : ED X G b ob) : EC X G .Lt a b (lift2 (fun i j => decide (i < j)) oa ob) := ec_of op_lt (fun _ _ => Sem2.bool0) (nomark _) ha hb
theorem ec_le (ha : ED X G a oa) (hb : ED X G b ob) : EC X G .LtE a b (lift2 (fun i j => decide (i ≤ j)) oa ob) := ec_of op_le (fun _ _ => Sem2.bool0) (nomark _) ha hb
theorem ec_gt (ha : ED X G a oa) (hb : ED X G b ob) : EC X G .Gt a b (lift2 (fun i j => decide (j < i)) oa ob) := ec_of op_gt (fun _ _ => Sem2.bool0) (nomark _) ha hb
theorem ec_ge (ha : ED X G a oa) (hb : ED X G b ob) : EC X G .GtE a b (lift2 (fun i j => decide (j ≤ i)) oa ob) := ec_of op_ge (fun _ _ => Sem2.bool0) (nomark _) ha hb
theorem ec_eqI (ha : ED X G a oa) (hb : ED X G b ob) : EC X G .Eq a b (lift2 (fun i j => decide (i = j)) oa ob) := ec_of op_eq (fun x y => by
  intro F G σ H I ps v w Q R hv hw q
  cases hv; cases hw
  refine ⟨rfl, ?_⟩
  rw [show decide (V.int x = V.int y) = decide (x = y) by by_cases e : x = y <;> simp [e]]
  exact q _ _ _ Grow.refl R (.bl _)) (nomark _) ha hb
theorem ec_neI (ha : ED X G a oa) (hb : ED X G b ob) : EC X G .NotEq a b (lift2 (fun i j => !decide (i = j)) oa ob) := ec_of op_ne (fun x y => by
  intro F G σ H I ps v w Q R hv hw q
  cases hv; cases hw
  refine ⟨rfl, ?_⟩
  rw [show (!decide (V.int x = V.int y)) = !decide (x = y) by by_cases e : x = y <;> simp [e]]
  exact q _ _ _ Grow.refl R (.bl _)) (nomark _) ha hb
theorem ec_eqB {oa ob : Option Bool} (ha : ED X G a oa) (hb : ED X G b ob) : EC X G .Eq a b (lift2 (fun i j => i == j) oa ob) := ec_of op_eq (fun x y => by
  intro F G σ H I ps v w Q R hv hw q
  cases hv; cases hw
  refine ⟨rfl, ?_⟩
  rw [show decide (V.bl x = V.bl y) = (x == y) by cases x <;> cases y <;> rfl]
  exact q _ _ _ Grow.refl R (.bl _)) (nomark _) ha hb
theorem ec_neB {oa ob : Option Bool} (ha : ED X G a oa) (hb : ED X G b ob) : EC X G .NotEq a b (lift2 (fun i j => i != j) oa ob) := ec_of op_ne (fun x y => by
  intro F G σ H I ps v w Q R hv hw q
  cases hv; cases hw
  refine ⟨rfl, ?_⟩
  rw [show (!decide (V.bl x = V.bl y)) = (x != y) by cases x <;> cases y <;> rfl]
  exact q _ _ _ Grow.refl R (.bl _)) (nomark _) ha hb
theorem ec_eqS {oa ob : Option Str} (ha : ED X G a oa) (hb : ED X G b ob) : EC X G .Eq a b (lift2 (fun i j => decide (i = j)) oa ob) := ec_of op_eq (fun x y => by
  intro F G σ H I ps v w Q R hv hw q
  cases hv; cases hw
  refine ⟨rfl, ?_⟩
  rw [show decide (V.str x = V.str y) = decide (x = y) by by_cases e : x = y <;> simp [e]]
  exact q _ _ _ Grow.refl R (.bl _)) (nomark _) ha hb
theorem ec_neS {oa ob : Option Str} (ha : ED X G a oa) (hb : ED X G b ob) : EC X G .NotEq a b (lift2 (fun i j => !decide (i = j)) oa ob) := ec_of op_ne (fun x y => by
  intro F G σ H I ps v w Q R hv hw q
  cases hv; cases hw
  refine ⟨rfl, ?_⟩
  rw [show (!decide (V.str x = V.str y)) = !decide (x = y) by by_cases e : x = y <;> simp [e]]
  exact q _ _ _ Grow.refl R (.bl _)) (nomark _) ha hb

/-- a < b < c -/
def chainG (f g : Int → Int → Bool) (oa ob oc : Option Int) : Option Bool := oa.bind fun x => ob.bind fun y => bif f x y then oc.bind (fun z => some (g y z)) else some false
theorem pe_never {e : Expr} : PE X e (fun _ _ _ => False) := ⟨fun _ _ _ _ _ _ h => h.elim⟩
theorem tD_chain {r r' : R2} {f g : Int → Int → Bool} (hr : ∀ x y : Int, Sem2 X.K r (enc x) (enc y) (.bool (f x y))) (hr' : ∀ x y : Int, Sem2 X.K r' (enc x) (enc y) (.bool (g x y))) {tc : TE} {x y : Int} {k : Bool}
    (h : (f x y = true ∧ ∃ z, tc = tD X.K G (enc z) ∧ k = g y z) ∨ (f x y = false ∧ k = false)) (σ : L2.St) (H : Hp) (Q : VK) (t : tD X.K G (.bool k) σ H Q) : tChain r r' (tD X.K G (enc x)) (tD X.K G (enc y)) tc σ H Q := by
  obtain ⟨F, I, ps, R, q⟩ := t
  refine ⟨F, I, ps, R, fun v H1 I1 g1 R1 dv => ⟨F, I1, ps, R1, fun w H2 I2 g2 R2 dw => ?_⟩⟩
  refine hr x y F G σ H2 I2 ps v w _ R2 (Dq_mono g2.same _ _ dv) dw fun u H3 I3 g3 R3 du => ?_
  cases du
  refine ⟨f x y, rfl, ?_⟩
  rcases h with ⟨hf, z, rfl, rfl⟩ | ⟨hf, rfl⟩
  · rw [hf, if_pos rfl]
    refine ⟨F, I3, ps, R3, fun w' H4 I4 g4 R4 dw' => ?_⟩
    exact hr' y z F G σ H4 I4 ps w w' Q R4 (Dq_mono (g3.same.trans g4.same) _ _ dw) dw' fun u H5 I5 g5 R5 du => q u H5 I5 (g1.trans (g2.trans (g3.trans (g4.trans g5)))) R5 du
  · rw [hf, if_neg (by decide)]
    exact q _ _ _ (g1.trans (g2.trans g3)) R3 (.bl _)
theorem chainG_get {f g : Int → Int → Bool} {k : Bool} (hk : chainG f g oa ob oc = some k) : ∃ x y, oa = some x ∧ ob = some y ∧ ((f x y = true ∧ ∃ z, oc = some z ∧ k = g y z) ∨ (f x y = false ∧ k = false)) := by
  unfold chainG at hk
  obtain ⟨x, h1, hk⟩ := bind_get hk
  obtain ⟨y, h2, hk⟩ := bind_get hk
  refine ⟨x, y, h1, h2, ?_⟩
  cases hf : f x y with
  | true =>
    rw [hf, cond_true] at hk
    obtain ⟨z, h3, hk⟩ := bind_get hk
    cases hk
    exact .inl ⟨rfl, z, h3, rfl⟩
  | false =>
    rw [hf, cond_false] at hk
    cases hk
    exact .inr ⟨rfl, rfl⟩
theorem ed_chain {op op' : CmpOp} {r r' : R2} {f g : Int → Int → Bool} (ho : OpR X (compareOp op) r) (ho' : OpR X (compareOp op') r') (hr : ∀ x y : Int, Sem2 X.K r (enc x) (enc y) (.bool (f x y))) (hr' : ∀ x y : Int, Sem2 X.K r' (enc x) (enc y) (.bool (g x y)))
    (hm : lastMarks [op, op'] [b, c] = false) (ha : ED X G a oa) (hb : ED X G b ob) (hc : ED X G c oc) : ED X G (.Compare a [op, op'] [b, c] pos) (chainG f g oa ob oc) := fun k hk => by
  obtain ⟨x, y, h1, h2, h⟩ := chainG_get hk
  rcases h with ⟨hf, z, h3, e⟩ | ⟨hf, e⟩
  · exact (pe_chain ho ho' (ha x h1) (hb y h2) (hc z h3) hm).imp (tD_chain hr hr' (.inl ⟨hf, z, rfl, e⟩))
  · exact (pe_chain ho ho' (ha x h1) (hb y h2) pe_never hm).imp (tD_chain hr hr' (.inr ⟨hf, e⟩))
theorem eb_chain {op op' : CmpOp} {r r' : R2} {f g : Int → Int → Bool} (ho : OpR X (compareOp op) r) (ho' : OpR X (compareOp op') r') (hr : ∀ x y : Int, Sem2 X.K r (enc x) (enc y) (.bool (f x y))) (hr' : ∀ x y : Int, Sem2 X.K r' (enc x) (enc y) (.bool (g x y)))
    (hm : lastMarks [op, op'] [b, c] = false) (ha : ED X G a oa) (hb : ED X G b ob) (hc : ED X G c oc) : EB X G (.Compare a [op, op'] [b, c] pos) (chainG f g oa ob oc) := fun k hk => by
  obtain ⟨x, y, h1, h2, h⟩ := chainG_get hk
  have fin : ∀ σ H Q, tB X.K G k σ H Q → tD X.K G (.bool k) σ H (fun x H' => ∃ k, x = .bl k ∧ Q k H') := fun σ H Q ⟨F, I, ps, R, q⟩ => ⟨F, I, ps, R, fun v H' I' g R' d => by cases d; exact ⟨k, rfl, q _ _ g R'⟩⟩
  rcases h with ⟨hf, z, h3, e⟩ | ⟨hf, e⟩
  · exact (pt_chain ho ho' (ha x h1) (hb y h2) (hc z h3) hm).imp fun σ H Q t => tD_chain hr hr' (.inl ⟨hf, z, rfl, e⟩) σ H _ (fin σ H Q t)
  · exact (pt_chain ho ho' (ha x h1) (hb y h2) pe_never hm).imp fun σ H Q t => tD_chain hr hr' (.inr ⟨hf, e⟩) σ H _ (fin σ H Q t)
abbrev cLt : Int → Int → Bool := fun i j => decide (i < j)
abbrev cLe : Int → Int → Bool := fun i j => decide (i ≤ j)
theorem ed_chLeLe (hm : lastMarks [.LtE, .LtE] [b, c] = false) (ha : ED X G a oa) (hb : ED X G b ob) (hc : ED X G c oc) : ED X G (.Compare a [.LtE, .LtE] [b, c] pos) (chainG cLe cLe oa ob oc) := ed_chain op_le op_le (fun _ _ => Sem2.bool0) (fun _ _ => Sem2.bool0) hm ha hb hc
theorem ed_chLeLt (hm : lastMarks [.LtE, .Lt] [b, c] = false) (ha : ED X G a oa) (hb : ED X G b ob) (hc : ED X G c oc) : ED X G (.Compare a [.LtE, .Lt] [b, c] pos) (chainG cLe cLt oa ob oc) := ed_chain op_le op_lt (fun _ _ => Sem2.bool0) (fun _ _ => Sem2.bool0) hm ha hb hc
theorem ed_chLtLe (hm : lastMarks [.Lt, .LtE] [b, c] = false) (ha : ED X G a oa) (hb : ED X G b ob) (hc : ED X G c oc) : ED X G (.Compare a [.Lt, .LtE] [b, c] pos) (chainG cLt cLe oa ob oc) := ed_chain op_lt op_le (fun _ _ => Sem2.bool0) (fun _ _ => Sem2.bool0) hm ha hb hc
theorem ed_chLtLt (hm : lastMarks [.Lt, .Lt] [b, c] = false) (ha : ED X G a oa) (hb : ED X G b ob) (hc : ED X G c oc) : ED X G (.Compare a [.Lt, .Lt] [b, c] pos) (chainG cLt cLt oa ob oc) := ed_chain op_lt op_lt (fun _ _ => Sem2.bool0) (fun _ _ => Sem2.bool0) hm ha hb hc
theorem eb_chLeLe (hm : lastMarks [.LtE, .LtE] [b, c] = false) (ha : ED X G a oa) (hb : ED X G b ob) (hc : ED X G c oc) : EB X G (.Compare a [.LtE, .LtE] [b, c] pos) (chainG cLe cLe oa ob oc) := eb_chain op_le op_le (fun _ _ => Sem2.bool0) (fun _ _ => Sem2.bool0) hm ha hb hc
theorem eb_chLeLt (hm : lastMarks [.LtE, .Lt] [b, c] = false) (ha : ED X G a oa) (hb : ED X G b ob) (hc : ED X G c oc) : EB X G (.Compare a [.LtE, .Lt] [b, c] pos) (chainG cLe cLt oa ob oc) := eb_chain op_le op_lt (fun _ _ => Sem2.bool0) (fun _ _ => Sem2.bool0) hm ha hb hc
theorem eb_chLtLe (hm : lastMarks [.Lt, .LtE] [b, c] = false) (ha : ED X G a oa) (hb : ED X G b ob) (hc : ED X G c oc) : EB X G (.Compare a [.Lt, .LtE] [b, c] pos) (chainG cLt cLe oa ob oc) := eb_chain op_lt op_le (fun _ _ => Sem2.bool0) (fun _ _ => Sem2.bool0) hm ha hb hc
theorem eb_chLtLt (hm : lastMarks [.Lt, .Lt] [b, c] = false) (ha : ED X G a oa) (hb : ED X G b ob) (hc : ED X G c oc) : EB X G (.Compare a [.Lt, .Lt] [b, c] pos) (chainG cLt cLt oa ob oc) := eb_chain op_lt op_lt (fun _ _ => Sem2.bool0) (fun _ _ => Sem2.bool0) hm ha hb hc
/-! ### is None -/
def isNoneD : PyData → Bool
  | .none => true
  | _ => false
theorem Dq.non_iff {H : Hp} {v : V} {d : PyData} (h : Dq H v d) : decide (v = .non) = isNoneD d := by
  cases h <;> rfl
class NonNone (α : Type) [Enc α] : Prop where
  ne : ∀ x : α, enc x ≠ PyData.none
instance : NonNone Int := ⟨fun _ h => by cases h⟩
instance : NonNone Bool := ⟨fun _ h => by cases h⟩
instance : NonNone Str := ⟨fun _ h => by cases h⟩
instance {α : Type} [Enc α] : NonNone (List α) := ⟨fun _ h => by cases h⟩
instance {α : Type} [Enc α] : NonNone (Tup α) := ⟨fun _ h => by cases h⟩
instance {α β : Type} [Enc α] [Enc β] : NonNone (T2 α β) := ⟨fun _ h => by cases h⟩
instance {α β γ : Type} [Enc α] [Enc β] [Enc γ] : NonNone (T3 α β γ) := ⟨fun _ h => by cases h⟩
instance {α β γ δ : Type} [Enc α] [Enc β] [Enc γ] [Enc δ] : NonNone (T4 α β γ δ) := ⟨fun _ h => by cases h⟩
theorem isN_enc {α : Type} [Enc α] [NonNone α] (o : Option α) : isNoneD (enc o) = o.isNone := by
  cases o with
  | none => rfl
  | some x =>
    have h := NonNone.ne x
    show isNoneD (enc x) = false
    cases e : (enc x : PyData) <;> first | rfl | exact absurd e h
theorem ec_isN [NonNone α] {o : Option (Option α)} {j pos'} (ha : ED X G a o) : EC X G .Is a (.Constant .none j pos') (lift1 Option.isNone o) := fun k hk => by
  obtain ⟨x, h1, h2⟩ := lift1_get hk
  refine ⟨_, _, _, op_isN, ha x h1, pe_non, nomark _, fun σ H Q ⟨F, I, ps, R, q⟩ => ⟨F, I, ps, R, fun v H' I' g R' d => ⟨rfl, ?_⟩⟩⟩
  rw [d.non_iff, isN_enc, h2]
  exact q _ _ _ g R' (.bl _)
theorem ec_notN [NonNone α] {o : Option (Option α)} {j pos'} (ha : ED X G a o) : EC X G .IsNot a (.Constant .none j pos') (lift1 Option.isSome o) := fun k hk => by
  obtain ⟨x, h1, h2⟩ := lift1_get hk
  refine ⟨_, _, _, op_notN, ha x h1, pe_non, nomark _, fun σ H Q ⟨F, I, ps, R, q⟩ => ⟨F, I, ps, R, fun v H' I' g R' d => ⟨rfl, ?_⟩⟩⟩
  rw [d.non_iff, isN_enc]
  rw [show (!x.isNone) = k by rw [← h2]; cases x <;> rfl]
  exact q _ _ _ g R' (.bl _)

/-! ### and, or, not, if-else -/
theorem ew_and1 {o : Option Bool} (h : EB X G a o) : EW X G (.BoolOp .And [a] pos) o := fun k hk => pw_and1 (h k hk)
theorem ew_or1 {o : Option Bool} (h : EB X G a o) : EW X G (.BoolOp .Or [a] pos) o := fun k hk => pw_or1 (h k hk)
def andG (o p : Option Bool) : Option Bool := o.bind fun x => bif x then p else some false
def orG (o p : Option Bool) : Option Bool := o.bind fun x => bif x then some true else p
@[simp] theorem andG_some (x : Bool) (p : Option Bool) : andG (some x) p = bif x then p else some false := rfl
@[simp] theorem orG_some (x : Bool) (p : Option Bool) : orG (some x) p = bif x then some true else p := rfl
theorem pw_never {e : Expr} : PW X e (fun _ _ _ => False) := ⟨fun _ _ _ _ _ _ _ h => h.elim⟩
theorem pt_never {e : Expr} : PT X e (fun _ _ _ => False) := ⟨fun _ _ _ _ _ _ h => h.elim⟩
theorem ew_and {rest : List Expr} {o p : Option Bool} (h : EB X G a o) (h' : EW X G (.BoolOp .And (b :: rest) pos) p) : EW X G (.BoolOp .And (a :: b :: rest) pos) (andG o p) := fun k hk => by
  obtain ⟨x, h1, hk⟩ := bind_get hk
  cases x with
  | true =>
    exact (pw_and (h _ h1) (h' k hk)).imp fun σ H Q ⟨F, I, ps, R, q⟩ => ⟨F, I, ps, R, fun H' I' g R' => iteT (⟨F, I', ps, R', fun H2 I2 g2 R2 => q _ _ (g.trans g2) R2⟩)⟩
  | false =>
    cases hk
    exact (pw_and (h _ h1) pw_never).imp fun σ H Q ⟨F, I, ps, R, q⟩ => ⟨F, I, ps, R, fun H' I' g R' => iteF (q _ _ g R')⟩
theorem ew_or {rest : List Expr} {o p : Option Bool} (h : EB X G a o) (h' : EW X G (.BoolOp .Or (b :: rest) pos) p) : EW X G (.BoolOp .Or (a :: b :: rest) pos) (orG o p) := fun k hk => by
  obtain ⟨x, h1, hk⟩ := bind_get hk
  cases x with
  | false =>
    exact (pw_or (h _ h1) (h' k hk)).imp fun σ H Q ⟨F, I, ps, R, q⟩ => ⟨F, I, ps, R, fun H' I' g R' => iteF (⟨F, I', ps, R', fun H2 I2 g2 R2 => q _ _ (g.trans g2) R2⟩)⟩
  | true =>
    cases hk
    exact (pw_or (h _ h1) pw_never).imp fun σ H Q ⟨F, I, ps, R, q⟩ => ⟨F, I, ps, R, fun H' I' g R' => iteT (q _ _ g R')⟩
theorem eb_bool {e : Expr} {o : Option Bool} (h : EW X G e o) : EB X G e o := fun k hk => (h k hk).pt
theorem eb_not {o : Option Bool} (h : EB X G a o) : EB X G (.UnaryOp .Not a pos) (lift1 (fun x => !x) o) := fun k hk => by
  obtain ⟨x, h1, h2⟩ := lift1_get hk
  subst h2
  exact (pt_not (h x h1)).imp fun σ H Q ⟨F, I, ps, R, q⟩ => ⟨F, I, ps, R, fun H' I' g R' => q _ _ g R'⟩
theorem ed_one {op} {e : Expr} {o : Option α} (h : ED X G e o) : ED X G (.BoolOp op [e] pos) o := fun k hk => pe_one (h k hk)
theorem ed_and {rest : List Expr} {o p : Option Bool} (h : ED X G a o) (h' : ED X G (.BoolOp .And (b :: rest) pos) p) : ED X G (.BoolOp .And (a :: b :: rest) pos) (andG o p) := fun k hk => by
  obtain ⟨x, h1, hk⟩ := bind_get hk
  cases x with
  | true =>
    exact (pe_and (h _ h1) (h' k hk)).imp fun σ H Q ⟨F, I, ps, R, q⟩ => ⟨F, I, ps, R, fun v H' I' g R' d => by
      cases d
      exact ⟨true, rfl, iteT ⟨F, I', ps, R', fun v H2 I2 g2 R2 d => q _ _ _ (g.trans g2) R2 d⟩⟩⟩
  | false =>
    cases hk
    exact (pe_and (h _ h1) pe_never).imp fun σ H Q ⟨F, I, ps, R, q⟩ => ⟨F, I, ps, R, fun v H' I' g R' d => by
      cases d
      exact ⟨false, rfl, iteF (q _ _ _ g R' (.bl _))⟩⟩
theorem ed_or {rest : List Expr} {o p : Option Bool} (h : ED X G a o) (h' : ED X G (.BoolOp .Or (b :: rest) pos) p) : ED X G (.BoolOp .Or (a :: b :: rest) pos) (orG o p) := fun k hk => by
  obtain ⟨x, h1, hk⟩ := bind_get hk
  cases x with
  | false =>
    exact (pe_or (h _ h1) (h' k hk)).imp fun σ H Q ⟨F, I, ps, R, q⟩ => ⟨F, I, ps, R, fun v H' I' g R' d => by
      cases d
      exact ⟨false, rfl, iteF ⟨F, I', ps, R', fun v H2 I2 g2 R2 d => q _ _ _ (g.trans g2) R2 d⟩⟩⟩
  | true =>
    cases hk
    exact (pe_or (h _ h1) pe_never).imp fun σ H Q ⟨F, I, ps, R, q⟩ => ⟨F, I, ps, R, fun v H' I' g R' d => by
      cases d
      exact ⟨true, rfl, iteT (q _ _ _ g R' (.bl _))⟩⟩
theorem ed_not {o : Option Bool} (h : ED X G a o) : ED X G (.UnaryOp .Not a pos) (lift1 (fun x => !x) o) := fun k hk => by
  obtain ⟨x, h1, h2⟩ := lift1_get hk
  subst h2
  exact (pe_not (h x h1)).imp fun σ H Q ⟨F, I, ps, R, q⟩ => ⟨F, I, ps, R, fun v H' I' g R' d => by cases d; exact ⟨x, rfl, q _ _ _ g R' (.bl _)⟩⟩
theorem ed_if {t : Expr} {oc : Option Bool} {oa ob : Option α} (hc : EB X G t oc) (ha : ED X G a oa) (hb : ED X G b ob) : ED X G (.IfExp t a b pos) (oc.bind fun c => bif c then oa else ob) := fun k hk => by
  obtain ⟨x, h1, hk⟩ := bind_get hk
  cases x with
  | true =>
    exact (pe_ifExp (hc _ h1) (ha k hk) pe_never).imp fun σ H Q ⟨F, I, ps, R, q⟩ => ⟨F, I, ps, R, fun H' I' g R' => iteT (⟨F, I', ps, R', fun v H2 I2 g2 R2 d => q _ _ _ (g.trans g2) R2 d⟩)⟩
  | false =>
    exact (pe_ifExp (hc _ h1) pe_never (hb k hk)).imp fun σ H Q ⟨F, I, ps, R, q⟩ => ⟨F, I, ps, R, fun H' I' g R' => iteF (⟨F, I', ps, R', fun v H2 I2 g2 R2 d => q _ _ _ (g.trans g2) R2 d⟩)⟩
end
end Lay

set_option Elab.async false
set_option linter.all false
set_option maxRecDepth 100000
/-! Lay3: defs with the guards told (repr wants them), their calls, the law's end. -/
namespace Lay
open PySem PySem.Spec PyProof.Rows L2
open Lay.Enc (enc)

section
variable (P : Program) (w : World) (K : PySem.W.Frag) (mg : Str → Option Value) (base : Heap) (CX : CXT)
/-- a def's promise at depth k, where no guarded builtin runs around -/
structure FnG (k : Nat) (f : Addr) (fd : FuncData) (ps : List Str) (sp : Sp) : Prop where
  ar : ∀ vs H Q E, sp vs H Q E → vs.length = ps.length
  go : ∀ (A : Around) (out : List Env) (s : Shared) (H : Hp) (args : Args) (us : List Value) (vs : List V) (Q : VK) (E : XK), A.guards = some [] → Room k A → Env0 P w K mg base A out s H →
    BindsTo s fd args (ps.zip us) → Vals vs us → sp vs H Q E → codeAny (model P w) A (.call (.ref f) args) (CR CX out P w H s Q E) s
end
section
variable {P : Program} {w : World} {K : PySem.W.Frag} {mg : Str → Option Value} {base : Heap} {CX : CXT}
theorem FnG.up {j k : Nat} {f : Addr} {fd : FuncData} {ps : List Str} {sp : Sp} (F : FnG P w K mg base CX j f fd ps sp) (h : j ≤ k) : FnG P w K mg base CX k f fd ps sp :=
  ⟨F.ar, fun A out s H args us vs Q E g r => F.go A out s H args us vs Q E g (r.mono h)⟩
/-- the def x of the text, by its body -/
theorem fnG {x qual : Str} {st : Stmt} {f : Addr} {fd : FuncData} {N ps : List Str} {k : Nat} {sp : Sp} (F : Fun K x qual st f fd) (S : FnScope N ps (defScope st)) (ar : ∀ vs H Q E, sp vs H Q E → vs.length = ps.length)
    (body : ∀ (cd : Value) (A : Around) (out : List Env) (s : Shared) (H : Hp) (vs : List V) (Q : VK) (E : XK), A.guards = some [] → Room k (A.deeper (envOfC qual (defScope st) s.heap.objs.size f cd)) → sp vs H Q E →
      ∃ t, PSs (cxOf CX P w K mg base N qual (defScope st) f cd A out s H E) (defBody st) t ∧ t { nx := fun _ H' => Q .non H', rt := Q } (start N vs) H) : FnG P w K mg base CX (k + 1) f fd ps sp := by
  obtain ⟨oc, od, kv, dc, pm, an, cd, ct, sl, e, lk, hc⟩ := F.ex
  subst e
  refine ⟨ar, fun A out s H args us vs Q E gd rm en bd rv hs => ?_⟩
  have len := ar _ _ _ _ hs
  have kin : K.In s.heap := en.mod.kin.keeps fun b o e => (en.bs b o e).1
  have nol : s.heap.NoLimit := en.mod.nolimit.keeps fun b o e => (en.bs b o e).1
  refine codeAny_call_function rm.depth (kin _ _ lk) rfl S.co S.gen rfl (PySem.W.codeRec_of kin hc) (bd _ _ _ _ (wpAny_newFunctionEnv_cells S.kind (fun y hy => ?_) fun env he s1 ic => ?_))
  · rcases S.par y.1 (List.of_mem_zip (a := y.1) (b := y.2) hy).1 with q | q
    · exact Or.inl q
    · exact Or.inr ⟨q, PySem.W.cellsFrom_some _ _ _ (Or.inl q)⟩
  · subst he
    obtain ⟨t, pt, tq⟩ := body cd A out s H vs Q E gd (rm.deeper _) hs
    refine ⟨nol.keeps ic.toInCall.keep, codeAny_func (wpAny_mono (pt.run [] s1 (start N vs) H _ (inv_start S rm.hd en len rv ic) tq) (fun fl s2 hq => ?_) fun _ _ z => z)⟩
    cases fl with
    | ret u => exact let ⟨v, _, H', J, r, q⟩ := hq; ⟨v, H', J.os, J.bare, J.base, J.hok, r, q⟩
    | next => exact let ⟨_, H', J, q⟩ := hq; ⟨V.non, H', J.os, J.bare, J.base, J.hok, rfl, q⟩
    | brk => exact let ⟨_, _, _, q⟩ := hq; False.elim q
    | cont => exact let ⟨_, _, _, q⟩ := hq; False.elim q
end

/-! ### the call of a def -/
/-- what is known of a def that is called: it stands at x, keeps its promise at depth k -/
structure Cal (P : Program) (w : World) (K : PySem.W.Frag) (mg : Str → Option Value) (base : Heap) (CX : CXT) (k : Nat) (x : Str) (ps : List Str) (sp : Sp) : Prop where
  ex : ∃ f fd, FnG P w K mg base CX k f fd ps sp ∧ mg x = some (.ref f) ∧ PySem.W.keepIn K (.ref f) = true ∧ Binds K fd ps []
theorem Cal.up {P : Program} {w : World} {K : PySem.W.Frag} {mg : Str → Option Value} {base : Heap} {CX : CXT} {j k : Nat} {x : Str} {ps : List Str} {sp : Sp} (C : Cal P w K mg base CX j x ps sp) (h : j ≤ k) : Cal P w K mg base CX k x ps sp :=
  let ⟨f, fd, F, a, b, c⟩ := C.ex; ⟨f, fd, F.up h, a, b, c⟩
section
variable {X : Cx} {CX : CXT} {k : Nat} {x : Str} {ps : List Str} {sp : Sp} {E : XK} {e : Expr} {es : List Expr} {t : TA} {p pos : Pos}
theorem glbB_gl {sc : Scope} (hs : X.env.scope = sc) (h : glbB sc x = true) : Gl X x ∧ (x == ("__debug__" : Str)) = false := by
  unfold glbB at h
  simp only [Bool.and_eq_true, Bool.not_eq_true'] at h
  refine ⟨?_, h.2⟩
  show X.env.scope.names.lookup x = _
  rw [hs]
  have h1 := h.1
  split at h1
  · assumption
  · cases h1
theorem run_call {pins : List (Addr × Obj)} {σ : L2.St} {H : Hp} {s : Shared} {Q : VK} {f : Addr} {fd : FuncData} {us : List Value} {vs : List V} (F : FnG X.prog X.w X.K X.mg X.base CX k f fd ps sp) (gd : X.A.guards = some []) (rm : Room k X.A) (bd : Binds X.K fd ps []) (hx : Passes CX X E)
    (I : Inv X pins σ H s) (rv : Vals vs us) (h : sp vs H Q E) : wpAny (model X.prog X.w) X.A (call (.ref f) us) (EP X pins σ Q) X.xe s := by
  have hn : (us ++ []).length = ps.length := by rw [List.append_nil, ← rv.length]; exact F.ar _ _ _ _ h
  have hb := bd s us I.kIn hn
  rw [List.append_nil] at hb
  refine wpAny_call (codeAny_mono (F.go X.A X.stack s H ⟨us, []⟩ us vs Q E gd rm I.env0 hb rv h) fun r s2 hq => ?_)
  match r, hq with
  | .error e, hq => exact hx pins σ H s e s2 I hq
  | .ok (.ret u), hq => exact I.after hq
theorem pe_callG {sc : Scope} (C : Cal X.prog X.w X.K X.mg X.base CX k x ps sp) (gd : X.A.guards = some []) (rm : Room k X.A) (hs : X.env.scope = sc) (hg : glbB sc x = true) (hx : Passes CX X E) (ha : PA X (e :: es) t)
    (he : starEach (e :: es) X.env = (false, eval e X.env) :: starEach es X.env := by rfl) (hp : (backTo pos (starEach es X.env)).any (·.1) = false := by rfl) :
    PE X (.Call (.Name x p) (e :: es) [] pos) (fun σ H Q => t σ H fun vs H1 => sp vs H1 Q E) := by
  obtain ⟨f, fd, F, hm, hk, bd⟩ := C.ex
  obtain ⟨gl, db⟩ := glbB_gl hs hg
  refine ⟨fun pins s σ H Q I h => wpAny_Call_Name_kw (ld_glob I gl hm ?_ db)⟩
  refine PySem.W.callWith_K (h₀ := X.base) I.ok.mod.kin hk (thn (ha.run pos pins s σ H _ I h) fun us s1 a => ?_) he hp
  obtain ⟨vs, H1, I1, rv, q⟩ := a
  exact ⟨I1.kIn, run_call F gd rm bd hx I1 rv q⟩
end

/-! ### the law's end -/
section
variable {P : Program} {w : World} {K : PySem.W.Frag} {mg mb : Str → Option Value} {k : Nat} {fa a : Addr} {fd : FuncData} {x : Str} {sp : Sp} {s1 : Shared} {vs : List Value} {ns : List Int}
/-- what must hold of the abstract heap at the law's entry: at most the script is tracked -/
structure Entry (K : PySem.W.Frag) (s1 : Shared) (a : Addr) (ns : List Int) (H : Hp) (P : Program) (w : World) : Prop where
  only : Only H
  seq : SqL K H a (ns.map V.int)
  ok : HOk P w H s1.heap
  just : ∀ b u, H b = some u → b = a
  nk : ∀ u, H a = some u → K.lookup a = none
theorem entry_ex (kx : K.In s1.heap) (ha : s1.heap.get? a = some { cls := .type "list", data := .seq vs.toArray }) (hi : IntsAre vs ns) (hl : ns.length ≤ sizeLine) : ∃ H, Entry K s1 a ns H P w := by
  have rv := vals_ints hi
  have ln := hi.length
  cases q : K.lookup a with
  | some o =>
    have e : some o = _ := (kx a o q).symm.trans ha
    cases e
    refine ⟨fun _ => none, fun _ => Or.inl rfl, Or.inr ⟨_, vs.toArray, _, q, rfl, rfl, rfl, ?_, by simpa using rv⟩, fun b u z => (nomatch z), fun b u z => (nomatch z), fun u z => (nomatch z)⟩
    rw [List.size_toArray, ln]; exact hl
  | none =>
    let ob : Obj := { cls := .type "list", data := .seq vs.toArray }
    have at1 : ∀ {b u}, (if b = a then some (HO.frz ob (.lst (ns.map V.int))) else none) = some u → b = a ∧ u = HO.frz ob (.lst (ns.map V.int)) := fun {b u} z => by
      by_cases c : b = a
      · rw [if_pos c] at z; exact ⟨c, (Option.some.inj z).symm⟩
      · rw [if_neg c] at z; cases z
    refine ⟨fun b => if b = a then some (.frz ob (.lst (ns.map V.int))) else none, fun b => ?_, Or.inl (Or.inr ⟨ob, if_pos rfl⟩), fun b u z => ?_, fun b u z => (at1 z).1, fun _ _ => q⟩
    · by_cases c : b = a
      · exact Or.inr ⟨_, _, if_pos c⟩
      · exact Or.inl (if_neg c)
    · obtain ⟨rfl, rfl⟩ := at1 z
      exact ⟨ha, by rw [List.length_map]; exact hl, vs, _, rv, ha⟩
theorem law_end (kx : K.In s1.heap) (hns : s1.heap.Ns mainGlobals mg) (hb : s1.heap.Ns builtinsNs mb) (hbb : ∀ x : Str, x ≠ "__name__" → mb x = bootBuiltins x) (hlim : s1.heap.NoLimit) (hg : s1.gens = #[])
    (ha : s1.heap.get? a = some { cls := .type "list", data := .seq vs.toArray }) (hi : IntsAre vs ns) (hl : ns.length ≤ sizeLine) (hr : Room k callerA)
    (F : ∀ base : Heap, K.In base → base.Ns mainGlobals mg → FnG P w K mg base CX0 k fa fd [x] sp) (bind : ∀ (s : Shared) (u : Value), BindsTo s fd ⟨[u], []⟩ [(x, u)])
    (hsp : ∀ H : Hp, Only H → SqL K H a (ns.map V.int) → sp [.ref a] H (fun v _ => v = .bl true) fun _ _ _ => False) :
    codeAny (model P w) callerA (.call (.ref fa) ⟨[.ref a], []⟩) (fun r s' => r = .ok (.ret (.bool true)) ∧ OldK s1.heap s'.heap ∧ s'.os = s1.os ∧ AllBare s'.gens) s1 := by
  obtain ⟨H, en⟩ := entry_ex (P := P) (w := w) kx ha hi hl
  -- the heap without the script is the base
  have out : ∀ {b : Addr} {o : Obj}, s1.heap.get? b = some o → (∀ u, H b ≠ some u) → (hidT s1.heap H).get? b = some o := fun {b o} e n => hidT_get e (by
    cases q : H b with
    | none => rfl
    | some u => exact absurd q (n u))
  have dict : ∀ {b : Addr} {o : Obj} {es : Array DictEntry} {ep : Nat}, s1.heap.get? b = some o → o.data = .dict es ep → ∀ u, H b ≠ some u := fun {b o es ep} e d u q => by
    have := en.just b u q
    subst this
    rw [ha] at e; cases e; cases d
  have ns1 : ∀ {b : Addr} {m : Str → Option Value}, s1.heap.Ns b m → (hidT s1.heap H).Ns b m := fun ⟨o, es, ep, e, d, r⟩ => ⟨o, es, ep, out e (dict e d), d, r⟩
  have kb : K.In (hidT s1.heap H) := fun b o e => out (kx b o e) fun u q => by
    have := en.just b u q
    subst this
    rw [en.nk u q] at e; cases e
  obtain ⟨ml, l1, l2⟩ := hlim
  have md : Mod K mg (hidT s1.heap H) := ⟨kb, ns1 hns, ⟨mb, ns1 hb, hbb⟩, ⟨ml, ns1 l1, l2⟩⟩
  have e0 : Env0 P w K mg (hidT s1.heap H) callerA [] s1 H := ⟨rfl, md, fun b o e => of_hidT e, Nat.le_of_eq (hidT_size _ _), trivial, fun b z => (nomatch (show b ∈ ([] : List Addr) from z)), en.ok, .of_eq hg⟩
  refine codeAny_mono ((F _ kb (ns1 hns)).go callerA [] s1 H ⟨[.ref a], []⟩ [.ref a] [.ref a] _ _ rfl hr e0 (bind s1 (.ref a)) (.cons rfl .nil) (hsp H en.only en.seq)) fun r s2 h => ?_
  match r, h with
  | .error e, h => exact False.elim h
  | .ok (.ret u), h =>
    obtain ⟨v, H2, os, bare, un, ok2, rel, q⟩ := h
    have q : v = .bl true := q
    subst q
    have rel : u = Value.bool true := rel
    subst rel
    refine ⟨rfl, OldK.of_keep fun b o e => ?_, os, bare⟩
    cases q : H b with
    | none => exact un.keep b o e q (fun z => (nomatch (show b ∈ ([] : List Addr) from z))) (fun z => (nomatch z))
    | some u =>
      rcases en.only b with z | ⟨o1, xs, z⟩
      · rw [z] at q; cases q
      · have h1 := (en.ok b _ z).1
        have h2 := (ok2 b _ (un.frzs b o1 _ z)).1
        rw [e] at h1; cases h1
        exact h2
end
theorem law_walk {l : PySem.W.OpenLaw} {n k : Nat} {q : Program} {loose : List Str} {XP : (Str → Option Value) → Heap → Prop} {YP : World → Heap → Prop} {d : DefRec} {K : Params → PySem.W.Frag} {sp : PySem.W.Frag → Sp} {x : Str}
    (hn : l.most = some n) (hn2 : n ≤ sizeLine) (hdf : d.params.defaults = []) (hr : Room k callerA) (hY : ∀ (w : World) (h : Heap), YP w h → (K w.params).In h)
    (F : ∀ (w : World) (mg : Str → Option Value) (fa : Addr) (h : Heap), (K w.params).In h → h.Ns mainGlobals mg → mg d.name = some (.ref fa) →
      ∃ fd : FuncData, (∀ (s : Shared) (u : Value), BindsTo s fd ⟨[u], []⟩ [(x, u)]) ∧ ∀ base : Heap, (K w.params).In base → base.Ns mainGlobals mg → FnG l.prog w (K w.params) mg base CX0 k fa fd [x] (sp (K w.params)))
    (hsp : ∀ (K : PySem.W.Frag) (H : Hp) (a : Addr) (ns : List Int), ns.length ≤ n → Only H → SqL K H a (ns.map V.int) → sp K [.ref a] H (fun v _ => v = .bl true) fun _ _ _ => False) :
    PySem.W.WalkO q loose XP YP l.row.toRowW d [] (fun f vs => PySem.call f vs) := by
  refine Att.attach_call hn hdf fun w s0 s1 mg mb fa o pm cd doc a vs ns G Y ho hd hcd hmg hobj hints hlen hg => ?_
  have kx := hY w _ Y
  obtain ⟨fd, hb, hF⟩ := F w mg fa _ kx G.T.g hmg
  exact law_end kx G.T.g G.T.b G.T.builtins G.T.nolimit hg hobj hints (Nat.le_trans hlen hn2) hr hF hb fun H hO hS => hsp _ H a ns hlen hO hS
end Lay

set_option Elab.async false
set_option linter.all false
set_option maxRecDepth 100000
/-! Lay4: what a def promises on data; its call; statements. -/
namespace Lay
open PySem PySem.Spec PyProof.Rows L2
open Lay.Enc (enc)

/-! ### promises -/
/-- how an answer is handed on: as data; as a list of the caller's own; as data whose lists are new -/
inductive Rq where
  | dd
  | ow
  | nw
/-- .. and whether only what F has must be kept -/
structure Rk where
  k : Rq
  m : Bool
abbrev Rk.s (o : Rk) : Rk := ⟨o.k, false⟩
def GrowB (m : Bool) (F I I' : Hp) : Prop := match m with
  | false => Grow F I I'
  | true => Grow F (rgO F I) I'
theorem rgO_grow {F I J : Hp} (a : Grow F I J) : Grow F (rgO F I) (rgO F J) := ⟨rgO_mono a.same, fun x h => by
  unfold rgO at h ⊢
  cases e : F x with
  | none => rw [e] at h; exact absurd rfl h
  | some u => rw [e] at h; rcases a.out x h with z | z
              · exact .inl z
              · rw [e] at z; cases z⟩
theorem Grow.transB {m : Bool} {F I J L : Hp} (a : Grow F I J) (b : GrowB m F J L) : GrowB m F I L := by
  cases m with
  | false => exact Grow.trans a b
  | true => exact Grow.trans (rgO_grow a) b
theorem GrowB.trans {m : Bool} {F I J L : Hp} (a : GrowB m F I J) (b : GrowB m F J L) : GrowB m F I L := by
  cases m with
  | false => exact Grow.trans a b
  | true =>
    refine ⟨fun x u h => b.same _ _ ?_, fun x h => ?_⟩
    · have h2 := a.same _ _ h
      unfold rgO at h ⊢
      cases e : F x with
      | none => rw [e] at h; cases h
      | some w => exact h2
    · rcases b.out x h with z | z
      · exact a.out x fun w => z (by unfold rgO; cases F x <;> simp [w])
      · exact .inr z
theorem Grow.b {m : Bool} {F I J : Hp} (a : Grow F I J) : GrowB m F I J := by
  cases m with
  | false => exact a
  | true => exact ⟨fun x u h => a.same _ _ (rgO_le _ _ h), fun x h => by
      rcases a.out x h with z | z
      · by_cases c : F x = none
        · exact .inr c
        · refine .inl ?_
          unfold rgO
          cases e : F x with
          | none => exact absurd e c
          | some u => exact z
      · exact .inr z⟩
def RetR (K : PySem.W.Frag) (own : Rq) (F I' H' : Hp) (v : V) (r : PyData) : Prop :=
  match own with
  | .dd => Dq I' v r
  | .nw => Dq (rgN F I') v r
  | .ow => ∃ p xs ds, v = .ref p ∧ r = .list ds ∧ I' p = none ∧ F p = none ∧ H' p = some (.lst xs) ∧ DqAll I' xs ds
/-- called with data ds where g ds r: it gives r, all that stood is kept -/
def spD (K : PySem.W.Frag) (own : Rq) (g : List PyData → PyData → Prop) : Sp := fun vs H Q _ =>
  ∃ ds r I, g ds r ∧ Same I H ∧ DqAll I vs ds ∧ ∀ v H' I', Same H H' → Grow H I I' → Same I' H' → RetR K own H I' H' v r → Q v H'
section
variable {X : Cx} {G : List Sl} {α β γ : Type} [Enc α] [Enc β] [Enc γ]
theorem ad_nil : AD X G [] (some []) := fun ds h => by
  cases h
  exact pa_nil.imp fun σ H Q ⟨F, I, ps, R, q⟩ => q _ _ _ Grow.refl R .nil
theorem ad_cons {e : Expr} {es : List Expr} {o : Option α} {ods : Option (List PyData)} (h : ED X G e o) (hr : AD X G es ods) (hs : starEach (e :: es) X.env = (false, eval e X.env) :: starEach es X.env := by rfl) :
    AD X G (e :: es) (lift2 (fun x ds => enc x :: ds) o ods) := fun ds hd => by
  obtain ⟨x, ds', h1, h2, h3⟩ := lift2_get hd
  subst h3
  exact (pa_cons (h x h1) (hr ds' h2) hs).imp fun σ H Q ⟨F, I, ps, R, q⟩ => ⟨F, I, ps, R, fun v H1 I1 g1 R1 d1 => ⟨F, I1, ps, R1, fun vs H2 I2 g2 R2 d2 => q _ _ _ (g1.trans g2) R2 (.cons (Dq_mono g2.same _ _ d1) d2)⟩⟩
/-- all items of one type -/
def AL (X : Cx) (G : List Sl) {α : Type} [Enc α] (es : List Expr) (o : Option (List α)) : Prop := ∀ l, o = some l → PA X es (tA X.K G (l.map enc))
theorem al_nil : AL X G [] (some ([] : List α)) := fun l h => by
  cases h
  exact pa_nil.imp fun σ H Q ⟨F, I, ps, R, q⟩ => q _ _ _ Grow.refl R .nil
theorem al_cons {e : Expr} {es : List Expr} {o : Option α} {ol : Option (List α)} (h : ED X G e o) (hr : AL X G es ol) (hs : starEach (e :: es) X.env = (false, eval e X.env) :: starEach es X.env := by rfl) :
    AL X G (e :: es) (lift2 List.cons o ol) := fun l hl => by
  obtain ⟨x, l', h1, h2, h3⟩ := lift2_get hl
  subst h3
  exact (pa_cons (h x h1) (hr l' h2) hs).imp fun σ H Q ⟨F, I, ps, R, q⟩ => ⟨F, I, ps, R, fun v H1 I1 g1 R1 d1 => ⟨F, I1, ps, R1, fun vs H2 I2 g2 R2 d2 => q _ _ _ (g1.trans g2) R2 (.cons (Dq_mono g2.same _ _ d1) d2)⟩⟩
theorem al_star {e : Expr} {p : Pos} {es : List Expr} {o ol : Option (List α)} (h : ED X G e o) (hr : AL X G es ol) (hs : starEach (.Starred e p :: es) X.env = (true, eval e X.env) :: starEach es X.env := by rfl) :
    AL X G (.Starred e p :: es) (lift2 (· ++ ·) o ol) := fun l hl => by
  obtain ⟨x, l', h1, h2, h3⟩ := lift2_get hl
  subst h3
  refine (StX.pa_star (h x h1) (hr l' h2) hs).imp fun σ H Q ⟨F, I, ps, R, q⟩ => ⟨F, I, ps, R, fun v H1 I1 g1 R1 d1 => ?_⟩
  cases d1 with
  | lst k1 k2 => exact ⟨_, _, rfl, .inr (.inl (rd_mono R1.si k1)), F, I1, ps, R1, fun vs H2 I2 g2 R2 d2 => q _ _ _ (g1.trans g2) R2 (by rw [List.map_append]; exact (DqAll_mono g2.same _ _ k2).app d2)⟩
theorem al_starT {e : Expr} {p : Pos} {es : List Expr} {o : Option (Tup α)} {ol : Option (List α)} (h : ED X G e o) (hr : AL X G es ol) (hs : starEach (.Starred e p :: es) X.env = (true, eval e X.env) :: starEach es X.env := by rfl) :
    AL X G (.Starred e p :: es) (lift2 (fun t l => t.l ++ l) o ol) := fun l hl => by
  obtain ⟨x, l', h1, h2, h3⟩ := lift2_get hl
  subst h3
  refine (StX.pa_star (h x h1) (hr l' h2) hs).imp fun σ H Q ⟨F, I, ps, R, q⟩ => ⟨F, I, ps, R, fun v H1 I1 g1 R1 d1 => ?_⟩
  cases d1 with
  | tup k1 k2 => exact ⟨_, _, rfl, .inl (.inl (rd_mono R1.si k1)), F, I1, ps, R1, fun vs H2 I2 g2 R2 d2 => q _ _ _ (g1.trans g2) R2 (by rw [List.map_append]; exact (DqAll_mono g2.same _ _ k2).app d2)⟩
/-- displays -/
def szG {α : Type} (l : List α) : Option (List α) := if l.length ≤ sizeLine then some l else none
theorem eo_list {es : List Expr} {pos : Pos} {ol : Option (List α)} (h : AL X G es ol) : EO X G (.List es pos) (ol.bind szG) := fun l hl => by
  obtain ⟨x, h1, h2⟩ := bind_get hl
  obtain ⟨hz, e⟩ := ite_get h2
  subst e
  exact (pe_lst (h x h1)).imp fun σ H Q ⟨F, I, ps, R, q⟩ => ⟨F, I, ps, R, fun vs H1 I1 g1 R1 d => ⟨by rw [d.len, List.length_map]; exact hz, fun p hp =>
    q p vs _ I1 g1 (R1.newOwn hp) (R1.si.free hp) (R1.sf.free hp) (fun i c => by obtain ⟨_, _, _, z⟩ := R1.own_at c; rw [hp] at z; cases z) upd_same d⟩⟩
theorem tup_of {es : List Expr} {k : Nat} {pos : Pos} {ds : List PyData} {r : PyData} (h : PA X es (tA X.K G ds)) (hz : ds.length ≤ sizeLine) (hr : r = .tuple ds) : PE X (.Tuple es k pos) (tD X.K G r) := by
  subst hr
  exact (pe_tup h).imp fun σ H Q ⟨F, I, ps, R, q⟩ => ⟨F, I, ps, R, fun vs H1 I1 g1 R1 d => ⟨by rw [d.len]; exact hz, fun p hp =>
    q (.ref p) _ _ (g1.trans (R1.grow_new hp)) (R1.new hp) (.tup (.inl upd_same) (DqAll_mono (R1.grow_new (o := .tup vs) hp).same _ _ d))⟩⟩
theorem ed_tup {es : List Expr} {k : Nat} {pos : Pos} {ol : Option (List α)} (h : AL X G es ol) : ED X G (.Tuple es k pos) (lift1 Tup.mk (ol.bind szG)) := fun t ht => by
  obtain ⟨x, h1, h2⟩ := lift1_get ht
  obtain ⟨y, h3, h4⟩ := bind_get h1
  obtain ⟨hz, e⟩ := ite_get h4
  subst e h2
  exact tup_of (h y h3) (by rw [List.length_map]; exact hz) rfl
theorem small_line {n : Nat} (h : n ≤ 8) : n ≤ sizeLine := Nat.le_trans h (by decide)
def lift3 {α β γ δ : Type} (f : α → β → γ → δ) (a : Option α) (b : Option β) (c : Option γ) : Option δ := a.bind fun x => b.bind fun y => c.bind fun z => some (f x y z)
def lift4 {α β γ δ ε : Type} (f : α → β → γ → δ → ε) (a : Option α) (b : Option β) (c : Option γ) (d : Option δ) : Option ε := a.bind fun x => b.bind fun y => c.bind fun z => d.bind fun w => some (f x y z w)
@[simp] theorem lift3_some {α β γ δ : Type} (f : α → β → γ → δ) (a : α) (b : β) (c : γ) : lift3 f (some a) (some b) (some c) = some (f a b c) := rfl
@[simp] theorem lift4_some {α β γ δ ε : Type} (f : α → β → γ → δ → ε) (a : α) (b : β) (c : γ) (d : δ) : lift4 f (some a) (some b) (some c) (some d) = some (f a b c d) := rfl
theorem ed_t2 {e1 e2 : Expr} {k : Nat} {pos : Pos} {oa : Option α} {ob : Option β} (ha : ED X G e1 oa) (hb : ED X G e2 ob) (s1 : starEach [e1, e2] X.env = (false, eval e1 X.env) :: starEach [e2] X.env := by rfl) (s2 : starEach [e2] X.env = [(false, eval e2 X.env)] := by rfl) :
    ED X G (.Tuple [e1, e2] k pos) (lift2 T2.mk oa ob) := fun t ht => by
  obtain ⟨x, y, h1, h2, h3⟩ := lift2_get ht
  subst h3
  exact tup_of (ad_cons ha (ad_cons hb ad_nil s2) s1 _ (by rw [h1, h2]; rfl)) (small_line (by show 2 ≤ 8; decide)) rfl
theorem ed_t3 {e1 e2 e3 : Expr} {k : Nat} {pos : Pos} {oa : Option α} {ob : Option β} {oc : Option γ} (ha : ED X G e1 oa) (hb : ED X G e2 ob) (hc : ED X G e3 oc)
    (s1 : starEach [e1, e2, e3] X.env = (false, eval e1 X.env) :: starEach [e2, e3] X.env := by rfl) (s2 : starEach [e2, e3] X.env = (false, eval e2 X.env) :: starEach [e3] X.env := by rfl) (s3 : starEach [e3] X.env = [(false, eval e3 X.env)] := by rfl) :
    ED X G (.Tuple [e1, e2, e3] k pos) (lift3 T3.mk oa ob oc) := fun t ht => by
  obtain ⟨x, h1, ht⟩ := bind_get ht
  obtain ⟨y, h2, ht⟩ := bind_get ht
  obtain ⟨z, h3, ht⟩ := bind_get ht
  cases ht
  exact tup_of (ad_cons ha (ad_cons hb (ad_cons hc ad_nil s3) s2) s1 _ (by rw [h1, h2, h3]; rfl)) (small_line (by show 3 ≤ 8; decide)) rfl
theorem ed_t4 {δ : Type} [Enc δ] {e1 e2 e3 e4 : Expr} {k : Nat} {pos : Pos} {oa : Option α} {ob : Option β} {oc : Option γ} {od : Option δ} (ha : ED X G e1 oa) (hb : ED X G e2 ob) (hc : ED X G e3 oc) (hd : ED X G e4 od)
    (s1 : starEach [e1, e2, e3, e4] X.env = (false, eval e1 X.env) :: starEach [e2, e3, e4] X.env := by rfl) (s2 : starEach [e2, e3, e4] X.env = (false, eval e2 X.env) :: starEach [e3, e4] X.env := by rfl) (s3 : starEach [e3, e4] X.env = (false, eval e3 X.env) :: starEach [e4] X.env := by rfl) (s4 : starEach [e4] X.env = [(false, eval e4 X.env)] := by rfl) :
    ED X G (.Tuple [e1, e2, e3, e4] k pos) (lift4 T4.mk oa ob oc od) := fun t ht => by
  obtain ⟨x, h1, ht⟩ := bind_get ht
  obtain ⟨y, h2, ht⟩ := bind_get ht
  obtain ⟨z, h3, ht⟩ := bind_get ht
  obtain ⟨w, h4, ht⟩ := bind_get ht
  cases ht
  exact tup_of (ad_cons ha (ad_cons hb (ad_cons hc (ad_cons hd ad_nil s4) s3) s2) s1 _ (by rw [h1, h2, h3, h4]; rfl)) (small_line (by show 4 ≤ 8; decide)) rfl

/-! ### the call of a def -/
/-- behind a call: the state -/
theorem RS.called {K : PySem.W.Frag} {F H I H' I' : Hp} {σ : L2.St} {ps : Nat → Option Addr} (R : RS K F G σ H I ps) (s : Same H H') (g : Grow H I I') (si : Same I' H') : Grow F I I' ∧ RS K F G σ H' I' ps := by
  refine ⟨⟨g.same, fun a h => (g.out a h).imp_right R.sf.free⟩, R.grow s si g.same fun i a ha => ?_⟩
  obtain ⟨n, _, xs, q⟩ := R.own_at ha
  cases z : I' a with
  | none => rfl
  | some o =>
    rcases g.out a (by rw [z]; simp) with h | h
    · exact absurd n h
    · rw [q] at h; cases h
section
variable {N : List Str} {sc : Scope} {fs : Option Scope} {k j : Nat} {x : Str} {prm : List Str} {g : List PyData → PyData → Prop} {e : Expr} {es : List Expr} {p pos : Pos} {ods : Option (List PyData)}
theorem ed_call {o : Option α} (C : Ctx X N sc fs k) (c : Cal X.prog X.w X.K X.mg X.base CX0 j x prm (spD X.K .dd g)) (hj : j ≤ k) (hg : glbB sc x = true) (ha : AD X G (e :: es) ods) (ho : ∀ r, o = some r → ∃ ds, ods = some ds ∧ g ds (enc r))
    (he : starEach (e :: es) X.env = (false, eval e X.env) :: starEach es X.env := by rfl) (hp : (backTo pos (starEach es X.env)).any (·.1) = false := by rfl) : ED X G (.Call (.Name x p) (e :: es) [] pos) o := fun r hr => by
  obtain ⟨ds, h1, h2⟩ := ho r hr
  refine (pe_callG (c.up hj) C.gd C.rm C.s hg (pass0 (X := X)) (ha ds h1) he hp).imp fun σ H Q ⟨F, I, ps, R, q⟩ => ⟨F, I, ps, R, fun vs H1 I1 g1 R1 d => ⟨ds, _, I1, h2, R1.si, d, fun v H' I' s g' si rr => ?_⟩⟩
  obtain ⟨g2, R2⟩ := R1.called s g' si
  exact q v H' I' (g1.trans g2) R2 rr
theorem eo_call {o : Option (List α)} (C : Ctx X N sc fs k) (c : Cal X.prog X.w X.K X.mg X.base CX0 j x prm (spD X.K .ow g)) (hj : j ≤ k) (hg : glbB sc x = true) (ha : AD X G (e :: es) ods) (ho : ∀ r, o = some r → ∃ ds, ods = some ds ∧ g ds (enc r))
    (he : starEach (e :: es) X.env = (false, eval e X.env) :: starEach es X.env := by rfl) (hp : (backTo pos (starEach es X.env)).any (·.1) = false := by rfl) : EO X G (.Call (.Name x p) (e :: es) [] pos) o := fun r hr => by
  obtain ⟨ds, h1, h2⟩ := ho r hr
  refine (pe_callG (c.up hj) C.gd C.rm C.s hg (pass0 (X := X)) (ha ds h1) he hp).imp fun σ H Q ⟨F, I, ps, R, q⟩ => ⟨F, I, ps, R, fun vs H1 I1 g1 R1 d => ⟨ds, _, I1, h2, R1.si, d, fun v H' I' s g' si rr => ?_⟩⟩
  obtain ⟨g2, R2⟩ := R1.called s g' si
  obtain ⟨p, xs, ds', e1, e2, n1, n2, hH, dd⟩ := rr
  subst e1
  cases e2
  exact q p xs H' I' (g1.trans g2) R2 n1 (R1.sf.free n2) (fun i c => by obtain ⟨_, _, _, z⟩ := R1.own_at c; rw [n2] at z; cases z) hH dd
end
end
def g1 {α ρ : Type} [Enc α] [Enc ρ] (m : α → Option ρ) : List PyData → PyData → Prop := fun ds r => ∃ a x, ds = [enc a] ∧ m a = some x ∧ r = enc x
def g2 {α β ρ : Type} [Enc α] [Enc β] [Enc ρ] (m : α → β → Option ρ) : List PyData → PyData → Prop := fun ds r => ∃ a b x, ds = [enc a, enc b] ∧ m a b = some x ∧ r = enc x
def g3 {α β γ ρ : Type} [Enc α] [Enc β] [Enc γ] [Enc ρ] (m : α → β → γ → Option ρ) : List PyData → PyData → Prop := fun ds r => ∃ a b c x, ds = [enc a, enc b, enc c] ∧ m a b c = some x ∧ r = enc x
def g4 {α β γ δ ρ : Type} [Enc α] [Enc β] [Enc γ] [Enc δ] [Enc ρ] (m : α → β → γ → δ → Option ρ) : List PyData → PyData → Prop := fun ds r => ∃ a b c d x, ds = [enc a, enc b, enc c, enc d] ∧ m a b c d = some x ∧ r = enc x
def g5 {α β γ δ ε ρ : Type} [Enc α] [Enc β] [Enc γ] [Enc δ] [Enc ε] [Enc ρ] (m : α → β → γ → δ → ε → Option ρ) : List PyData → PyData → Prop := fun ds r => ∃ a b c d e x, ds = [enc a, enc b, enc c, enc d, enc e] ∧ m a b c d e = some x ∧ r = enc x
def app1 {α ρ : Type} (m : α → Option ρ) (a : Option α) : Option ρ := a.bind m
def app2 {α β ρ : Type} (m : α → β → Option ρ) (a : Option α) (b : Option β) : Option ρ := a.bind fun x => b.bind fun y => m x y
def app3 {α β γ ρ : Type} (m : α → β → γ → Option ρ) (a : Option α) (b : Option β) (c : Option γ) : Option ρ := a.bind fun x => b.bind fun y => c.bind fun z => m x y z
def app4 {α β γ δ ρ : Type} (m : α → β → γ → δ → Option ρ) (a : Option α) (b : Option β) (c : Option γ) (d : Option δ) : Option ρ := a.bind fun x => b.bind fun y => c.bind fun z => d.bind fun w => m x y z w
def app5 {α β γ δ ε ρ : Type} (m : α → β → γ → δ → ε → Option ρ) (a : Option α) (b : Option β) (c : Option γ) (d : Option δ) (e : Option ε) : Option ρ := a.bind fun x => b.bind fun y => c.bind fun z => d.bind fun w => e.bind fun v => m x y z w v
@[simp] theorem app1_some {α ρ : Type} (m : α → Option ρ) (a : α) : app1 m (some a) = m a := rfl
@[simp] theorem app2_some {α β ρ : Type} (m : α → β → Option ρ) (a : α) (b : β) : app2 m (some a) (some b) = m a b := rfl
@[simp] theorem app3_some {α β γ ρ : Type} (m : α → β → γ → Option ρ) (a : α) (b : β) (c : γ) : app3 m (some a) (some b) (some c) = m a b c := rfl
@[simp] theorem app4_some {α β γ δ ρ : Type} (m : α → β → γ → δ → Option ρ) (a : α) (b : β) (c : γ) (d : δ) : app4 m (some a) (some b) (some c) (some d) = m a b c d := rfl
@[simp] theorem app5_some {α β γ δ ε ρ : Type} (m : α → β → γ → δ → ε → Option ρ) (a : α) (b : β) (c : γ) (d : δ) (e : ε) : app5 m (some a) (some b) (some c) (some d) (some e) = m a b c d e := rfl
section
variable {α β γ δ ε ρ : Type} [Enc α] [Enc β] [Enc γ] [Enc δ] [Enc ε] [Enc ρ] {oa : Option α} {ob : Option β} {oc : Option γ} {od : Option δ} {oe : Option ε}
theorem go1 {m : α → Option ρ} (r : ρ) (h : app1 m oa = some r) : ∃ ds, lift2 (fun x ds => enc x :: ds) oa (some []) = some ds ∧ g1 m ds (enc r) := by
  obtain ⟨x, h1, h⟩ := bind_get h
  exact ⟨_, by rw [h1]; rfl, x, r, rfl, h, rfl⟩
theorem go2 {m : α → β → Option ρ} (r : ρ) (h : app2 m oa ob = some r) : ∃ ds, lift2 (fun x ds => enc x :: ds) oa (lift2 (fun x ds => enc x :: ds) ob (some [])) = some ds ∧ g2 m ds (enc r) := by
  obtain ⟨x, h1, h⟩ := bind_get h
  obtain ⟨y, h2, h⟩ := bind_get h
  exact ⟨_, by rw [h1, h2]; rfl, x, y, r, rfl, h, rfl⟩
theorem go3 {m : α → β → γ → Option ρ} (r : ρ) (h : app3 m oa ob oc = some r) : ∃ ds, lift2 (fun x ds => enc x :: ds) oa (lift2 (fun x ds => enc x :: ds) ob (lift2 (fun x ds => enc x :: ds) oc (some []))) = some ds ∧ g3 m ds (enc r) := by
  obtain ⟨x, h1, h⟩ := bind_get h
  obtain ⟨y, h2, h⟩ := bind_get h
  obtain ⟨z, h3, h⟩ := bind_get h
  exact ⟨_, by rw [h1, h2, h3]; rfl, x, y, z, r, rfl, h, rfl⟩
theorem go4 {m : α → β → γ → δ → Option ρ} (r : ρ) (h : app4 m oa ob oc od = some r) : ∃ ds, lift2 (fun x ds => enc x :: ds) oa (lift2 (fun x ds => enc x :: ds) ob (lift2 (fun x ds => enc x :: ds) oc (lift2 (fun x ds => enc x :: ds) od (some [])))) = some ds ∧ g4 m ds (enc r) := by
  obtain ⟨x, h1, h⟩ := bind_get h
  obtain ⟨y, h2, h⟩ := bind_get h
  obtain ⟨z, h3, h⟩ := bind_get h
  obtain ⟨w, h4, h⟩ := bind_get h
  exact ⟨_, by rw [h1, h2, h3, h4]; rfl, x, y, z, w, r, rfl, h, rfl⟩
theorem go5 {m : α → β → γ → δ → ε → Option ρ} (r : ρ) (h : app5 m oa ob oc od oe = some r) : ∃ ds, lift2 (fun x ds => enc x :: ds) oa (lift2 (fun x ds => enc x :: ds) ob (lift2 (fun x ds => enc x :: ds) oc (lift2 (fun x ds => enc x :: ds) od (lift2 (fun x ds => enc x :: ds) oe (some []))))) = some ds ∧ g5 m ds (enc r) := by
  obtain ⟨x, h1, h⟩ := bind_get h
  obtain ⟨y, h2, h⟩ := bind_get h
  obtain ⟨z, h3, h⟩ := bind_get h
  obtain ⟨w, h4, h⟩ := bind_get h
  obtain ⟨v, h5, h⟩ := bind_get h
  exact ⟨_, by rw [h1, h2, h3, h4, h5]; rfl, x, y, z, w, v, r, rfl, h, rfl⟩
end

/-! ### statements -/
inductive Out (S B R : Type) where
  | nx (s : S)
  | bk (b : B)
  | ct (b : B)
  | rt (r : R)
def tS {S B R : Type} [Enc R] (K : PySem.W.Frag) (G : List Sl) (P : S → List Sl) (PB : B → List Sl) (own : Rk) (o : Out S B R) : TS := fun D σ H =>
  ∃ F I ps, RS K F G σ H I ps ∧ match o with
    | .nx s => ∀ σ' H' I' ps', GrowB own.m F I I' → RS K F (P s) σ' H' I' ps' → D.nx σ' H'
    | .bk b => ∀ σ' H' I' ps', GrowB own.m F I I' → RS K F (PB b) σ' H' I' ps' → D.bk σ' H'
    | .ct b => ∀ σ' H' I' ps', GrowB own.m F I I' → RS K F (PB b) σ' H' I' ps' → D.ct σ' H'
    | .rt r => ∀ v H' I', GrowB own.m F I I' → Same F H' → Same I' H' → RetR K own.k F I' H' v (enc r) → D.rt v H'
/-- the block, from slots G, ends as o says (if o is some) -/
def SV {S B R : Type} [Enc R] (X : Cx) (G : List Sl) (st : List Stmt) (P : S → List Sl) (PB : B → List Sl) (own : Rk) (o : Option (Out S B R)) : Prop := ∀ x, o = some x → PSs X st (tS X.K G P PB own x)
theorem _root_.L2.PSs.imp {X : Cx} {st : List Stmt} {t t' : TS} (h : PSs X st t) (w : ∀ D σ H, t' D σ H → t D σ H) : PSs X st t' := ⟨fun pins s σ H D I q => h.run pins s σ H D I (w D σ H q)⟩
theorem _root_.L2.PS.imp {X : Cx} {st : Stmt} {t t' : TS} (h : PS X st t) (w : ∀ D σ H, t' D σ H → t D σ H) : PS X st t' := ⟨fun pins s σ H D I q => h.run pins s σ H D I (w D σ H q)⟩

/-- slots forgotten, own lists made persistent -/
def WkR (G G' : List Sl) : Prop := ∀ (K : PySem.W.Frag) (F : Hp) (σ : L2.St) (H I : Hp) (ps : Nat → Option Addr), RS K F G σ H I ps → ∃ I' ps', Grow F I I' ∧ RS K F G' σ H I' ps'
inductive Wop where
  | un (i : Nat)
  | fz (i : Nat)
  | dt (i : Nat)
def datS : Sl → Sl
  | .old d => .dat d
  | .nw d => .dat d
  | s => s
theorem datS_rs {K : PySem.W.Frag} {F H I : Hp} {G : List Sl} {σ : L2.St} {ps : Nat → Option Addr} {i : Nat} (R : RS K F G σ H I ps) : RS K F (G.set i (datS (slAt G i))) σ H I ps where
  si := R.si
  sf := R.sf
  fo := R.fo
  len := by rw [List.length_set]; exact R.len
  sl := fun j hj => by
    rw [List.length_set] at hj
    obtain ⟨v, h1, h2⟩ := R.sl j hj
    refine ⟨v, h1, ?_⟩
    by_cases e : j = i
    · subst e
      rw [slAt_set_self hj]
      cases s : slAt G j with
      | un => rw [s] at h2; exact h2
      | dat d => rw [s] at h2; exact h2
      | own d => rw [s] at h2; exact h2
      | rd d => rw [s] at h2; exact h2
      | old d => rw [s] at h2; obtain ⟨e1, x, e2, q⟩ := h2; exact ⟨e1, x, e2, Dq_mono rgO_le _ _ q⟩
      | nw d => rw [s] at h2; obtain ⟨e1, x, e2, q⟩ := h2; exact ⟨e1, x, e2, Dq_mono rgN_le _ _ q⟩
    · rw [slAt_set_ne (Ne.symm e)]; exact h2
  out := fun j hj => R.out j (by rw [List.length_set] at hj; exact hj)
  dis := R.dis
def frzS : Sl → Sl
  | .own ds => .dat (.list ds)
  | s => s
def wkA : List Wop → List Sl → List Sl
  | [], G => G
  | .un i :: r, G => wkA r (G.set i .un)
  | .fz i :: r, G => wkA r (G.set i (frzS (slAt G i)))
  | .dt i :: r, G => wkA r (G.set i (datS (slAt G i)))
theorem wkR_refl {G : List Sl} : WkR G G := fun K F σ H I ps R => ⟨I, ps, Grow.refl, R⟩
theorem set_at {G : List Sl} {i : Nat} : G.set i (slAt G i) = G := by
  induction G generalizing i with
  | nil => rfl
  | cons s r ih => cases i with
    | zero => rfl
    | succ i => show s :: r.set i (slAt r i) = _; rw [ih]
theorem wkR_ops : ∀ (ops : List Wop) (G : List Sl), WkR G (wkA ops G)
  | [], _ => wkR_refl
  | .un i :: r, G => fun K F σ H I ps R => by
    have R1 := R.setUn (i := i) (v := (σ[i]?).getD none)
    have e : σ.set i ((σ[i]?).getD none) = σ := by
      by_cases h : i < σ.length
      · rw [List.getElem?_eq_getElem h]; simp
      · exact List.set_eq_of_length_le (by omega)
    rw [e] at R1
    exact wkR_ops r _ K F σ H I _ R1
  | .dt i :: r, G => fun K F σ H I ps R => wkR_ops r _ K F σ H I ps (datS_rs (i := i) R)
  | .fz i :: r, G => fun K F σ H I ps R => by
    cases h : slAt G i with
    | own ds =>
      obtain ⟨I', g, R1⟩ := R.frz h
      obtain ⟨I2, ps2, g2, R2⟩ := wkR_ops r (G.set i (.dat (.list ds))) K F σ H I' _ R1
      refine ⟨I2, ps2, g.trans g2, ?_⟩
      show RS K F (wkA r (G.set i (frzS (slAt G i)))) σ H I2 ps2
      rw [h]; exact R2
    | un =>
      have e : G.set i (frzS (slAt G i)) = G := by rw [h]; show G.set i .un = G; rw [← h]; exact set_at
      show ∃ I' ps', Grow F I I' ∧ RS K F (wkA r (G.set i (frzS (slAt G i)))) σ H I' ps'
      rw [e]; exact wkR_ops r G K F σ H I ps R
    | rd d =>
      have e : G.set i (frzS (slAt G i)) = G := by rw [h]; show G.set i (.rd d) = G; rw [← h]; exact set_at
      show ∃ I' ps', Grow F I I' ∧ RS K F (wkA r (G.set i (frzS (slAt G i)))) σ H I' ps'
      rw [e]; exact wkR_ops r G K F σ H I ps R
    | old d =>
      have e : G.set i (frzS (slAt G i)) = G := by rw [h]; show G.set i (.old d) = G; rw [← h]; exact set_at
      show ∃ I' ps', Grow F I I' ∧ RS K F (wkA r (G.set i (frzS (slAt G i)))) σ H I' ps'
      rw [e]; exact wkR_ops r G K F σ H I ps R
    | nw d =>
      have e : G.set i (frzS (slAt G i)) = G := by rw [h]; show G.set i (.nw d) = G; rw [← h]; exact set_at
      show ∃ I' ps', Grow F I I' ∧ RS K F (wkA r (G.set i (frzS (slAt G i)))) σ H I' ps'
      rw [e]; exact wkR_ops r G K F σ H I ps R
    | dat d =>
      have e : G.set i (frzS (slAt G i)) = G := by rw [h]; show G.set i (.dat d) = G; rw [← h]; exact set_at
      show ∃ I' ps', Grow F I I' ∧ RS K F (wkA r (G.set i (frzS (slAt G i)))) σ H I' ps'
      rw [e]; exact wkR_ops r G K F σ H I ps R
theorem wk_ops {G G' : List Sl} (ops : List Wop) (h : wkA ops G = G') : WkR G G' := h ▸ wkR_ops ops G

def bindOut {S S' B R : Type} (o : Option (Out S B R)) (k : S → Option (Out S' B R)) : Option (Out S' B R) := o.bind fun x => match x with
  | .nx s => k s
  | .bk b => some (.bk b)
  | .ct b => some (.ct b)
  | .rt r => some (.rt r)
@[simp] theorem bindOut_nx {S S' B R : Type} (s : S) (k : S → Option (Out S' B R)) : bindOut (some (.nx s)) k = k s := rfl
@[simp] theorem bindOut_rt {S S' B R : Type} (r : R) (k : S → Option (Out S' B R)) : bindOut (some (.rt r) : Option (Out S B R)) k = some (.rt r) := rfl
@[simp] theorem bindOut_bk {S S' B R : Type} (b : B) (k : S → Option (Out S' B R)) : bindOut (some (.bk b) : Option (Out S B R)) k = some (.bk b) := rfl
@[simp] theorem bindOut_ct {S S' B R : Type} (b : B) (k : S → Option (Out S' B R)) : bindOut (some (.ct b) : Option (Out S B R)) k = some (.ct b) := rfl
section
variable {X : Cx} {G G' : List Sl} {S S' B R : Type} [Enc R] {P : S → List Sl} {P' : S' → List Sl} {PB : B → List Sl} {own : Rk} {rest : List Stmt} {o : Option (Out S B R)}
theorem sv_wk (hw : WkR G G') (h : SV X G' rest P PB own o) : SV X G rest P PB own o := fun x hx => (h x hx).imp fun D σ H ⟨F, I, ps, R, q⟩ => by
  obtain ⟨I', ps', g, R'⟩ := hw _ _ _ _ _ _ R
  refine ⟨F, I', ps', R', ?_⟩
  cases x with
  | nx s => exact fun σ' H' I2 ps2 g2 R2 => q σ' H' I2 ps2 (g.transB g2) R2
  | bk s => exact fun σ' H' I2 ps2 g2 R2 => q σ' H' I2 ps2 (g.transB g2) R2
  | ct s => exact fun σ' H' I2 ps2 g2 R2 => q σ' H' I2 ps2 (g.transB g2) R2
  | rt r => exact fun v H' I2 g2 s1 s2 rr => q v H' I2 (g.transB g2) s1 s2 rr
theorem sv_none : SV X G rest P PB own (none : Option (Out S B R)) := fun x hx => by cases hx
theorem sv_nil {s : S} (hw : WkR G (P s)) : SV X G [] P PB own (some (.nx s) : Option (Out S B R)) := fun x hx => by
  cases hx
  refine pss_nil.imp fun D σ H ⟨F, I, ps, R, q⟩ => ?_
  obtain ⟨I', ps', g, R'⟩ := hw _ _ _ _ _ _ R
  exact q σ H I' ps' g.b R'
theorem sv_break {b : B} {pos : Pos} (hw : WkR G (PB b)) : SV X G (.Break pos :: rest) P PB own (some (.bk b) : Option (Out S B R)) := fun x hx => by
  cases hx
  refine (pss_cons ps_break pss_never).imp fun D σ H ⟨F, I, ps, R, q⟩ => ?_
  obtain ⟨I', ps', g, R'⟩ := hw _ _ _ _ _ _ R
  exact q σ H I' ps' g.b R'
theorem sv_continue {b : B} {pos : Pos} (hw : WkR G (PB b)) : SV X G (.Continue pos :: rest) P PB own (some (.ct b) : Option (Out S B R)) := fun x hx => by
  cases hx
  refine (pss_cons ps_continue pss_never).imp fun D σ H ⟨F, I, ps, R, q⟩ => ?_
  obtain ⟨I', ps', g, R'⟩ := hw _ _ _ _ _ _ R
  exact q σ H I' ps' g.b R'
theorem sv_pass {pos : Pos} (h : SV X G rest P PB own o) : SV X G (.Pass pos :: rest) P PB own o := fun x hx => (pss_cons ps_pass (h x hx)).imp fun D σ H t => t
/-- behind an expression: from the wish's point of view -/
theorem tS_afterB {K : PySem.W.Frag} {x : Out S B R} {D : Ends} {σ : L2.St} {F H I H1 I1 : Hp} {ps ps1 : Nat → Option Addr} {σ1 : L2.St} (g : GrowB own.m F I I1) (R1 : RS K F G' σ1 H1 I1 ps1)
    (q : match x with
      | .nx s => ∀ σ' H' I' ps', GrowB own.m F I I' → RS K F (P s) σ' H' I' ps' → D.nx σ' H'
      | .bk b => ∀ σ' H' I' ps', GrowB own.m F I I' → RS K F (PB b) σ' H' I' ps' → D.bk σ' H'
      | .ct b => ∀ σ' H' I' ps', GrowB own.m F I I' → RS K F (PB b) σ' H' I' ps' → D.ct σ' H'
      | .rt r => ∀ v H' I', GrowB own.m F I I' → Same F H' → Same I' H' → RetR K own.k F I' H' v (enc r) → D.rt v H') : tS K G' P PB own x D σ1 H1 := by
  refine ⟨F, I1, ps1, R1, ?_⟩
  cases x with
  | nx s => exact fun σ' H' I2 ps2 g2 R2 => q σ' H' I2 ps2 (g.trans g2) R2
  | bk s => exact fun σ' H' I2 ps2 g2 R2 => q σ' H' I2 ps2 (g.trans g2) R2
  | ct s => exact fun σ' H' I2 ps2 g2 R2 => q σ' H' I2 ps2 (g.trans g2) R2
  | rt r => exact fun v H' I2 g2 s1 s2 rr => q v H' I2 (g.trans g2) s1 s2 rr
theorem tS_after {K : PySem.W.Frag} {x : Out S B R} {D : Ends} {σ : L2.St} {F H I H1 I1 : Hp} {ps ps1 : Nat → Option Addr} {σ1 : L2.St} (g : Grow F I I1) (R1 : RS K F G' σ1 H1 I1 ps1)
    (q : match x with
      | .nx s => ∀ σ' H' I' ps', GrowB own.m F I I' → RS K F (P s) σ' H' I' ps' → D.nx σ' H'
      | .bk b => ∀ σ' H' I' ps', GrowB own.m F I I' → RS K F (PB b) σ' H' I' ps' → D.bk σ' H'
      | .ct b => ∀ σ' H' I' ps', GrowB own.m F I I' → RS K F (PB b) σ' H' I' ps' → D.ct σ' H'
      | .rt r => ∀ v H' I', GrowB own.m F I I' → Same F H' → Same I' H' → RetR K own.k F I' H' v (enc r) → D.rt v H') : tS K G' P PB own x D σ1 H1 := tS_afterB (H := H) (ps := ps) (σ := σ) g.b R1 q
variable {N : List Str} {sc : Scope} {fs : Option Scope} {k i : Nat} {x : Str} {α β : Type} [Enc α] [Enc β] {e : Expr} {pos p : Pos}
theorem locB_ok (C : Ctx X N sc fs k) (h : locB N sc fs i x = true) : X.N.Nodup ∧ X.N[i]? = some x ∧ L2.Loc X.env.scope x ∧ (X.fn x = true ∨ X.env.scope.names.lookup x = some .local) := by
  unfold locB at h
  simp only [Bool.and_eq_true, decide_eq_true_eq] at h
  obtain ⟨h1, h2⟩ := h
  rw [C.n, C.s, C.fn]
  refine ⟨C.nd, h1, ?_, ?_⟩
  · unfold L2.Loc; split at h2 <;> simp_all
  · split at h2 <;> simp_all
/-- name = data -/
theorem sv_set {oe : Option α} {kk : α → Option (Out S B R)} (C : Ctx X N sc fs k) (hl : locB N sc fs i x = true) (he : ED X G e oe) (hk : ∀ v, SV X (G.set i (.dat (enc v))) rest P PB own (kk v))
    (hs : swapsWith e (some (.Name x p)) pos.line X.env = pure false := by rfl) : SV X G (.Assign [.Name x p] e pos :: rest) P PB own (oe.bind kk) := fun y hy => by
  obtain ⟨v, h1, h2⟩ := bind_get hy
  obtain ⟨a1, a2, a3, a4⟩ := locB_ok C hl
  exact (pss_cons (ps_set a1 a2 a3 (he v h1) hs a4) (hk v y h2)).imp fun D σ H ⟨F, I, ps, Rr, q⟩ => ⟨F, I, ps, Rr, fun w H1 I1 g R1 d => tS_after (H := H) (ps := ps) (σ := σ) g (R1.setDat d) q⟩
/-- name = a new list, kept as the def's own -/
theorem sv_setO {oe : Option (List α)} {kk : List α → Option (Out S B R)} (C : Ctx X N sc fs k) (hl : locB N sc fs i x = true) (hi : i < G.length) (he : EO X G e oe) (hk : ∀ v : List α, SV X (G.set i (.own (v.map enc))) rest P PB own (kk v))
    (hs : swapsWith e (some (.Name x p)) pos.line X.env = pure false := by rfl) : SV X G (.Assign [.Name x p] e pos :: rest) P PB own (oe.bind kk) := fun y hy => by
  obtain ⟨v, h1, h2⟩ := bind_get hy
  obtain ⟨a1, a2, a3, a4⟩ := locB_ok C hl
  exact (pss_cons (ps_set a1 a2 a3 (he v h1) hs a4) (hk v y h2)).imp fun D σ H ⟨F, I, ps, Rr, q⟩ => ⟨F, I, ps, Rr, fun pa xs H1 I1 g R1 n1 n2 n3 hH d => tS_after (H := H) (ps := ps) (σ := σ) g (R1.setOwn hi n1 n2 n3 hH d) q⟩
/-- return -/
theorem sv_ret {m : Bool} {oe : Option R} (he : ED X G e oe) : SV X G (.Return (some e) pos :: rest) P PB ⟨.dd, m⟩ (oe.bind fun r => some (.rt r)) := fun y hy => by
  obtain ⟨v, h1, h2⟩ := bind_get hy
  cases h2
  exact (pss_cons (ps_ret (he v h1)) pss_never).imp fun D σ H ⟨F, I, ps, Rr, q⟩ => ⟨F, I, ps, Rr, fun w H1 I1 g R1 d => q w H1 I1 g.b R1.sf R1.si d⟩
theorem sv_retO {m : Bool} {oe : Option (List α)} {P : S → List Sl} {PB : B → List Sl} (he : EO X G e oe) : SV X G (.Return (some e) pos :: rest) P PB ⟨.ow, m⟩ (oe.bind fun r => some (.rt r)) := fun y hy => by
  obtain ⟨v, h1, h2⟩ := bind_get hy
  cases h2
  exact (pss_cons (ps_ret (he v h1)) pss_never).imp fun D σ H ⟨F, I, ps, Rr, q⟩ => ⟨F, I, ps, Rr, fun pa xs H1 I1 g R1 n1 n2 n3 hH d => q (.ref pa) H1 I1 g.b R1.sf R1.si ⟨pa, xs, _, rfl, rfl, n1, n2, hH, d⟩⟩
/-- an own list is returned -/
theorem sv_retOwn {m : Bool} {l : List α} {P : S → List Sl} {PB : B → List Sl} (C : Ctx X N sc fs k) (hv : visB N sc i x = true) (hs : slAt G i = .own (l.map enc)) : SV X G (.Return (some (.Name x p)) pos :: rest) P PB ⟨.ow, m⟩ (some (.rt l)) := fun y hy => by
  cases hy
  unfold visB at hv
  simp only [Bool.and_eq_true, decide_eq_true_eq, Bool.not_eq_true'] at hv
  obtain ⟨⟨⟨h1, h2⟩, h3⟩, h4⟩ := hv
  have hvis : Vis X.env.scope x := by
    rw [C.s]; unfold Vis
    split at h2 <;> simp_all
  refine (pss_cons (ps_ret (pe_var (by rw [C.n]; exact h1) hvis h3 h4)) pss_never).imp fun D σ H ⟨F, I, ps, Rr, q⟩ => ?_
  have hi : i < G.length := by
    by_cases c : i < G.length
    · exact c
    · rw [slAt_out (by omega)] at hs; cases hs
  obtain ⟨w, k1, k2⟩ := Rr.sl i hi
  rw [hs] at k2
  obtain ⟨a, xs, e1, e2, n, hH, d⟩ := k2
  subst e2
  exact ⟨_, k1, q _ H I Grow.refl.b Rr.sf Rr.si ⟨a, xs, _, rfl, rfl, n, Rr.fo _ _ e1, hH, d⟩⟩
/-- if -/
theorem sv_if {c : Expr} {a b : List Stmt} {oc : Option Bool} {oa ob : Option (Out S' B R)} {kk : S' → Option (Out S B R)} (hc : EB X G c oc) (ha : SV X G a P' PB own oa) (hb : SV X G b P' PB own ob) (hk : ∀ s, SV X (P' s) rest P PB own (kk s)) :
    SV X G (.If c a b pos :: rest) P PB own (oc.bind fun t => bindOut (bif t then oa else ob) kk) := fun y hy => by
  obtain ⟨t, h1, h2⟩ := bind_get hy
  -- one branch runs, then the rest
  have key : ∀ {br : List Stmt} {ox : Option (Out S' B R)}, SV X G br P' PB own ox → bindOut ox kk = some y → ∃ tb u, PSs X br tb ∧ PSs X rest u ∧ ∀ (D : Ends) (σ : L2.St) (H : Hp), tS X.K G P PB own y D σ H → tb { D with nx := u D } σ H := by
    intro br ox hbr hox
    unfold bindOut at hox
    obtain ⟨z, hz, hox⟩ := bind_get hox
    cases z with
    | nx s =>
      refine ⟨_, _, hbr _ hz, hk s y hox, fun D σ H ⟨F, I, ps, Rr, q⟩ => ⟨F, I, ps, Rr, fun σ1 H1 I1 ps1 g R1 => tS_afterB (H := H) (ps := ps) (σ := σ) g R1 q⟩⟩
    | bk w => cases hox; exact ⟨_, _, hbr _ hz, pss_never, fun D σ H t => t⟩
    | ct w => cases hox; exact ⟨_, _, hbr _ hz, pss_never, fun D σ H t => t⟩
    | rt w => cases hox; exact ⟨_, _, hbr _ hz, pss_never, fun D σ H t => t⟩
  cases t with
  | true =>
    obtain ⟨tb, u, p1, p2, w⟩ := key ha h2
    refine (pss_cons (ps_if (hc _ h1) p1 pss_never) p2).imp fun D σ H ⟨F, I, ps, Rr, q⟩ => ⟨F, I, ps, Rr, fun H1 I1 g R1 => iteT ?_⟩
    exact w D σ H1 (tS_after (H := H) (ps := ps) (σ := σ) g R1 q)
  | false =>
    obtain ⟨tb, u, p1, p2, w⟩ := key hb h2
    refine (pss_cons (ps_if (hc _ h1) pss_never p1) p2).imp fun D σ H ⟨F, I, ps, Rr, q⟩ => ⟨F, I, ps, Rr, fun H1 I1 g R1 => iteF ?_⟩
    exact w D σ H1 (tS_after (H := H) (ps := ps) (σ := σ) g R1 q)
/-- an expression whose value is dropped -/
theorem sv_expr {oe : Option α} {kk : Option (Out S B R)} (he : ED X G e oe) (hk : SV X G rest P PB own kk) (hs : swapsWith e none pos.line X.env = pure false := by rfl) : SV X G (.Expr e pos :: rest) P PB own (oe.bind fun _ => kk) := fun y hy => by
  obtain ⟨v, h1, h2⟩ := bind_get hy
  exact (pss_cons (ps_expr (he v h1) hs) (hk y h2)).imp fun D σ H ⟨F, I, ps, Rr, q⟩ => ⟨F, I, ps, Rr, fun w H1 I1 g R1 d => tS_after (H := H) (ps := ps) (σ := σ) g R1 q⟩
end
end Lay

set_option Elab.async false
set_option linter.all false
set_option maxRecDepth 100000
/-! Lay5: targets, what is walked, loops, comprehensions. -/
namespace Lay
open PySem PySem.Spec PyProof.Rows L2
open Lay.Enc (enc)

/-! ### targets -/
/-- nothing is known of these places -/
def unAt (G : List Sl) (js : List Nat) : Bool := js.all fun j => match slAt G j with | .un => true | _ => false
theorem unAt_ps {K : PySem.W.Frag} {F H I : Hp} {G : List Sl} {σ : L2.St} {ps : Nat → Option Addr} (R : RS K F G σ H I ps) {js : List Nat} (h : unAt G js = true) : ∀ j ∈ js, ps j = none := fun j hj => by
  have h1 := List.all_eq_true.mp h j hj
  by_cases c : j < G.length
  · obtain ⟨v, _, q⟩ := R.sl j c
    cases e : slAt G j with
    | un => rw [e] at q; exact q
    | dat d => rw [e] at h1; cases h1
    | own ds => rw [e] at h1; cases h1
    | rd ds => rw [e] at h1; cases h1
    | old ds => rw [e] at h1; cases h1
    | nw ds => rw [e] at h1; cases h1
  · exact R.out j (by omega)
/-- the store of data enc x by the target g: slots become f x G; it touches the places js alone, of which nothing was known -/
structure Tgt (K : PySem.W.Frag) (g : L2.TG) (js : List Nat) {α : Type} [Enc α] (f : α → List Sl → List Sl) : Prop where
  go : ∀ (x : α) (G : List Sl) (F : Hp) (σ : L2.St) (H I : Hp) (ps : Nat → Option Addr) (v : V) (Q : L2.St → Hp → Prop), RS K F G σ H I ps → (∀ j ∈ js, ps j = none) → Dq I v (enc x) →
    (∀ σ', RS K F (f x G) σ' H I ps → (∀ vs, (∀ j ∈ js, j ∈ vs) → wipe σ' vs = wipe σ vs) → (∀ i, i ∉ js → slAt (f x G) i = slAt G i) → Q σ' H) → g v σ H Q
def fName {α : Type} [Enc α] (i : Nat) : α → List Sl → List Sl := fun x G => G.set i (.dat (enc x))
def fT2 {α β : Type} (f : α → List Sl → List Sl) (g : β → List Sl → List Sl) : T2 α β → List Sl → List Sl := fun t G => g t.b (f t.a G)
def fT3 {α β γ : Type} (f : α → List Sl → List Sl) (g : β → List Sl → List Sl) (h : γ → List Sl → List Sl) : T3 α β γ → List Sl → List Sl := fun t G => h t.c (g t.b (f t.a G))
def fT4 {α β γ δ : Type} (f : α → List Sl → List Sl) (g : β → List Sl → List Sl) (h : γ → List Sl → List Sl) (l : δ → List Sl → List Sl) : T4 α β γ δ → List Sl → List Sl := fun t G => l t.d (h t.c (g t.b (f t.a G)))
theorem wipe_set {σ : L2.St} {w : Option V} : ∀ {vs : List Nat} {i : Nat}, i ∈ vs → wipe (σ.set i w) vs = wipe σ vs
  | [], i, h => by simp at h
  | v :: vs, i, h => by
    show (wipe (σ.set i w) vs).set v none = (wipe σ vs).set v none
    by_cases hm : i ∈ vs
    · rw [wipe_set hm]
    · have e : v = i := by
        rcases List.mem_cons.mp h with h | h
        · exact h.symm
        · exact absurd h hm
      subst e
      have : ∀ (us : List Nat), v ∉ us → wipe (σ.set v w) us = (wipe σ us).set v w := by
        intro us
        induction us with
        | nil => intro _; rfl
        | cons u us ih =>
          intro hu
          show (wipe (σ.set v w) us).set u none = ((wipe σ us).set u none).set v w
          rw [ih (fun z => hu (List.mem_cons_of_mem _ z)), List.set_comm _ _ (fun z : v = u => hu (by rw [z]; exact List.mem_cons_self))]
      rw [this vs hm, List.set_set]
theorem psDel_none {ps : Nat → Option Addr} {i : Nat} (h : ps i = none) : psDel ps i = ps := by
  funext j; unfold psDel; split
  · rename_i e; rw [e]; exact h.symm
  · rfl
theorem tgt_name {K : PySem.W.Frag} {α : Type} [Enc α] {i : Nat} : Tgt K (gName i) [i] (fName (α := α) i) := ⟨fun x G F σ H I ps v Q R hp d q => by
  have R1 := R.setDat (i := i) d
  rw [psDel_none (hp i (by simp))] at R1
  exact q _ R1 (fun vs hv => wipe_set (hv i (by simp))) fun j hj => slAt_set_ne (fun e => hj (by simp [e]))⟩
theorem tgt_t2 {K : PySem.W.Frag} {α β : Type} [Enc α] [Enc β] {ga gb : L2.TG} {ja jb : List Nat} {f : α → List Sl → List Sl} {g : β → List Sl → List Sl} (h1 : Tgt K ga ja f) (h2 : Tgt K gb jb g) :
    Tgt K (gTup K 2 (gCons ga (gCons gb gNil))) (ja ++ jb) (fT2 f g) := ⟨fun x G F σ H I ps v Q R hp d q => by
  cases d with
  | tup k1 k2 =>
    cases k2 with
    | cons d1 k2 => cases k2 with
      | cons d2 k2 =>
        cases k2
        exact ⟨_, _, rfl, (.inl (rd_mono R.si k1)), rfl, _, _, rfl, h1.go x.a G F σ H I ps _ _ R (fun j hj => hp j (by simp [hj])) d1 fun σ1 R1 w1 o1 => ⟨_, _, rfl, h2.go x.b _ F σ1 H I ps _ _ R1 (fun j hj => hp j (by simp [hj])) d2 fun σ2 R2 w2 o2 => ⟨rfl, q σ2 R2
          (fun vs hv => (w2 vs fun j hj => hv j (by simp [hj])).trans (w1 vs fun j hj => hv j (by simp [hj]))) fun i hi => (o2 i fun z => hi (by simp [z])).trans (o1 i fun z => hi (by simp [z]))⟩⟩⟩⟩
theorem tgt_t3 {K : PySem.W.Frag} {α β γ : Type} [Enc α] [Enc β] [Enc γ] {ga gb gc : L2.TG} {ja jb jc : List Nat} {f : α → List Sl → List Sl} {g : β → List Sl → List Sl} {h : γ → List Sl → List Sl} (h1 : Tgt K ga ja f) (h2 : Tgt K gb jb g) (h3 : Tgt K gc jc h) :
    Tgt K (gTup K 3 (gCons ga (gCons gb (gCons gc gNil)))) (ja ++ (jb ++ jc)) (fT3 f g h) := ⟨fun x G F σ H I ps v Q R hp d q => by
  cases d with
  | tup k1 k2 =>
    cases k2 with
    | cons d1 k2 => cases k2 with
      | cons d2 k2 => cases k2 with
        | cons d3 k2 =>
          cases k2
          exact ⟨_, _, rfl, (.inl (rd_mono R.si k1)), rfl, _, _, rfl, h1.go x.a G F σ H I ps _ _ R (fun j hj => hp j (by simp [hj])) d1 fun σ1 R1 w1 o1 => ⟨_, _, rfl, h2.go x.b _ F σ1 H I ps _ _ R1 (fun j hj => hp j (by simp [hj])) d2 fun σ2 R2 w2 o2 =>
            ⟨_, _, rfl, h3.go x.c _ F σ2 H I ps _ _ R2 (fun j hj => hp j (by simp [hj])) d3 fun σ3 R3 w3 o3 => ⟨rfl, q σ3 R3
            (fun vs hv => (w3 vs fun j hj => hv j (by simp [hj])).trans ((w2 vs fun j hj => hv j (by simp [hj])).trans (w1 vs fun j hj => hv j (by simp [hj]))))
            fun i hi => (o3 i fun z => hi (by simp [z])).trans ((o2 i fun z => hi (by simp [z])).trans (o1 i fun z => hi (by simp [z])))⟩⟩⟩⟩⟩
theorem tgt_t4 {K : PySem.W.Frag} {α β γ δ : Type} [Enc α] [Enc β] [Enc γ] [Enc δ] {ga gb gc gd : L2.TG} {ja jb jc jd : List Nat} {f : α → List Sl → List Sl} {g : β → List Sl → List Sl} {h : γ → List Sl → List Sl} {l : δ → List Sl → List Sl} (h1 : Tgt K ga ja f) (h2 : Tgt K gb jb g) (h3 : Tgt K gc jc h) (h4 : Tgt K gd jd l) :
    Tgt K (gTup K 4 (gCons ga (gCons gb (gCons gc (gCons gd gNil))))) (ja ++ (jb ++ (jc ++ jd))) (fT4 f g h l) := ⟨fun x G F σ H I ps v Q R hp d q => by
  cases d with
  | tup k1 k2 =>
    cases k2 with
    | cons d1 k2 => cases k2 with
      | cons d2 k2 => cases k2 with
        | cons d3 k2 => cases k2 with
          | cons d4 k2 =>
            cases k2
            exact ⟨_, _, rfl, (.inl (rd_mono R.si k1)), rfl, _, _, rfl, h1.go x.a G F σ H I ps _ _ R (fun j hj => hp j (by simp [hj])) d1 fun σ1 R1 w1 o1 => ⟨_, _, rfl, h2.go x.b _ F σ1 H I ps _ _ R1 (fun j hj => hp j (by simp [hj])) d2 fun σ2 R2 w2 o2 =>
              ⟨_, _, rfl, h3.go x.c _ F σ2 H I ps _ _ R2 (fun j hj => hp j (by simp [hj])) d3 fun σ3 R3 w3 o3 => ⟨_, _, rfl, h4.go x.d _ F σ3 H I ps _ _ R3 (fun j hj => hp j (by simp [hj])) d4 fun σ4 R4 w4 o4 => ⟨rfl, q σ4 R4
              (fun vs hv => (w4 vs fun j hj => hv j (by simp [hj])).trans ((w3 vs fun j hj => hv j (by simp [hj])).trans ((w2 vs fun j hj => hv j (by simp [hj])).trans (w1 vs fun j hj => hv j (by simp [hj])))))
              fun i hi => (o4 i fun z => hi (by simp [z])).trans ((o3 i fun z => hi (by simp [z])).trans ((o2 i fun z => hi (by simp [z])).trans (o1 i fun z => hi (by simp [z]))))⟩⟩⟩⟩⟩⟩
section
variable {X : Cx} {N : List Str} {sc : Scope} {fs : Option Scope} {k i : Nat} {x : Str} {pos : Pos}
theorem pgN (C : Ctx X N sc fs k) (h : locB N sc fs i x = true) : PG X (.Name x pos) (gName i) :=
  let ⟨a1, a2, a3, a4⟩ := locB_ok C h
  pg_name a1 a2 a3 a4
end

/-! ### what is walked -/
/-- the iterator J gives the data ds, one by one, while I stands -/
structure Wlk (K : PySem.W.Frag) (J : It) (I : Hp) (ds : List PyData) : Prop where
  go : ∀ (i : Nat) (d : PyData) (H : Hp), Same I H → ds[i]? = some d → J.go i H ∧ ∀ x H', J.yld i H x H' → (H' = H ∧ Dq I x d) ∨ ∃ T o, H T = none ∧ H' = upd H T o ∧ Dq (upd I T o) x d
  st : ∀ (H : Hp), Same I H → J.stop ds.length H
def tI (K : PySem.W.Frag) (G : List Sl) (ds : List PyData) (σ : L2.St) (H : Hp) (R : It → Hp → Prop) : Prop :=
  ∃ F I ps, RS K F G σ H I ps ∧ ∀ J H' I', Grow F I I' → RS K F G σ H' I' ps → Wlk K J I' ds → ds.length ≤ sizeLine → R J H'
def IT (X : Cx) (G : List Sl) (tg iter : Expr) {α : Type} [Enc α] (o : Option (List α)) : Prop := ∀ l, o = some l → PI X tg iter (tI X.K G (l.map enc))
theorem _root_.L2.PI.imp {X : Cx} {tg e : Expr} {t t' : TI} (h : PI X tg e t) (w : ∀ σ H R, t' σ H R → t σ H R) : PI X tg e t' := ⟨fun pins s σ H R I q => h.run pins s σ H R I (w σ H R q)⟩
/-- lists and tuples that stand are no longer than the line -/
def LenOk (K : PySem.W.Frag) (H : Hp) : Prop := ∀ a xs, (SqL K H a xs → xs.length ≤ sizeLine) ∧ (SqT K H a xs → xs.length ≤ sizeLine)
theorem lenOk {X : Cx} {pins : List (Addr × Obj)} {σ : L2.St} {H : Hp} {s : Shared} (I : Inv X pins σ H s) : LenOk X.K H := fun a xs => ⟨fun h => let ⟨_, _, _, z⟩ := I.list h; z, fun h => let ⟨_, _, _, z⟩ := I.tuple h; z⟩
theorem pi_len {X : Cx} {tg e : Expr} {t : TI} (h : PI X tg e t) (mono : ∀ σ H R R', (∀ J H, R J H → R' J H) → t σ H R → t σ H R') : PI X tg e (fun σ H R => t σ H fun J H' => LenOk X.K H' → R J H') := ⟨fun pins s σ H R I q =>
  thn (h.run pins s σ H _ I q) fun v s1 h1 => thn h1 fun itv s2 ⟨it, fp, tn, J, H', e, I2, T, st, f, r⟩ => ⟨it, fp, tn, J, H', e, I2, T, st, f, r (lenOk I2)⟩⟩
section
variable {X : Cx} {G : List Sl} {α β : Type} [Enc α] [Enc β] {tg e e2 : Expr}
theorem wlk_list {K : PySem.W.Frag} {I : Hp} {a : Addr} {xs : List V} {ds : List PyData} (h1 : Rd I a (.lst xs)) (h2 : DqAll I xs ds) (inj : ∀ H, Same I H → ∀ ys, SqL K H a ys → ys.length ≤ sizeLine → True) : Wlk K (Itl K a) I ds := by
  refine ⟨fun i d H s hd => ?_, fun H s => ⟨xs, (.inl (rd_mono s h1)), by rw [h2.len]; exact Nat.le_refl _⟩⟩
  obtain ⟨v, hv, dv⟩ := h2.at hd
  refine ⟨⟨xs, v, (.inl (rd_mono s h1)), hv⟩, fun x H' y => ?_⟩
  obtain ⟨e, y⟩ := y
  subst e
  have e2 := y xs (.inl (rd_mono s h1))
  rw [hv] at e2; cases e2
  exact .inl ⟨rfl, dv⟩
theorem it_list {o : Option (List α)} (h : ED X G e o) : IT X G tg e o := fun l hl =>
  (pi_len (pi_list (h l hl)) fun σ H R R' w ⟨F, I, ps, r, q⟩ => ⟨F, I, ps, r, fun v H' I' g r' d => by obtain ⟨a, e, z, q⟩ := q v H' I' g r' d; exact ⟨a, e, z, w _ _ q⟩⟩).imp
  fun σ H R ⟨F, I, ps, r, q⟩ => ⟨F, I, ps, r, fun v H' I' g r' d => by
    cases d with
    | lst h1 h2 =>
      exact ⟨_, rfl, ⟨_, (.inl (rd_mono r'.si h1))⟩, fun lo => q _ _ I' g r' (wlk_list h1 h2 fun _ _ _ _ _ => trivial) (by rw [← h2.len]; exact (lo _ _).1 (.inl (rd_mono r'.si h1)))⟩⟩
theorem it_tup {o : Option (Tup α)} (h : ED X G e o) : IT X G tg e (lift1 Tup.l o) := fun l hl => by
  obtain ⟨t, h1, h2⟩ := lift1_get hl
  subst h2
  refine (pi_len (pi_tup (h t h1)) fun σ H R R' w ⟨F, I, ps, r, q⟩ => ⟨F, I, ps, r, fun v H' I' g r' d => by obtain ⟨a, e, z, q⟩ := q v H' I' g r' d; exact ⟨a, e, z, w _ _ q⟩⟩).imp
    fun σ H R ⟨F, I, ps, r, q⟩ => ⟨F, I, ps, r, fun v H' I' g r' d => ?_⟩
  cases d with
  | tup k1 k2 =>
    refine ⟨_, rfl, ⟨_, (.inl (rd_mono r'.si k1))⟩, fun lo => q _ _ I' g r' ⟨fun i d H s hd => ?_, fun H s => ⟨_, (.inl (rd_mono s k1)), by rw [k2.len]; exact Nat.le_refl _⟩⟩ (by rw [← k2.len]; exact (lo _ _).2 (.inl (rd_mono r'.si k1)))⟩
    obtain ⟨v, hv, dv⟩ := k2.at hd
    refine ⟨⟨_, v, (.inl (rd_mono s k1)), hv⟩, fun x H' y => ?_⟩
    obtain ⟨e, y⟩ := y
    subst e
    have e2 := y _ (.inl (rd_mono s k1))
    rw [hv] at e2; cases e2
    exact .inl ⟨rfl, dv⟩
/-- lo, lo + 1, .. (n of them) -/
def rngL (lo : Int) (n : Nat) : List Int := (List.range n).map fun i => lo + (i : Nat)
def rng1 (j : Int) : Option (List Int) := if j ≤ (sizeLine : Int) ∧ -(sizeLine : Int) ≤ j then some (rngL 0 j.toNat) else none
def rng2 (i j : Int) : Option (List Int) := if (j ≤ (sizeLine : Int) ∧ -(sizeLine : Int) ≤ j) ∧ (i ≤ (sizeLine : Int) ∧ 0 ≤ i) then some (rngL i (j - i).toNat) else none
theorem rngL_length (lo : Int) (n : Nat) : (rngL lo n).length = n := by simp [rngL]
theorem wlk_rng {K : PySem.W.Frag} {I : Hp} {lo : Int} {n : Nat} : Wlk K (Itr lo n) I ((rngL lo n).map enc) := by
  refine ⟨fun i d H s hd => ?_, fun H s => by rw [List.length_map, rngL_length]; exact Nat.le_refl _⟩
  have hi : i < n := by
    have := (List.getElem?_eq_some_iff.mp hd).1
    rw [List.length_map, rngL_length] at this; exact this
  refine ⟨hi, fun x H' y => ?_⟩
  obtain ⟨e, y⟩ := y
  subst e y
  have : d = .int (lo + (i : Nat)) := by
    unfold rngL at hd
    rw [List.map_map, List.getElem?_map, List.getElem?_range hi] at hd
    exact (Option.some.inj hd).symm
  subst this
  exact .inl ⟨rfl, .int _⟩
theorem sline62 : (sizeLine : Int) < 2 ^ 62 := by rw [sizeLine_eq]; decide
theorem it_rng1 {N : List Str} {sc : Scope} {fs : Option Scope} {k : Nat} {p pos : Pos} {o : Option Int} (C : Ctx X N sc fs k) (hg : glbB sc "range" = true) (hm : X.mg "range" = none) (h : ED X G e o) (hs : starEach [e] X.env = [(false, eval e X.env)] := by rfl) :
    IT X G tg (.Call (.Name "range" p) [e] [] pos) (o.bind rng1) := fun l hl => by
  obtain ⟨j, h1, h2⟩ := bind_get hl
  obtain ⟨hc, h2⟩ := ite_get h2
  subst h2
  refine (pi_range1 (glbB_gl C.s hg).1 hm (ad_cons h ad_nil hs _ (by rw [h1]; rfl)) hs).imp fun σ H R ⟨F, I, ps, r, q⟩ => ⟨F, I, ps, r, fun vs H' I' g r' d => ?_⟩
  cases d with
  | cons d1 d2 =>
    cases d2; cases d1
    have := sline62
    refine ⟨j, rfl, by omega, by omega, q _ _ I' g r' wlk_rng (by rw [List.length_map, rngL_length]; omega)⟩
theorem it_rng2 {N : List Str} {sc : Scope} {fs : Option Scope} {k : Nat} {p pos : Pos} {o o2 : Option Int} (C : Ctx X N sc fs k) (hg : glbB sc "range" = true) (hm : X.mg "range" = none) (h : ED X G e o) (h' : ED X G e2 o2) (hs : starEach [e, e2] X.env = [(false, eval e X.env), (false, eval e2 X.env)] := by rfl) (hs2 : starEach [e2] X.env = [(false, eval e2 X.env)] := by rfl) :
    IT X G tg (.Call (.Name "range" p) [e, e2] [] pos) (bind2 rng2 o o2) := fun l hl => by
  obtain ⟨i, j, h1, h2, h3⟩ := bind2_get hl
  obtain ⟨hc, h3⟩ := ite_get h3
  subst h3
  refine (pi_range2 (glbB_gl C.s hg).1 hm (ad_cons h (ad_cons h' ad_nil hs2) (by rw [hs, hs2]) _ (by rw [h1, h2]; rfl)) hs hs2).imp fun σ H R ⟨F, I, ps, r, q⟩ => ⟨F, I, ps, r, fun vs H' I' g r' d => ?_⟩
  cases d with
  | cons d1 d2 =>
    cases d2 with
    | cons d2 d3 =>
      cases d3; cases d1; cases d2
      have := sline62
      refine ⟨i, j, rfl, ⟨by omega, by omega, by omega, by omega⟩, q _ _ I' g r' wlk_rng (by rw [List.length_map, rngL_length]; omega)⟩
def enumL {α : Type} (l : List α) : List (T2 Int α) := (List.range l.length).zipWith (fun (i : Nat) x => T2.mk (i : Int) x) l
theorem enumL_get {α : Type} {l : List α} {i : Nat} {x : α} (h : l[i]? = some x) : (enumL l)[i]? = some ⟨(i : Nat), x⟩ := by
  unfold enumL
  have hi := (List.getElem?_eq_some_iff.mp h).1
  rw [List.getElem?_zipWith, List.getElem?_range hi, h]
theorem enumL_length {α : Type} (l : List α) : (enumL l).length = l.length := by unfold enumL; rw [List.length_zipWith, List.length_range]; omega
theorem it_enum {N : List Str} {sc : Scope} {fs : Option Scope} {k : Nat} {p pos tpos : Pos} {elts : List Expr} {kk : Nat} {o : Option (List α)} (C : Ctx X N sc fs k) (hg : glbB sc "enumerate" = true) (hm : X.mg "enumerate" = none) (h : ED X G e o) (hs : starEach [e] X.env = [(false, eval e X.env)] := by rfl) :
    IT X G (.Tuple elts kk tpos) (.Call (.Name "enumerate" p) [e] [] pos) (lift1 enumL o) := fun l hl => by
  obtain ⟨t, h1, h2⟩ := lift1_get hl
  subst h2
  have pa : PA X [e] (tA X.K G [enc t]) := ad_cons h ad_nil hs _ (by rw [h1]; rfl)
  refine (pi_len (pi_enum (glbB_gl C.s hg).1 hm pa hs) fun σ H R R' w ⟨F, I, ps, r, q⟩ => ⟨F, I, ps, r, fun v H' I' g r' d => by obtain ⟨a, xs, e, z, q⟩ := q v H' I' g r' d; exact ⟨a, xs, e, z, w _ _ q⟩⟩).imp
    fun σ H R ⟨F, I, ps, r, q⟩ => ⟨F, I, ps, r, fun vs H' I' g r' d => ?_⟩
  cases d with
  | cons d1 d2 =>
    cases d2
    cases d1 with
    | lst k1 k2 =>
      refine ⟨_, _, rfl, (.inl (rd_mono r'.si k1)), fun lo => q _ _ I' g r' ⟨fun i d H s hd => ?_, fun H s => ⟨_, (.inl (rd_mono s k1)), ?_⟩⟩ ?_⟩
      · have hi : i < t.length := by
          have := (List.getElem?_eq_some_iff.mp hd).1
          rw [List.length_map, enumL_length] at this; exact this
        have hx := List.getElem?_eq_getElem hi
        rw [List.getElem?_map, enumL_get hx] at hd
        have hd := Option.some.inj hd
        subst hd
        obtain ⟨v, hv, dv⟩ := k2.at (show (t.map enc)[i]? = some (enc t[i]) by rw [List.getElem?_map, hx]; rfl)
        refine ⟨⟨_, v, (.inl (rd_mono s k1)), hv⟩, fun x H' y => ?_⟩
        obtain ⟨T, z, e1, e2, e3, e4⟩ := y
        have e5 := e4 _ (.inl (rd_mono s k1))
        rw [hv] at e5; cases e5
        subst e1
        refine .inr ⟨T, _, e2, e3, .tup (.inl upd_same) (.cons (.int _) (.cons (Dq_mono (same_upd (s.free e2)) _ _ dv) .nil))⟩
      · rw [k2.len, List.length_map, List.length_map, enumL_length]; exact Nat.le_refl _
      · rw [List.length_map, enumL_length]; have := (lo _ _).1 (.inl (rd_mono r'.si k1)); rw [k2.len, List.length_map] at this; exact this
def zipL {α β : Type} (l : List α) (m : List β) : List (T2 α β) := l.zipWith T2.mk m
theorem it_zip {N : List Str} {sc : Scope} {fs : Option Scope} {k : Nat} {p pos tpos : Pos} {elts : List Expr} {kk : Nat} {o : Option (List α)} {o2 : Option (List β)} (C : Ctx X N sc fs k) (hg : glbB sc "zip" = true) (hm : X.mg "zip" = none) (h : ED X G e o) (h' : ED X G e2 o2)
    (hs : starEach [e, e2] X.env = (false, eval e X.env) :: starEach [e2] X.env := by rfl) (hs2 : starEach [e2] X.env = [(false, eval e2 X.env)] := by rfl) (hpl : (backTo pos (starEach [e2] X.env)).any (·.1) = false := by rfl) :
    IT X G (.Tuple elts kk tpos) (.Call (.Name "zip" p) [e, e2] [] pos) (lift2 zipL o o2) := fun l hl => by
  obtain ⟨t, u, h1, h2, h3⟩ := lift2_get hl
  subst h3
  have pa : PA X [e, e2] (tA X.K G [enc t, enc u]) := ad_cons h (ad_cons h' ad_nil hs2) hs _ (by rw [h1, h2]; rfl)
  refine (pi_len (pi_zip (glbB_gl C.s hg).1 hm pa hs hpl) fun σ H R R' w ⟨F, I, ps, r, q⟩ => ⟨F, I, ps, r, fun v H' I' g r' d => by obtain ⟨a, b, xs, ys, e, z1, z2, q⟩ := q v H' I' g r' d; exact ⟨a, b, xs, ys, e, z1, z2, w _ _ q⟩⟩).imp
    fun σ H R ⟨F, I, ps, r, q⟩ => ⟨F, I, ps, r, fun vs H' I' g r' d => ?_⟩
  cases d with
  | cons d1 d2 =>
    cases d2 with
    | cons d2 d3 =>
      cases d3
      cases d1 with
      | lst k1 k2 =>
        cases d2 with
        | lst k3 k4 =>
          have ln : (zipL t u).length = min t.length u.length := by unfold zipL; rw [List.length_zipWith]
          refine ⟨_, _, _, _, rfl, (.inl (rd_mono r'.si k1)), (.inl (rd_mono r'.si k3)), fun lo => q _ _ I' g r' ⟨fun i d H s hd => ?_, fun H s => ⟨_, _, (.inl (rd_mono s k1)), (.inl (rd_mono s k3)), ?_⟩⟩ ?_⟩
          · have hi : i < min t.length u.length := by
              have := (List.getElem?_eq_some_iff.mp hd).1
              rw [List.length_map, ln] at this; exact this
            have hx : t[i]? = some t[i] := List.getElem?_eq_getElem (by omega)
            have hy : u[i]? = some u[i] := List.getElem?_eq_getElem (by omega)
            unfold zipL at hd
            rw [List.getElem?_map, List.getElem?_zipWith, hx, hy] at hd
            have hd := Option.some.inj hd
            subst hd
            obtain ⟨v, hv, dv⟩ := k2.at (show (t.map enc)[i]? = some (enc t[i]) by rw [List.getElem?_map, hx]; rfl)
            obtain ⟨w, hw, dw⟩ := k4.at (show (u.map enc)[i]? = some (enc u[i]) by rw [List.getElem?_map, hy]; rfl)
            refine ⟨⟨_, _, v, w, (.inl (rd_mono s k1)), (.inl (rd_mono s k3)), hv, hw⟩, fun x H' y => ?_⟩
            obtain ⟨T, z, z', e1, e2, e3, e4, e5⟩ := y
            have e4 := e4 _ (.inl (rd_mono s k1))
            have e5 := e5 _ (.inl (rd_mono s k3))
            rw [hv] at e4; cases e4
            rw [hw] at e5; cases e5
            subst e1
            have m := same_upd (o := HO.tup [v, w]) (s.free e2)
            refine .inr ⟨T, _, e2, e3, .tup (.inl upd_same) (.cons (Dq_mono m _ _ dv) (.cons (Dq_mono m _ _ dw) .nil))⟩
          · rw [k2.len, k4.len, List.length_map, List.length_map, List.length_map, ln]; omega
          · rw [List.length_map, ln]; have := (lo _ _).1 (.inl (rd_mono r'.si k1)); rw [k2.len, List.length_map] at this; omega
end

/-! ### for -/
def forL {S B R α : Type} (step : S → α → Option (Out S S R)) : S → List α → Option (Out S B R)
  | s, [] => some (.nx s)
  | s, x :: xs => (step s x).bind fun o => match o with
    | .nx s' => forL step s' xs
    | .ct s' => forL step s' xs
    | .bk s' => some (.nx s')
    | .rt r => some (.rt r)
theorem forL_at {S B R α : Type} {step : S → α → Option (Out S S R)} {s : S} {l : List α} {i : Nat} {x : α} {z : Out S B R} (h : l[i]? = some x) (e : forL step s (l.drop i) = some z) :
    ∃ o, step s x = some o ∧ (match o with
    | .nx s' => forL step s' (l.drop (i + 1)) = some z
    | .ct s' => forL step s' (l.drop (i + 1)) = some z
    | .bk s' => z = .nx s'
    | .rt r => z = .rt r) := by
  obtain ⟨hi, hx⟩ := List.getElem?_eq_some_iff.mp h
  rw [List.drop_eq_getElem_cons hi, hx] at e
  unfold forL at e
  obtain ⟨o, h1, h2⟩ := bind_get e
  refine ⟨o, h1, ?_⟩
  cases o with
  | nx s => exact h2
  | ct s => exact h2
  | bk s => exact (Option.some.inj h2).symm
  | rt r => exact (Option.some.inj h2).symm
theorem forL_end {S B R α : Type} {step : S → α → Option (Out S S R)} {s : S} {l : List α} {i : Nat} {z : Out S B R} (h : l.length ≤ i) (e : forL step s (l.drop i) = some z) : z = .nx s := by
  rw [List.drop_eq_nil_of_le h] at e
  exact (Option.some.inj e).symm
section
variable {X : Cx} {G : List Sl} {S S1 B R : Type} [Enc R] {P : S → List Sl} {P1 : S1 → List Sl} {PB : B → List Sl} {own : Rk} {rest body : List Stmt} {α : Type} [Enc α] {N : List Str} {sc : Scope} {fs : Option Scope} {k : Nat} {tg iter : Expr} {g : L2.TG} {js : List Nat} {f : α → List Sl → List Sl} {pos : Pos}
theorem sv_for {step : S1 → α → Option (Out S1 S1 R)} {s0 : S1} {ol : Option (List α)} {kk : S1 → Option (Out S B R)} (C : Ctx X N sc fs k) (hi : IT X G tg iter ol) (hg : PG X tg g) (ht : Tgt X.K g js f) (hu : ∀ s, unAt (P1 s) js = true) (hw : WkR G (P1 s0))
    (hb : ∀ s x, SV X (f x (P1 s)) body P1 P1 own.s (step s x)) (hk : ∀ s, SV X (P1 s) rest P PB own (kk s)) (hs : ∀ x, foldedSetIterable iter X.env x = pure x := by intro _; rfl) :
    SV X G (.For tg iter body [] pos :: rest) P PB own (ol.bind fun l => bindOut (forL step s0 l) kk) := fun y hy => by
  obtain ⟨l, h1, h2⟩ := bind_get hy
  unfold bindOut at h2
  obtain ⟨z, hz, h2⟩ := bind_get h2
  have pb : PSs X body (fun D σ H => ∃ s x o, step s x = some o ∧ tS X.K (f x (P1 s)) P1 P1 own.s o D σ H) := ⟨fun pins st σ H D I ⟨s, x, o, e, t⟩ => (hb s x o e).run pins st σ H D I t⟩
  have pf := ps_for (pos := pos) C.px C.calm (hi l h1) hg pb hs
  -- the loop, for any end wished
  have key : ∀ (D : Ends) (σ : L2.St) (H F I : Hp) (ps : Nat → Option Addr), RS X.K F G σ H I ps →
      (match z with
        | .nx s => ∀ σ' H' I' ps', Grow F I I' → RS X.K F (P1 s) σ' H' I' ps' → D.nx σ' H'
        | .rt r => ∀ v H' I', Grow F I I' → Same F H' → Same I' H' → RetR X.K own.k F I' H' v (enc r) → D.rt v H'
        | _ => True) → tFor (tI X.K G (l.map enc)) g (fun D σ H => ∃ s x o, step s x = some o ∧ tS X.K (f x (P1 s)) P1 P1 own.s o D σ H) D σ H := by
    intro D σ H F I ps r q
    refine ⟨F, I, ps, r, fun J H1 I1 g1 r1 wl lenl => ?_⟩
    obtain ⟨I2, ps2, g2, r2⟩ := hw _ _ _ _ _ _ r1
    have gI : Grow F I I2 := g1.trans g2
    refine ⟨fun i m σ H => m = l.length - i ∧ i ≤ l.length ∧ ∃ s I' ps', forL step s (l.drop i) = some z ∧ Grow F I2 I' ∧ RS X.K F (P1 s) σ H I' ps', ⟨_, rfl, Nat.zero_le _, s0, I2, ps2, hz, Grow.refl, r2⟩, ?_⟩
    rintro i m σ3 H3 ⟨rfl, hi, s, I3, ps3, ez, g3, r3⟩
    have sI : Same I1 H3 := (g2.same.trans g3.same).trans r3.si
    by_cases hlt : i < l.length
    · have hx : l[i]? = some l[i] := List.getElem?_eq_getElem hlt
      obtain ⟨o, ho, hm⟩ := forL_at hx ez
      obtain ⟨go, yl⟩ := wl.go i (enc l[i]) H3 sI (by rw [List.getElem?_map, hx]; rfl)
      refine .inr ⟨go, fun σ' H' => ∃ s I' ps', forL step s (l.drop (i + 1)) = some z ∧ Grow F I2 I' ∧ RS X.K F (P1 s) σ' H' I' ps', fun σ' H' hN => ⟨l.length - (i + 1), by omega, rfl, hlt, hN⟩, fun x H4 y4 => ?_⟩
      -- the item's data in a persistent part
      have item : ∃ I4, Grow F I3 I4 ∧ RS X.K F (P1 s) σ3 H4 I4 ps3 ∧ Dq I4 x (enc l[i]) := by
        rcases yl x H4 y4 with ⟨e, d⟩ | ⟨T, o, n, e, d⟩
        · subst e; exact ⟨I3, Grow.refl, r3, Dq_mono (g2.same.trans g3.same) _ _ d⟩
        · subst e
          refine ⟨upd I3 T o, r3.grow_new n, r3.new n, Dq_mono (fun b u q => ?_) _ _ d⟩
          by_cases c : b = T
          · subst c; rw [upd_same] at q ⊢; exact q
          · rw [upd_ne c] at q ⊢; exact (g2.same.trans g3.same) _ _ q
      obtain ⟨I4, g4, r4, d4⟩ := item
      refine ht.go l[i] (P1 s) F σ3 H4 I4 ps3 x _ r4 (unAt_ps r4 (hu s)) d4 fun σ5 r5 _ _ => ?_
      refine ⟨s, l[i], o, ho, F, I4, ps3, r5, ?_⟩
      cases o with
      | nx s' => exact fun σ' H' I' ps' g' r' => ⟨s', I', ps', hm, g3.trans (g4.trans g'), r'⟩
      | ct s' => exact fun σ' H' I' ps' g' r' => ⟨s', I', ps', hm, g3.trans (g4.trans g'), r'⟩
      | bk s' =>
        have hm : z = .nx s' := hm
        subst hm
        exact fun σ' H' I' ps' g' r' => q σ' H' I' ps' (gI.trans (g3.trans (g4.trans g'))) r'
      | rt w =>
        have hm : z = .rt w := hm
        subst hm
        exact fun v H' I' g' s1 s2 rr => q v H' I' (gI.trans (g3.trans (g4.trans g'))) s1 s2 rr
    · have e := forL_end (by omega) ez
      subst e
      have wst := wl.st H3 sI
      rw [List.length_map, show l.length = i by omega] at wst
      exact .inl ⟨wst, q σ3 H3 I3 ps3 (gI.trans g3) r3⟩
  cases z with
  | nx s => exact (pss_cons pf (hk s y h2)).imp fun D σ H ⟨F, I, ps, r, q⟩ => key _ σ H F I ps r fun σ1 H1 I1 ps1 g1 r1 => tS_after (H := H) (ps := ps) (σ := σ) g1 r1 q
  | rt w => cases h2; exact (pss_cons pf pss_never).imp fun D σ H ⟨F, I, ps, r, q⟩ => key _ σ H F I ps r fun v H' I' g s1 s2 rr => q v H' I' g.b s1 s2 rr
  | bk b => cases h2; exact (pss_cons pf pss_never).imp fun D σ H ⟨F, I, ps, r, q⟩ => False.elim (by
      have : ∀ (s : S1) (l : List α) (b : B), forL step s l ≠ some (Out.bk b) := by
        intro s l b
        induction l generalizing s with
        | nil => intro h; cases h
        | cons x xs ih =>
          intro h
          unfold forL at h
          obtain ⟨o, _, h⟩ := bind_get h
          cases o with
          | nx s => exact ih s h
          | ct s => exact ih s h
          | bk s => cases h
          | rt r => cases h
      exact this s0 l b hz)
  | ct b => cases h2; exact (pss_cons pf pss_never).imp fun D σ H ⟨F, I, ps, r, q⟩ => False.elim (by
      have : ∀ (s : S1) (l : List α) (b : B), forL step s l ≠ some (Out.ct b) := by
        intro s l b
        induction l generalizing s with
        | nil => intro h; cases h
        | cons x xs ih =>
          intro h
          unfold forL at h
          obtain ⟨o, _, h⟩ := bind_get h
          cases o with
          | nx s => exact ih s h
          | ct s => exact ih s h
          | bk s => cases h
          | rt r => cases h
      exact this s0 l b hz)

/-! ### while -/
def whileF {S B R : Type} (c : S → Option Bool) (b : S → Option (Out S S R)) : Nat → S → Option (Out S B R)
  | 0, _ => none
  | n + 1, s => (c s).bind fun t => bif t then (b s).bind (fun o => match o with
      | .nx s' => whileF c b n s'
      | .ct s' => whileF c b n s'
      | .bk s' => some (.nx s')
      | .rt r => some (.rt r)) else some (.nx s)
theorem sv_while {c : Expr} {oc : S1 → Option Bool} {ob : S1 → Option (Out S1 S1 R)} {n : Nat} {s0 : S1} {kk : S1 → Option (Out S B R)} (C : Ctx X N sc fs k) (hw : WkR G (P1 s0)) (hc : ∀ s, EB X (P1 s) c (oc s)) (hb : ∀ s, SV X (P1 s) body P1 P1 own.s (ob s)) (hk : ∀ s, SV X (P1 s) rest P PB own (kk s)) :
    SV X G (.While c body [] pos :: rest) P PB own (bindOut (whileF oc ob n s0) kk) := fun y hy => by
  unfold bindOut at hy
  obtain ⟨z, hz, h2⟩ := bind_get hy
  have pc : PT X c (fun σ H Q => ∃ s t, oc s = some t ∧ tB X.K (P1 s) t σ H Q) := ⟨fun pins st σ H Q I ⟨s, t, e, q⟩ => (hc s t e).run pins st σ H Q I q⟩
  have pb : PSs X body (fun D σ H => ∃ s o, ob s = some o ∧ tS X.K (P1 s) P1 P1 own.s o D σ H) := ⟨fun pins st σ H D I ⟨s, o, e, t⟩ => (hb s o e).run pins st σ H D I t⟩
  have pf := ps_while (pos := pos) C.px pc pb
  have key : ∀ (D : Ends) (σ : L2.St) (H F I : Hp) (ps : Nat → Option Addr), RS X.K F G σ H I ps →
      (match z with
        | .nx s => ∀ σ' H' I' ps', Grow F I I' → RS X.K F (P1 s) σ' H' I' ps' → D.nx σ' H'
        | .rt r => ∀ v H' I', Grow F I I' → Same F H' → Same I' H' → RetR X.K own.k F I' H' v (enc r) → D.rt v H'
        | _ => True) → tWhile (fun σ H Q => ∃ s t, oc s = some t ∧ tB X.K (P1 s) t σ H Q) (fun D σ H => ∃ s o, ob s = some o ∧ tS X.K (P1 s) P1 P1 own.s o D σ H) D σ H := by
    intro D σ H F I ps r q
    obtain ⟨I2, ps2, g2, r2⟩ := hw _ _ _ _ _ _ r
    refine ⟨fun m σ H => ∃ s I' ps', whileF oc ob m s = some z ∧ Grow F I I' ∧ RS X.K F (P1 s) σ H I' ps', ⟨n, s0, I2, ps2, hz, g2, r2⟩, ?_⟩
    rintro m σ3 H3 ⟨s, I3, ps3, ez, g3, r3⟩
    cases m with
    | zero => cases ez
    | succ m =>
      unfold whileF at ez
      obtain ⟨t, ht, ez⟩ := bind_get ez
      refine ⟨s, t, ht, F, I3, ps3, r3, fun H4 I4 g4 r4 => ?_⟩
      cases t with
      | false =>
        rw [cond_false] at ez
        have ez := Option.some.inj ez
        subst ez
        exact iteF (q σ3 H4 I4 ps3 (g3.trans g4) r4)
      | true =>
        rw [cond_true] at ez
        obtain ⟨o, ho, ez⟩ := bind_get ez
        refine iteT ⟨fun σ' H' => ∃ s I' ps', whileF oc ob m s = some z ∧ Grow F I I' ∧ RS X.K F (P1 s) σ' H' I' ps', fun σ' H' hN => ⟨m, Nat.lt_succ_self _, hN⟩, s, o, ho, F, I4, ps3, r4, ?_⟩
        cases o with
        | nx s' => exact fun σ' H' I' ps' g' r' => ⟨s', I', ps', ez, g3.trans (g4.trans g'), r'⟩
        | ct s' => exact fun σ' H' I' ps' g' r' => ⟨s', I', ps', ez, g3.trans (g4.trans g'), r'⟩
        | bk s' =>
          have ez := Option.some.inj ez
          subst ez
          exact fun σ' H' I' ps' g' r' => q σ' H' I' ps' (g3.trans (g4.trans g')) r'
        | rt w =>
          have ez := Option.some.inj ez
          subst ez
          exact fun v H' I' g' s1 s2 rr => q v H' I' (g3.trans (g4.trans g')) s1 s2 rr
  have no : ∀ (n : Nat) (s : S1) (b : B), whileF oc ob n s ≠ some (Out.bk b) ∧ whileF oc ob n s ≠ some (Out.ct b) := by
    intro n
    induction n with
    | zero => intro s b; exact ⟨(fun h => by cases h), (fun h => by cases h)⟩
    | succ n ih =>
      intro s b
      constructor <;> (
        intro h
        unfold whileF at h
        obtain ⟨t, _, h⟩ := bind_get h
        cases t with
        | false => cases h
        | true =>
          rw [cond_true] at h
          obtain ⟨o, _, h⟩ := bind_get h
          cases o with
          | nx s => first | exact (ih s b).1 h | exact (ih s b).2 h
          | ct s => first | exact (ih s b).1 h | exact (ih s b).2 h
          | bk s => cases h
          | rt r => cases h)
  cases z with
  | nx s => exact (pss_cons pf (hk s y h2)).imp fun D σ H ⟨F, I, ps, r, q⟩ => key _ σ H F I ps r fun σ1 H1 I1 ps1 g1 r1 => tS_after (H := H) (ps := ps) (σ := σ) g1 r1 q
  | rt w => cases h2; exact (pss_cons pf pss_never).imp fun D σ H ⟨F, I, ps, r, q⟩ => key _ σ H F I ps r fun v H' I' g s1 s2 rr => q v H' I' g.b s1 s2 rr
  | bk b => exact absurd hz (no n s0 b).1
  | ct b => exact absurd hz (no n s0 b).2
end
end Lay

set_option Elab.async false
set_option linter.all false
set_option maxRecDepth 100000
/-! Lay6: list comprehensions, unpacking, stores to lists. -/
namespace Lay
open PySem PySem.Spec PyProof.Rows L2
open Lay.Enc (enc)

/-! ### comprehensions -/
def wipeG (G : List Sl) : List Nat → List Sl
  | [] => G
  | v :: vs => (wipeG G vs).set v .un
def ownFree (G : List Sl) (vs : List Nat) : Bool := vs.all fun j => match slAt G j with | .own _ => false | _ => true
theorem ownFree_ps {K : PySem.W.Frag} {F H I : Hp} {G : List Sl} {σ : L2.St} {ps : Nat → Option Addr} (R : RS K F G σ H I ps) {js : List Nat} (h : ownFree G js = true) : ∀ j ∈ js, ps j = none := fun j hj => by
  have h1 := List.all_eq_true.mp h j hj
  by_cases c : j < G.length
  · obtain ⟨v, _, q⟩ := R.sl j c
    cases e : slAt G j with
    | un => rw [e] at q; exact q
    | dat d => rw [e] at q; exact q.1
    | rd d => rw [e] at q; exact q.1
    | old d => rw [e] at q; exact q.1
    | nw d => rw [e] at q; exact q.1
    | own ds => rw [e] at h1; cases h1
  · exact R.out j (by omega)
theorem RS.wiped {K : PySem.W.Frag} {F H I : Hp} {G : List Sl} {σ : L2.St} {ps : Nat → Option Addr} (R : RS K F G σ H I ps) : ∀ (vs : List Nat), (∀ j ∈ vs, ps j = none) → RS K F (wipeG G vs) (wipe σ vs) H I ps
  | [], _ => R
  | v :: vs, h => by
    have R' := (RS.wiped R vs fun j hj => h j (List.mem_cons_of_mem _ hj)).setUn (i := v) (v := none)
    rw [psDel_none (h v List.mem_cons_self)] at R'
    exact R'
theorem wipeG_out {G : List Sl} {i : Nat} : ∀ {vs : List Nat}, i ∉ vs → slAt (wipeG G vs) i = slAt G i
  | [], _ => rfl
  | v :: vs, h => by
    show slAt ((wipeG G vs).set v .un) i = _
    rw [slAt_set_ne (fun e => h (by simp [e])), wipeG_out (fun z => h (List.mem_cons_of_mem _ z))]
theorem wipe_none : ∀ {vs : List Nat} {σ : L2.St} {i : Nat}, i ∈ vs → i < σ.length → (wipe σ vs)[i]? = some none
  | [], _, _, h, _ => by simp at h
  | v :: vs, σ, i, h, hl => by
    show ((wipe σ vs).set v none)[i]? = _
    by_cases e : v = i
    · subst e; rw [List.getElem?_set_self (by rw [wipe_length]; exact hl)]
    · rw [List.getElem?_set_ne e]
      exact wipe_none ((List.mem_cons.mp h).resolve_left fun z => e z.symm) hl
theorem wipe_other : ∀ {vs : List Nat} {σ : L2.St} {i : Nat}, i ∉ vs → (wipe σ vs)[i]? = σ[i]?
  | [], _, _, _ => rfl
  | v :: vs, σ, i, h => by
    show ((wipe σ vs).set v none)[i]? = _
    rw [List.getElem?_set_ne (fun e => h (by simp [e]))]
    exact wipe_other fun z => h (List.mem_cons_of_mem _ z)
theorem wipe_wipe {σ : L2.St} {vs : List Nat} : wipe (wipe σ vs) vs = wipe σ vs := by
  refine List.ext_getElem? fun i => ?_
  by_cases h : i ∈ vs
  · by_cases hl : i < σ.length
    · rw [wipe_none h (by rw [wipe_length]; exact hl), wipe_none h hl]
    · rw [List.getElem?_eq_none (by rw [wipe_length, wipe_length]; omega), List.getElem?_eq_none (by rw [wipe_length]; omega)]
  · rw [wipe_other h]
/-- behind what ran in another frame's words -/
theorem RS.back {K : PySem.W.Frag} {F F' H H' I I' : Hp} {G G' : List Sl} {σ σ' : L2.St} {ps : Nat → Option Addr} (R : RS K F G σ H I ps) (R' : RS K F' G' σ' H' I' ps) (sF : Same F F') (g : Same I I') (hG : ∀ i ds, slAt G i = .own ds → slAt G' i = .own ds ∧ i < G'.length) : RS K F G σ H' I' ps where
  si := R'.si
  sf := sF.trans R'.sf
  fo := R.fo
  len := R.len
  sl := fun i hi => by
    obtain ⟨v, h1, h2⟩ := R.sl i hi
    refine ⟨v, h1, ?_⟩
    cases e : slAt G i with
    | un => rw [e] at h2; exact h2
    | dat d => rw [e] at h2; obtain ⟨e1, x, e2, d⟩ := h2; exact ⟨e1, x, e2, Dq_mono g _ _ d⟩
    | rd ds => rw [e] at h2; obtain ⟨e1, a, xs, e2, q, d⟩ := h2; exact ⟨e1, a, xs, e2, Same.seq g q, DqAll_mono g _ _ d⟩
    | old d => rw [e] at h2; obtain ⟨e1, x, e2, d⟩ := h2; exact ⟨e1, x, e2, Dq_mono (rgO_mono g) _ _ d⟩
    | nw d => rw [e] at h2; obtain ⟨e1, x, e2, d⟩ := h2; exact ⟨e1, x, e2, Dq_mono (rgN_mono g) _ _ d⟩
    | own ds =>
      rw [e] at h2
      obtain ⟨a, xs, e1, e2, _⟩ := h2
      obtain ⟨e', hi'⟩ := hG i ds e
      obtain ⟨v', _, h3⟩ := R'.sl i hi'
      rw [e'] at h3
      obtain ⟨a', xs', e1', _, n', hH', d'⟩ := h3
      rw [e1] at e1'; cases e1'
      exact ⟨a, xs', e1, e2, n', hH', d'⟩
  out := R.out
  dis := R.dis
def lcL {α β : Type} (c : α → Option Bool) (e : α → Option β) : List α → Option (List β)
  | [] => some []
  | x :: xs => (c x).bind fun t => bif t then (e x).bind fun y => (lcL c e xs).bind fun r => some (y :: r) else lcL c e xs
theorem lcL_at {α β : Type} {c : α → Option Bool} {e : α → Option β} {l : List α} {i : Nat} {x : α} {r : List β} (h : l[i]? = some x) (h2 : lcL c e (l.drop i) = some r) :
    ∃ t, c x = some t ∧ ((t = true ∧ ∃ y r', e x = some y ∧ r = y :: r' ∧ lcL c e (l.drop (i + 1)) = some r') ∨ (t = false ∧ lcL c e (l.drop (i + 1)) = some r)) := by
  obtain ⟨hi, hx⟩ := List.getElem?_eq_some_iff.mp h
  rw [List.drop_eq_getElem_cons hi, hx] at h2
  unfold lcL at h2
  obtain ⟨t, h3, h4⟩ := bind_get h2
  refine ⟨t, h3, ?_⟩
  cases t with
  | true =>
    rw [cond_true] at h4
    obtain ⟨y, h5, h6⟩ := bind_get h4
    obtain ⟨r', h7, h8⟩ := bind_get h6
    exact .inl ⟨rfl, y, r', h5, (Option.some.inj h8).symm, h7⟩
  | false => exact .inr ⟨rfl, h4⟩
theorem lcL_len {α β : Type} {c : α → Option Bool} {e : α → Option β} : ∀ {l : List α} {r : List β}, lcL c e l = some r → r.length ≤ l.length
  | [], r, h => by cases h; simp
  | x :: xs, r, h => by
    unfold lcL at h
    obtain ⟨t, _, h⟩ := bind_get h
    cases t with
    | true =>
      rw [cond_true] at h
      obtain ⟨y, _, h⟩ := bind_get h
      obtain ⟨r', h1, h⟩ := bind_get h
      cases h
      have := lcL_len h1
      simpa using this
    | false => have := lcL_len (l := xs) h; simp; omega
/-- a block's tests -/
def ETs (X : Cx) (G : List Sl) (ifs : List Expr) (o : Option Bool) : Prop := ∀ b, o = some b → PTs X ifs (tB X.K G b)
theorem ets_nil {X : Cx} {G : List Sl} : ETs X G [] (some true) := fun b h => by
  cases h
  exact ⟨fun pins s σ H Q I ⟨F, I', ps, r, q⟩ => pts_nil.run pins s σ H Q I (q _ _ Grow.refl r)⟩
theorem ets_one {X : Cx} {G : List Sl} {c : Expr} {o : Option Bool} (h : EB X G c o) : ETs X G [c] o := fun b hb => pts_one (h b hb)
/-- a comprehension as a value, and as what is stored on its line -/
def LC (X : Cx) (G : List Sl) (e : Expr) {α : Type} [Enc α] (o : Option (List α)) : Prop := ∀ l, o = some l → ∃ t : TE, PE X e t ∧
  (∀ (i : Nat) (y : Str) (py sp : Pos), X.N[i]? = some y → X.env.scope.names.lookup y = some .local → swapsWith e (some (.Name y py)) sp.line X.env = pure true → PS X (.Assign [.Name y py] e sp) (tAsg t (gName i))) ∧
  ∀ σ H Q, tO X.K G (l.map enc) σ H Q → t σ H Q
section
variable {X : Cx} {G : List Sl} {N : List Str} {sc : Scope} {fs : Option Scope} {k : Nat} {α β : Type} [Enc α] [Enc β] {elt tg iter : Expr} {ifs : List Expr} {scope : Scope} {pos : Pos} {g : L2.TG} {js : List Nat} {f : α → List Sl → List Sl}
theorem lc_mk {own : List (Str × Nat)} {ol : Option (List α)} {oc : α → Option Bool} {oe : α → Option β} (C : Ctx X N sc fs k) (hi : IT X G tg iter ol) (ok : blkC N sc scope own = true)
    (hg : ∀ s H Ca cl fp, PG (X.blk s H scope (compEnvC scope cl Ca X.env) fp) tg g) (ht : Tgt X.K g js f) (hj : ∀ j ∈ js, j ∈ own.map (·.2)) (hf : ownFree G (own.map (·.2)) = true)
    (hc : ∀ s H Ca cl fp x, ETs (X.blk s H scope (compEnvC scope cl Ca X.env) fp) (f x (wipeG G (own.map (·.2)))) ifs (oc x))
    (he : ∀ s H Ca cl fp x, ED (X.blk s H scope (compEnvC scope cl Ca X.env) fp) (f x (wipeG G (own.map (·.2)))) elt (oe x)) (hs : ∀ x, foldedSetIterable iter X.env x = pure x := by intro _; rfl) :
    LC X G (.ListComp elt [⟨tg, iter, ifs, 0⟩] scope pos) (ol.bind (lcL oc oe)) := fun r hr => by
  obtain ⟨l, h1, h2⟩ := bind_get hr
  obtain ⟨vs, hvs⟩ : ∃ vs, own.map (·.2) = vs := ⟨_, rfl⟩
  rw [hvs] at hj hf
  simp only [hvs] at hc he
  let te : TE := fun σ H Q => ∃ x y, oe x = some y ∧ tD X.K (f x (wipeG G vs)) (enc y) σ H Q
  let tt : TT := fun σ H Q => ∃ x b, oc x = some b ∧ tB X.K (f x (wipeG G vs)) b σ H Q
  have pe : ∀ s H Ca cl fp, PE (X.blk s H scope (compEnvC scope cl Ca X.env) fp) elt te := fun s H Ca cl fp => ⟨fun pins st σ H' Q I ⟨x, y, e, q⟩ => (he s H Ca cl fp x y e).run pins st σ H' Q I q⟩
  have pt : ∀ s H Ca cl fp, PTs (X.blk s H scope (compEnvC scope cl Ca X.env) fp) ifs tt := fun s H Ca cl fp => ⟨fun pins st σ H' Q I ⟨x, b, e, q⟩ => (hc s H Ca cl fp x b e).run pins st σ H' Q I q⟩
  have nd : X.N.Nodup := by rw [C.n]; exact C.nd
  have bk : BlkOk X.N X.env.scope scope own := by rw [C.n, C.s]; exact blkOk_by ok
  refine ⟨_, pe_lc C.calm nd (hi l h1) bk hg pt pe hs, fun i y py sp a b c => ps_setLc C.calm nd a b c (hi l h1) bk hg pt pe hs, fun σ H Q ⟨F, I, ps, R, q⟩ => ?_⟩
  rw [hvs]
  refine ⟨F, I, ps, R, fun J H1 I1 gr1 R1 wl ll D hD => ?_⟩
  have ll : l.length ≤ sizeLine := by rw [List.length_map] at ll; exact ll
  have hD1 : I1 D = none := R1.si.free hD
  have hDF : F D = none := R1.sf.free hD
  have hDp : ∀ i, ps i ≠ some D := fun i c => by obtain ⟨_, _, xs, z⟩ := R1.own_at c; rw [hD] at z; cases z
  -- the state between turns: the list made so far at D, the rest to be made
  refine ⟨fun i m H => m = l.length - i ∧ i ≤ l.length ∧ ∃ I' xs done rst, Grow F I1 I' ∧ RS X.K F G σ H I' ps ∧ I' D = none ∧ H D = some (.lst xs) ∧ DqAll I' xs (done.map enc) ∧ done.length ≤ i ∧ lcL oc oe (l.drop i) = some rst ∧ r = done ++ rst,
    ⟨_, rfl, Nat.zero_le _, I1, [], [], r, Grow.refl, R1.newOwn hD, hD1, upd_same, .nil, Nat.le_refl _, h2, rfl⟩, ?_⟩
  rintro i m H3 ⟨rfl, hil, I3, xs, done, rst, gr3, R3, n3, hD3, d3, hlen, hr3, er⟩
  have sI : Same I1 H3 := gr3.same.trans R3.si
  by_cases hlt : i < l.length
  · have hx : l[i]? = some l[i] := List.getElem?_eq_getElem hlt
    obtain ⟨t, ht1, ht2⟩ := lcL_at hx hr3
    obtain ⟨go, yl⟩ := wl.go i (enc l[i]) H3 sI (by rw [List.getElem?_map, hx]; rfl)
    refine .inr ⟨go, fun H' => ∃ I' xs done rst, Grow F I1 I' ∧ RS X.K F G σ H' I' ps ∧ I' D = none ∧ H' D = some (.lst xs) ∧ DqAll I' xs (done.map enc) ∧ done.length ≤ i + 1 ∧ lcL oc oe (l.drop (i + 1)) = some rst ∧ r = done ++ rst,
      fun H' hN => ⟨l.length - (i + 1), by omega, rfl, hlt, hN⟩, fun x H4 y4 => ?_⟩
    have item : ∃ I4, Grow F I3 I4 ∧ RS X.K F G σ H4 I4 ps ∧ Dq I4 x (enc l[i]) ∧ I4 D = none ∧ H4 D = some (.lst xs) := by
      rcases yl x H4 y4 with ⟨e, d⟩ | ⟨T, o, n, e, d⟩
      · subst e; exact ⟨I3, Grow.refl, R3, Dq_mono gr3.same _ _ d, n3, hD3⟩
      · subst e
        have nT : D ≠ T := ne_of_none hD3 n
        refine ⟨upd I3 T o, R3.grow_new n, R3.new n, Dq_mono (fun b u q => ?_) _ _ d, by rw [upd_ne nT]; exact n3, by rw [upd_ne nT]; exact hD3⟩
        by_cases c : b = T
        · subst c; rw [upd_same] at q ⊢; exact q
        · rw [upd_ne c] at q ⊢; exact gr3.same _ _ q
    obtain ⟨I4, g4, R4, d4, n4, hD4⟩ := item
    -- within the turn the new list stands for others
    have inner : ∀ {H' I'}, RS X.K F G σ H' I' ps → I' D = none → H' D = some (.lst xs) → RS X.K (upd F D (.lst xs)) G σ H' I' ps := fun {H' I'} r n h => r.frame (fun b o z => by
      by_cases c : b = D
      · subst c; rw [upd_same] at z; cases z; exact h
      · rw [upd_ne c] at z; exact r.sf _ _ z) (fun i a ha => by rw [upd_ne (fun c : a = D => hDp i (by rw [← c]; exact ha))]; exact r.fo i a ha) (upd_iff n)
    have sF : Same F (upd F D (.lst xs)) := same_upd hDF
    have outer : ∀ {I' I''}, Grow (upd F D (.lst xs)) I' I'' → Grow F I' I'' := fun {I' I''} g => ⟨g.same, fun a h => (g.out a h).imp_right sF.free⟩
    have keepD : ∀ {I' I''}, Grow (upd F D (.lst xs)) I' I'' → I' D = none → I'' D = none := fun {I' I''} g n => by
      cases z : I'' D with
      | none => rfl
      | some o =>
        rcases g.out D (by rw [z]; simp) with h | h
        · exact absurd n h
        · rw [upd_same] at h; cases h
    have hpv := ownFree_ps R4 hf
    have Rw := (inner R4 n4 hD4).wiped vs hpv
    refine ht.go l[i] _ _ _ H4 I4 ps x _ Rw (fun j h => hpv j (hj j h)) d4 fun σ5 R5 w5 o5 => ⟨(w5 vs hj).trans wipe_wipe, ?_⟩
    -- what stands of the outer state behind
    have hG : ∀ (j : Nat) ds, slAt G j = .own ds → slAt (f (l[i]'hlt) (wipeG G vs)) j = .own ds ∧ j < (f (l[i]'hlt) (wipeG G vs)).length := fun j ds h => by
      have nv : j ∉ vs := fun z => by
        have q := List.all_eq_true.mp hf j z
        rw [h] at q; cases q
      have e : slAt (f (l[i]'hlt) (wipeG G vs)) j = .own ds := by rw [o5 j (fun z => nv (hj j z)), wipeG_out nv]; exact h
      refine ⟨e, ?_⟩
      by_cases c : j < (f (l[i]'hlt) (wipeG G vs)).length
      · exact c
      · rw [slAt_out (by omega)] at e; cases e
    refine ⟨l[i], t, ht1, upd F D (.lst xs), I4, ps, R5, fun H6 I6 g6 R6 => ?_⟩
    rcases ht2 with ⟨rfl, y, r', hy, er2, hr4⟩ | ⟨rfl, hr4⟩
    · refine iteT ⟨l[i], y, hy, upd F D (.lst xs), I6, ps, R6, fun v H7 I7 g7 R7 d7 => ?_⟩
      have g47 := outer (g6.trans g7)
      have hD7 : H7 D = some (.lst xs) := R7.sf _ _ upd_same
      have n7 : I7 D = none := keepD (g6.trans g7) n4
      have R8 := (R4.back R7 sF (g6.trans g7).same hG).wr (o := .lst (xs ++ [v])) n7 hDF hDp
      have lx : xs.length = done.length := by rw [d3.len, List.length_map]
      refine ⟨xs, hD7, by omega, I7, xs ++ [v], done ++ [y], r', gr3.trans (g4.trans g47), R8, n7, upd_same, ?_, by rw [List.length_append]; show done.length + 1 ≤ i + 1; omega, hr4, by rw [er, er2, List.append_assoc]; rfl⟩
      rw [List.map_append]
      exact (DqAll_mono (g4.trans g47).same _ _ d3).app (.cons d7 .nil)
    · have hD6 : H6 D = some (.lst xs) := R6.sf _ _ upd_same
      exact iteF ⟨I6, xs, done, rst, gr3.trans (g4.trans (outer g6)), R4.back R6 sF g6.same hG, keepD g6 n4, hD6, DqAll_mono (g4.trans (outer g6)).same _ _ d3, by omega, hr4, er⟩
  · have e : i = l.length := by omega
    subst e
    rw [List.drop_length] at hr3
    cases hr3
    rw [List.append_nil] at er
    subst er
    have wst := wl.st H3 sI
    rw [List.length_map] at wst
    exact .inl ⟨wst, q D xs H3 I3 (gr1.trans gr3) R3 n3 hDF hDp hD3 d3⟩
theorem eo_lc {e : Expr} {o : Option (List α)} (h : LC X G e o) : EO X G e o := fun l hl => let ⟨t, p, _, w⟩ := h l hl; p.imp w
end
/-! ### name = [..] -/
section
variable {X : Cx} {G : List Sl} {S B R : Type} [Enc R] {P : S → List Sl} {PB : B → List Sl} {own : Rk} {rest : List Stmt} {N : List Str} {sc : Scope} {fs : Option Scope} {k i : Nat} {x : Str} {α : Type} [Enc α] {elt : Expr} {gs : List Comprehension} {scope : Scope} {pos sp py : Pos}
/-- the name is the def's own local, no target of the comprehension, on one line -/
def swB (N : List Str) (sc scope : Scope) (i : Nat) (x : Str) : Bool := decide (N[i]? = some x) && (match sc.names.lookup x with | some .local => true | _ => false) && !(scope.names.any fun (n, k) => n == x && (k == .local || k == .cell))
theorem swB_ok (C : Ctx X N sc fs k) (h : swB N sc scope i x = true) (hl : (py.line == pos.line) = true) : X.N[i]? = some x ∧ X.env.scope.names.lookup x = some .local ∧ swapsWith (.ListComp elt gs scope pos) (some (.Name x py)) sp.line X.env = pure true := by
  unfold swB at h
  simp only [Bool.and_eq_true, decide_eq_true_eq, Bool.not_eq_true'] at h
  obtain ⟨⟨h1, h2⟩, h3⟩ := h
  have h4 : X.env.scope.names.lookup x = some .local := by
    rw [C.s]
    split at h2
    · assumption
    · cases h2
  refine ⟨by rw [C.n]; exact h1, h4, ?_⟩
  unfold swapsWith
  have hb : X.env.blockKind = .function := by
    unfold Env.blockKind; rw [C.s, C.fk]; rfl
  have ky : X.env.kindOf x = some .local := h4
  simp only [hb, ky, h3, Expr.pos, hl]
  rfl
/-- the name is a cell: stored as ever -/
theorem sw_cell (C : Ctx X N sc fs k) (h : sc.names.lookup x = some .cell) : swapsWith (.ListComp elt gs scope pos) (some (.Name x py)) sp.line X.env = pure false := by
  have ky : X.env.kindOf x = some .cell := by show X.env.scope.names.lookup x = _; rw [C.s]; exact h
  unfold swapsWith
  simp [ky, show (some NameKind.cell == some NameKind.local) = false from rfl]
theorem sv_setL {oe : Option (List α)} {kk : List α → Option (Out S B R)} (C : Ctx X N sc fs k) (hx : swB N sc scope i x = true) (hl : (py.line == pos.line) = true) (he : LC X G (.ListComp elt gs scope pos) oe) (hk : ∀ v : List α, SV X (G.set i (.dat (enc v))) rest P PB own (kk v)) :
    SV X G (.Assign [.Name x py] (.ListComp elt gs scope pos) sp :: rest) P PB own (oe.bind kk) := fun y hy => by
  obtain ⟨v, h1, h2⟩ := bind_get hy
  obtain ⟨t, _, st, w⟩ := he v h1
  obtain ⟨a1, a2, a3⟩ := swB_ok (sp := sp) C hx hl
  refine (pss_cons (st i x py sp a1 a2 a3) (hk v y h2)).imp fun D σ H ⟨F, I, ps, R, q⟩ => w σ H _ ⟨F, I, ps, R, fun p xs H1 I1 g R1 n1 n2 n3 hH d => ?_⟩
  obtain ⟨g', R2, d2⟩ := frz_new g R1 n1 n2 n3 hH d
  exact tS_after (H := H) (ps := ps) (σ := σ) g' (R2.setDat d2) q
theorem sv_setLO {oe : Option (List α)} {kk : List α → Option (Out S B R)} (C : Ctx X N sc fs k) (hx : swB N sc scope i x = true) (hl : (py.line == pos.line) = true) (hi : i < G.length) (he : LC X G (.ListComp elt gs scope pos) oe) (hk : ∀ v : List α, SV X (G.set i (.own (v.map enc))) rest P PB own (kk v)) :
    SV X G (.Assign [.Name x py] (.ListComp elt gs scope pos) sp :: rest) P PB own (oe.bind kk) := fun y hy => by
  obtain ⟨v, h1, h2⟩ := bind_get hy
  obtain ⟨t, _, st, w⟩ := he v h1
  obtain ⟨a1, a2, a3⟩ := swB_ok (sp := sp) C hx hl
  exact (pss_cons (st i x py sp a1 a2 a3) (hk v y h2)).imp fun D σ H ⟨F, I, ps, R, q⟩ => w σ H _ ⟨F, I, ps, R, fun p xs H1 I1 g R1 n1 n2 n3 hH d => tS_after (H := H) (ps := ps) (σ := σ) g (R1.setOwn hi n1 n2 n3 hH d) q⟩
/-- a, b = e -/
theorem sv_unpack {tg e : Expr} {g : L2.TG} {js : List Nat} {f : α → List Sl → List Sl} {oe : Option α} {kk : α → Option (Out S B R)} (hg : PG X tg g) (ht : Tgt X.K g js f) (hu : unAt G js = true) (he : ED X G e oe) (hk : ∀ v : α, SV X (f v G) rest P PB own (kk v))
    (hs : swapsWithSole [tg] e sp.line X.env = pure false := by rfl) (hw : swappedStores [tg] e X.env = pure none := by rfl) (h1 : (assignEach [tg] X.env).map (·.2) = [assign tg X.env] := by rfl) :
    SV X G (.Assign [tg] e sp :: rest) P PB own (oe.bind kk) := fun y hy => by
  obtain ⟨v, h2, h3⟩ := bind_get hy
  refine (pss_cons (ps_asg (he v h2) hg hs hw h1) (hk v y h3)).imp fun D σ H ⟨F, I, ps, R, q⟩ => ⟨F, I, ps, R, fun w H1 I1 g R1 d => ?_⟩
  exact ht.go v G F σ H1 I1 ps w _ R1 (unAt_ps R1 hu) d fun σ' R2 _ _ => tS_after (H := H) (ps := ps) (σ := σ) g R2 q
end
end Lay

set_option Elab.async false
set_option linter.all false
set_option maxRecDepth 100000
/-! Lay7: subscripts, slices, builtins, stores to own lists. -/
namespace Lay
open PySem PySem.Spec PyProof.Rows L2
open Lay.Enc (enc)

section
variable {X : Cx} {G : List Sl} {α β γ δ : Type} [Enc α] [Enc β] [Enc γ] [Enc δ] {a b e : Expr} {pos : Pos}
theorem atI_map {γ : Type} {l : List α} {f : α → γ} {i : Int} {x : α} (h : atI l i = some x) : atI (l.map f) i = some (f x) := by
  unfold atI at h ⊢
  rw [List.length_map]
  cases q : ixN l.length i with
  | none => rw [q] at h; cases h
  | some j =>
    rw [q] at h
    show (l.map f)[j]? = some (f x)
    rw [List.getElem?_map, show l[j]? = some x from h]; rfl
theorem _root_.Lay.DqAll.atI {H : Hp} {vs : List V} {ds : List PyData} {i : Int} {d : PyData} (h : DqAll H vs ds) (e : L2.atI ds i = some d) : ∃ v, L2.atI vs i = some v ∧ Dq H v d := by
  unfold L2.atI at e ⊢
  rw [h.len]
  cases q : ixN ds.length i with
  | none => rw [q] at e; cases e
  | some j =>
    rw [q] at e
    exact h.at e
/-- xs[i] -/
theorem ed_ix {ol : Option (List α)} {oi : Option Int} (ha : ED X G a ol) (hb : ED X G b oi) (hs : PlainIx b := by intro _ _; rfl) : ED X G (.Subscript a b pos) (bind2 atI ol oi) := fun z hz => by
  obtain ⟨l, i, h1, h2, h3⟩ := bind2_get hz
  refine (pe_ix ix_list (ha l h1) (hb i h2) hs).imp (tD_op ?_)
  intro F G σ H I ps v w Q R hv hw q
  cases hw
  cases hv with
  | lst k1 k2 =>
    obtain ⟨u, hu, du⟩ := k2.atI (atI_map h3)
    exact ⟨_, _, i, u, rfl, rfl, .inl (rd_mono R.si k1), hu, q u H I Grow.refl R du⟩
theorem ed_ixT {ol : Option (Tup α)} {oi : Option Int} (ha : ED X G a ol) (hb : ED X G b oi) (hs : PlainIx b := by intro _ _; rfl) : ED X G (.Subscript a b pos) (bind2 (fun t i => atI t.l i) ol oi) := fun z hz => by
  obtain ⟨l, i, h1, h2, h3⟩ := bind2_get hz
  refine (pe_ix ix_tup (ha l h1) (hb i h2) hs).imp (tD_op ?_)
  intro F G σ H I ps v w Q R hv hw q
  cases hw
  cases hv with
  | tup k1 k2 =>
    obtain ⟨u, hu, du⟩ := k2.atI (atI_map h3)
    exact ⟨_, _, i, u, rfl, rfl, .inl (rd_mono R.si k1), hu, q u H I Grow.refl R du⟩
/-- the item of a tuple of known length at a written index -/
theorem ed_proj {o : Option α} {i : Int} {j : Nat} {p : Pos} {f : α → β} (ha : ED X G a o) (hf : ∀ x, ∃ ds, enc x = .tuple ds ∧ atI ds i = some (enc (f x))) : ED X G (.Subscript a (.Constant (.int i) j p) pos) (lift1 f o) := fun z hz => by
  obtain ⟨x, h1, h2⟩ := lift1_get hz
  subst h2
  obtain ⟨ds, e1, e2⟩ := hf x
  refine (pe_ix ix_tup (ha x h1) (ed_num (G := G) i rfl) (fun _ _ => rfl)).imp (tD_op ?_)
  intro F G σ H I ps v w Q R hv hw q
  rw [e1] at hv
  cases hw
  cases hv with
  | tup k1 k2 =>
    obtain ⟨u, hu, du⟩ := k2.atI e2
    exact ⟨_, _, i, u, rfl, rfl, .inl (rd_mono R.si k1), hu, q u H I Grow.refl R du⟩
theorem ed_20 {o : Option (T2 α β)} {j : Nat} {p : Pos} (h : ED X G a o) : ED X G (.Subscript a (.Constant (.int 0) j p) pos) (lift1 T2.a o) := ed_proj h fun x => ⟨_, rfl, rfl⟩
theorem ed_21 {o : Option (T2 α β)} {j : Nat} {p : Pos} (h : ED X G a o) : ED X G (.Subscript a (.Constant (.int 1) j p) pos) (lift1 T2.b o) := ed_proj h fun x => ⟨_, rfl, rfl⟩
theorem ed_30 {o : Option (T3 α β γ)} {j : Nat} {p : Pos} (h : ED X G a o) : ED X G (.Subscript a (.Constant (.int 0) j p) pos) (lift1 T3.a o) := ed_proj h fun x => ⟨_, rfl, rfl⟩
theorem ed_31 {o : Option (T3 α β γ)} {j : Nat} {p : Pos} (h : ED X G a o) : ED X G (.Subscript a (.Constant (.int 1) j p) pos) (lift1 T3.b o) := ed_proj h fun x => ⟨_, rfl, rfl⟩
theorem ed_32 {o : Option (T3 α β γ)} {j : Nat} {p : Pos} (h : ED X G a o) : ED X G (.Subscript a (.Constant (.int 2) j p) pos) (lift1 T3.c o) := ed_proj h fun x => ⟨_, rfl, rfl⟩
theorem ed_40 {o : Option (T4 α β γ δ)} {j : Nat} {p : Pos} (h : ED X G a o) : ED X G (.Subscript a (.Constant (.int 0) j p) pos) (lift1 T4.a o) := ed_proj h fun x => ⟨_, rfl, rfl⟩
theorem ed_41 {o : Option (T4 α β γ δ)} {j : Nat} {p : Pos} (h : ED X G a o) : ED X G (.Subscript a (.Constant (.int 1) j p) pos) (lift1 T4.b o) := ed_proj h fun x => ⟨_, rfl, rfl⟩
theorem ed_42 {o : Option (T4 α β γ δ)} {j : Nat} {p : Pos} (h : ED X G a o) : ED X G (.Subscript a (.Constant (.int 2) j p) pos) (lift1 T4.c o) := ed_proj h fun x => ⟨_, rfl, rfl⟩
theorem ed_43 {o : Option (T4 α β γ δ)} {j : Nat} {p : Pos} (h : ED X G a o) : ED X G (.Subscript a (.Constant (.int 3) j p) pos) (lift1 T4.d o) := ed_proj h fun x => ⟨_, rfl, rfl⟩
/-- x[i], x an own list -/
theorem ed_ixO {N : List Str} {sc : Scope} {fs : Option Scope} {k i : Nat} {x : Str} {l : List α} {p : Pos} {oi : Option Int} (C : Ctx X N sc fs k) (hv : visB N sc i x = true) (hsl : slAt G i = .own (l.map enc)) (hb : ED X G b oi) (hs : PlainIx b := by intro _ _; rfl) :
    ED X G (.Subscript (.Name x p) b pos) (oi.bind fun j => atI l j) := fun z hz => by
  obtain ⟨j, h2, h3⟩ := bind_get hz
  unfold visB at hv
  simp only [Bool.and_eq_true, decide_eq_true_eq, Bool.not_eq_true'] at hv
  obtain ⟨⟨⟨h1, hv⟩, hd⟩, hcd⟩ := hv
  have hvis : Vis X.env.scope x := by
    rw [C.s]; unfold Vis
    split at hv <;> simp_all
  refine (pe_ix ix_list (pe_var (by rw [C.n]; exact h1) hvis hd hcd) (hb j h2) hs).imp fun σ H Q ⟨F, I, ps, R, q⟩ => ?_
  have hi : i < G.length := by
    by_cases c : i < G.length
    · exact c
    · rw [slAt_out (by omega)] at hsl; cases hsl
  obtain ⟨w, k1, k2⟩ := R.sl i hi
  rw [hsl] at k2
  obtain ⟨ad, xs, e1, e2, n, hH, d⟩ := k2
  subst e2
  refine ⟨_, k1, F, I, ps, R, fun w H1 I1 g1 R1 dw => ?_⟩
  cases dw
  obtain ⟨w1, m1, m2⟩ := R1.sl i hi
  rw [hsl] at m2
  obtain ⟨a1, xs1, f1, f2, n1, hH1, d1⟩ := m2
  rw [e1] at f1; cases f1
  obtain ⟨u, hu, du⟩ := d1.atI (atI_map h3)
  exact ⟨_, _, j, u, rfl, rfl, .inl (.inl hH1), hu, q u H1 I1 g1 R1 du⟩

/-! ### slices -/
/-- the part that a slice takes -/
def cutL {α : Type} (l : List α) (lo hi : Option Int) : List α := (l.drop (HT.sIx l.length 0 lo)).take (HT.sIx l.length l.length hi - HT.sIx l.length 0 lo)
def EP (X : Cx) (G : List Sl) (e : Option Expr) (o : Option (Option Int)) : Prop := ∀ i, o = some i → ∃ t, PO X e t ∧ ∀ (σ : L2.St) (H : Hp) (Q : Option Int → Hp → Prop), (∃ F I ps, RS X.K F G σ H I ps ∧ ∀ H' I', Grow F I I' → RS X.K F G σ H' I' ps → Q i H') → t σ H Q
theorem ep_none : EP X G none (some none) := fun i h => by
  cases h
  exact ⟨_, po_none, fun σ H Q ⟨F, I, ps, R, q⟩ => q _ _ Grow.refl R⟩
theorem ep_some {o : Option Int} (h : ED X G e o) : EP X G (some e) (lift1 some o) := fun i hi => by
  obtain ⟨x, h1, h2⟩ := lift1_get hi
  subst h2
  exact ⟨_, po_some (h x h1), fun σ H Q ⟨F, I, ps, R, q⟩ => ⟨F, I, ps, R, fun v H' I' g R' d => by cases d; exact ⟨x, rfl, q _ _ g R'⟩⟩⟩
theorem DqAll.cut {H : Hp} {vs : List V} {l : List α} {lo hi : Option Int} (h : DqAll H vs (l.map enc)) : DqAll H (cutV vs lo hi) ((cutL l lo hi).map enc) := by
  have e : vs.length = l.length := by rw [h.len, List.length_map]
  unfold cutV cutL
  rw [e, List.map_take, List.map_drop]
  exact (h.drop _).take _
theorem eo_slice {lo hi : Option Expr} {ol : Option (List α)} {oo oh : Option (Option Int)} {p2 : Pos} (ha : ED X G a ol) (h1 : EP X G lo oo) (h2 : EP X G hi oh) : EO X G (.Subscript a (.Slice lo hi none p2) pos) (lift3 cutL ol oo oh) := fun r hr => by
  obtain ⟨l, e1, hr⟩ := bind_get hr
  obtain ⟨i, e2, hr⟩ := bind_get hr
  obtain ⟨j, e3, hr⟩ := bind_get hr
  cases hr
  obtain ⟨t1, p1, w1⟩ := h1 i e2
  obtain ⟨t2, p2, w2⟩ := h2 j e3
  refine (pe_slice sl_list (ha l e1) p1 p2).imp fun σ H Q ⟨F, I, ps, R, q⟩ => ⟨F, I, ps, R, fun v H1 I1 g1 R1 d => w1 σ H1 _ ⟨F, I1, ps, R1, fun H2 I2 g2 R2 => w2 σ H2 _ ⟨F, I2, ps, R2, fun H3 I3 g3 R3 => ?_⟩⟩⟩
  cases d with
  | lst k1 k2 =>
    have s13 : Same I1 I3 := g2.same.trans g3.same
    refine ⟨_, _, rfl, .inl (rd_mono (s13.trans R3.si) k1), fun p hp => q p _ _ I3 (g1.trans (g2.trans g3)) (R3.newOwn hp) (R3.si.free hp) (R3.sf.free hp) (fun i c => by obtain ⟨_, _, _, z⟩ := R3.own_at c; rw [hp] at z; cases z) upd_same ?_⟩
    exact DqAll.cut (DqAll_mono s13 _ _ k2)
theorem ed_sliceT {lo hi : Option Expr} {ol : Option (Tup α)} {oo oh : Option (Option Int)} {p2 : Pos} (ha : ED X G a ol) (h1 : EP X G lo oo) (h2 : EP X G hi oh) : ED X G (.Subscript a (.Slice lo hi none p2) pos) (lift3 (fun t i j => Tup.mk (cutL t.l i j)) ol oo oh) := fun r hr => by
  obtain ⟨l, e1, hr⟩ := bind_get hr
  obtain ⟨i, e2, hr⟩ := bind_get hr
  obtain ⟨j, e3, hr⟩ := bind_get hr
  cases hr
  obtain ⟨t1, p1, w1⟩ := h1 i e2
  obtain ⟨t2, p2, w2⟩ := h2 j e3
  refine (pe_slice sl_tupA (ha l e1) p1 p2).imp fun σ H Q ⟨F, I, ps, R, q⟩ => ⟨F, I, ps, R, fun v H1 I1 g1 R1 d => w1 σ H1 _ ⟨F, I1, ps, R1, fun H2 I2 g2 R2 => w2 σ H2 _ ⟨F, I2, ps, R2, fun H3 I3 g3 R3 => ?_⟩⟩⟩
  cases d with
  | tup k1 k2 =>
    have s13 : Same I1 I3 := g2.same.trans g3.same
    have e : PyData.tuple ((cutL l.l i j).map enc) = enc (Tup.mk (cutL l.l i j)) := rfl
    have lx : ∀ {xs : List V}, DqAll I1 xs (l.l.map enc) → xs.length = l.l.length := fun h => by rw [h.len, List.length_map]
    refine ⟨_, _, rfl, .inl (rd_mono (s13.trans R3.si) k1), fun hw => q _ _ I3 (g1.trans (g2.trans g3)) R3 ?_, fun _ p hp => q _ _ _ (g1.trans (g2.trans (g3.trans (R3.grow_new hp)))) (R3.new hp) (.tup (.inl upd_same) (DqAll.cut (DqAll_mono (s13.trans (R3.grow_new (o := .tup _) hp).same) _ _ k2)))⟩
    rw [lx k2] at hw
    have e2 : cutL l.l i j = l.l := by
      unfold cutL
      rw [hw.1, hw.2]; simp
    show Dq I3 _ (PyData.tuple ((cutL l.l i j).map enc))
    rw [e2]
    exact .tup (rd_mono s13 k1) (DqAll_mono s13 _ _ k2)
end

/-! ### builtins by name -/
section
variable {X : Cx} {G : List Sl} {α β γ δ : Type} [Enc α] [Enc β] [Enc γ] [Enc δ] {a b e : Expr} {pos p : Pos} {N : List Str} {sc : Scope} {fs : Option Scope} {k : Nat}
/-- a builtin of one argument -/
theorem b1 {id x : Str} {bid : String} {te : TE} {r : List V → Hp → VK → Prop} (C : Ctx X N sc fs k) (hg : glbB sc x = true) (hm : X.mg x = none) (hv : bootBuiltins x = some (.builtin bid)) (hc : CallR X (.builtin bid) r) (h : PE X e te) (hn : x ≠ "__name__")
    (hs : starEach [e] X.env = (false, eval e X.env) :: starEach [] X.env) : PE X (.Call (.Name x p) [e] [] pos) (tCB r (tCons te tNil)) := by
  obtain ⟨gl, db⟩ := glbB_gl C.s hg
  exact pe_callB hc gl hm hv (pa_cons h pa_nil hs) hn db hs rfl
theorem bT {x : Str} {T : String} {te : TE} {r : List V → Hp → VK → Prop} (C : Ctx X N sc fs k) (hg : glbB sc x = true) (hm : X.mg x = none) (hv : bootBuiltins x = some (.type T)) (hc : CallR X (.type T) r) (h : PE X e te) (hn : x ≠ "__name__")
    (hs : starEach [e] X.env = (false, eval e X.env) :: starEach [] X.env) : PE X (.Call (.Name x p) [e] [] pos) (tCB r (tCons te tNil)) := by
  obtain ⟨gl, db⟩ := glbB_gl C.s hg
  exact pe_callTy hc gl hm hv (pa_cons h pa_nil hs) hn db hs rfl
/-- a rule of one value on data: the answer is scalar -/
theorem tD_b1 {K : PySem.W.Frag} {r : List V → Hp → VK → Prop} {d1 d : PyData} (h : ∀ (F : Hp) (G : List Sl) (σ : L2.St) (H I : Hp) (ps : Nat → Option Addr) (v : V) (Q : VK), RS K F G σ H I ps → Dq I v d1 → (∀ u H' I', Grow F I I' → RS K F G σ H' I' ps → Dq I' u d → Q u H') → r [v] H Q)
    (σ : L2.St) (H : Hp) (Q : VK) (t : tD K G d σ H Q) : tCB r (tCons (tD K G d1) tNil) σ H Q := by
  obtain ⟨F, I, ps, R, q⟩ := t
  exact ⟨F, I, ps, R, fun v H1 I1 g1 R1 dv => h F G σ H1 I1 ps v Q R1 dv fun u H3 I3 g3 R3 du => q u H3 I3 (g1.trans g3) R3 du⟩
/-- .. of a list that is read -/
theorem tR_b1 {K : PySem.W.Frag} {r : List V → Hp → VK → Prop} {ds : List PyData} {d : PyData} (h : ∀ (F : Hp) (G : List Sl) (σ : L2.St) (H I : Hp) (ps : Nat → Option Addr) (ad : Addr) (xs : List V) (Q : VK), RS K F G σ H I ps → SqL K H ad xs → DqAll I xs ds → (∀ u H' I', Grow F I I' → RS K F G σ H' I' ps → Dq I' u d → Q u H') → r [.ref ad] H Q)
    (σ : L2.St) (H : Hp) (Q : VK) (t : tD K G d σ H Q) : tCB r (tCons (tR K G ds) tNil) σ H Q := by
  obtain ⟨F, I, ps, R, q⟩ := t
  exact ⟨F, I, ps, R, fun ad xs H1 I1 g1 R1 s dv => h F G σ H1 I1 ps ad xs Q R1 s dv fun u H3 I3 g3 R3 du => q u H3 I3 (g1.trans g3) R3 du⟩
theorem tR_bO {K : PySem.W.Frag} {r : List V → Hp → VK → Prop} {ds es : List PyData} (h : ∀ (F : Hp) (G : List Sl) (σ : L2.St) (H I : Hp) (ps : Nat → Option Addr) (ad : Addr) (xs : List V) (Q : VK), RS K F G σ H I ps → SqL K H ad xs → DqAll I xs ds → (∀ p ys, H p = none → DqAll I ys es → Q (.ref p) (upd H p (.lst ys))) → r [.ref ad] H Q)
    (σ : L2.St) (H : Hp) (Q : VK) (t : tO K G es σ H Q) : tCB r (tCons (tR K G ds) tNil) σ H Q := by
  obtain ⟨F, I, ps, R, q⟩ := t
  refine ⟨F, I, ps, R, fun ad xs H1 I1 g1 R1 s dv => h F G σ H1 I1 ps ad xs Q R1 s dv fun p ys hp dy => ?_⟩
  exact q p ys _ I1 g1 (R1.newOwn hp) (R1.si.free hp) (R1.sf.free hp) (fun i c => by obtain ⟨_, _, _, z⟩ := R1.own_at c; rw [hp] at z; cases z) upd_same dy
theorem ed_len {ol : Option (List α)} (C : Ctx X N sc fs k) (hg : glbB sc "len" = true) (hm : X.mg "len" = none) (h : ER X G e ol) (hs : starEach [e] X.env = (false, eval e X.env) :: starEach [] X.env := by rfl) : ED X G (.Call (.Name "len" p) [e] [] pos) (lift1 (fun l => (l.length : Int)) ol) := fun z hz => by
  obtain ⟨l, h1, h2⟩ := lift1_get hz
  subst h2
  refine (b1 (id := "len") C hg hm PySem.boot_len call_len_seq (h l h1) (by decide) hs).imp (tR_b1 fun F G σ H I ps ad xs Q R s d q => ⟨ad, xs, rfl, .inl s, ?_⟩)
  rw [d.len, List.length_map]
  exact q _ _ _ Grow.refl R (.int _)
theorem ed_lenT {ol : Option (Tup α)} (C : Ctx X N sc fs k) (hg : glbB sc "len" = true) (hm : X.mg "len" = none) (h : ED X G e ol) (hs : starEach [e] X.env = (false, eval e X.env) :: starEach [] X.env := by rfl) : ED X G (.Call (.Name "len" p) [e] [] pos) (lift1 (fun t => (t.l.length : Int)) ol) := fun z hz => by
  obtain ⟨l, h1, h2⟩ := lift1_get hz
  subst h2
  refine (b1 (id := "len") C hg hm PySem.boot_len call_len_seq (h l h1) (by decide) hs).imp (tD_b1 fun F G σ H I ps v Q R d q => ?_)
  cases d with
  | tup k1 k2 =>
    refine ⟨_, _, rfl, .inr (.inl (rd_mono R.si k1)), ?_⟩
    rw [k2.len, List.length_map]
    exact q _ _ _ Grow.refl R (.int _)
theorem ints_of {I : Hp} : ∀ {xs : List V} {ns : List Int}, DqAll I xs (ns.map enc) → xs = ns.map V.int
  | _, [], h => by cases h; rfl
  | _, n :: ns, h => by
    cases h with
    | cons h1 h2 =>
      cases h1
      rw [ints_of h2]; rfl
theorem of_ints {I : Hp} : ∀ (ns : List Int), DqAll I (ns.map V.int) (ns.map enc)
  | [] => .nil
  | n :: ns => .cons (.int n) (of_ints ns)
theorem bools_of {I : Hp} : ∀ {xs : List V} {ns : List Bool}, DqAll I xs (ns.map enc) → xs = ns.map V.bl
  | _, [], h => by cases h; rfl
  | _, n :: ns, h => by
    cases h with
    | cons h1 h2 =>
      cases h1
      rw [bools_of h2]; rfl
theorem ed_sum {ol : Option (List Int)} (C : Ctx X N sc fs k) (hg : glbB sc "sum" = true) (hm : X.mg "sum" = none) (h : ER X G e ol) (hs : starEach [e] X.env = (false, eval e X.env) :: starEach [] X.env := by rfl) : ED X G (.Call (.Name "sum" p) [e] [] pos) (lift1 List.sum ol) := fun z hz => by
  obtain ⟨l, h1, h2⟩ := lift1_get hz
  subst h2
  refine (b1 (id := "sum") C hg hm (by decide +kernel) (cr_sum C.calm) (h l h1) (by decide) hs).imp (tR_b1 fun F G σ H I ps ad xs Q R s d q => ?_)
  rw [ints_of d] at s
  exact ⟨ad, l, rfl, s, q _ _ _ Grow.refl R (.int _)⟩
/-- the greatest (least) of a list that is not empty -/
def maxL : List Int → Option Int
  | [] => none
  | x :: xs => some (xs.foldl (fun m y => if y > m then y else m) x)
def minL : List Int → Option Int
  | [] => none
  | x :: xs => some (xs.foldl (fun m y => if y < m then y else m) x)
theorem maxL_fold (xs : List Int) (x : Int) : xs.foldl (fun m y => if y > m then y else m) x ∈ x :: xs ∧ ∀ y ∈ x :: xs, y ≤ xs.foldl (fun m y => if y > m then y else m) x := by
  induction xs generalizing x with
  | nil => simp
  | cons z zs ih =>
    rw [List.foldl_cons]
    obtain ⟨h1, h2⟩ := ih (if z > x then z else x)
    refine ⟨?_, fun y hy => ?_⟩
    · rcases List.mem_cons.mp h1 with e | e
      · rw [e]; split <;> simp
      · simp [e]
    · have h3 := h2 (if z > x then z else x) (by simp)
      rcases List.mem_cons.mp hy with e | e
      · subst e; revert h3; split <;> omega
      · rcases List.mem_cons.mp e with e | e
        · subst e; revert h3; split <;> omega
        · exact h2 y (by simp [e])
theorem minL_fold (xs : List Int) (x : Int) : xs.foldl (fun m y => if y < m then y else m) x ∈ x :: xs ∧ ∀ y ∈ x :: xs, xs.foldl (fun m y => if y < m then y else m) x ≤ y := by
  induction xs generalizing x with
  | nil => simp
  | cons z zs ih =>
    rw [List.foldl_cons]
    obtain ⟨h1, h2⟩ := ih (if z < x then z else x)
    refine ⟨?_, fun y hy => ?_⟩
    · rcases List.mem_cons.mp h1 with e | e
      · rw [e]; split <;> simp
      · simp [e]
    · have h3 := h2 (if z < x then z else x) (by simp)
      rcases List.mem_cons.mp hy with e | e
      · subst e; revert h3; split <;> omega
      · rcases List.mem_cons.mp e with e | e
        · subst e; revert h3; split <;> omega
        · exact h2 y (by simp [e])
theorem maxL_spec {l : List Int} {m : Int} (h : maxL l = some m) : m ∈ l ∧ ∀ y ∈ l, y ≤ m := by
  cases l with
  | nil => cases h
  | cons x xs => have h := Option.some.inj h; subst h; exact maxL_fold xs x
theorem minL_spec {l : List Int} {m : Int} (h : minL l = some m) : m ∈ l ∧ ∀ y ∈ l, m ≤ y := by
  cases l with
  | nil => cases h
  | cons x xs => have h := Option.some.inj h; subst h; exact minL_fold xs x
theorem ed_maxL {ol : Option (List Int)} (C : Ctx X N sc fs k) (hg : glbB sc "max" = true) (hm : X.mg "max" = none) (h : ER X G e ol) (hs : starEach [e] X.env = (false, eval e X.env) :: starEach [] X.env := by rfl) : ED X G (.Call (.Name "max" p) [e] [] pos) (ol.bind maxL) := fun z hz => by
  obtain ⟨l, h1, h2⟩ := bind_get hz
  obtain ⟨m1, m2⟩ := maxL_spec h2
  refine (b1 (id := "max") C hg hm (by decide +kernel) (cr_max C.calm) (h l h1) (by decide) hs).imp (tR_b1 fun F G σ H I ps ad xs Q R s d q => ?_)
  rw [ints_of d] at s
  refine ⟨ad, l, rfl, s, List.length_pos_of_mem m1, fun m hm hle => ?_⟩
  have e : m = z := Int.le_antisymm (m2 m hm) (hle z m1)
  subst e
  exact q _ _ _ Grow.refl R (.int _)
theorem ed_minL {ol : Option (List Int)} (C : Ctx X N sc fs k) (hg : glbB sc "min" = true) (hm : X.mg "min" = none) (h : ER X G e ol) (hs : starEach [e] X.env = (false, eval e X.env) :: starEach [] X.env := by rfl) : ED X G (.Call (.Name "min" p) [e] [] pos) (ol.bind minL) := fun z hz => by
  obtain ⟨l, h1, h2⟩ := bind_get hz
  obtain ⟨m1, m2⟩ := minL_spec h2
  refine (b1 (id := "min") C hg hm (by decide +kernel) (cr_min C.calm) (h l h1) (by decide) hs).imp (tR_b1 fun F G σ H I ps ad xs Q R s d q => ?_)
  rw [ints_of d] at s
  refine ⟨ad, l, rfl, s, List.length_pos_of_mem m1, fun m hm hle => ?_⟩
  have e : m = z := Int.le_antisymm (hle z m1) (m2 m hm)
  subst e
  exact q _ _ _ Grow.refl R (.int _)
theorem ed_abs {o : Option Int} (C : Ctx X N sc fs k) (hg : glbB sc "abs" = true) (hm : X.mg "abs" = none) (h : ED X G e o) (hs : starEach [e] X.env = (false, eval e X.env) :: starEach [] X.env := by rfl) : ED X G (.Call (.Name "abs" p) [e] [] pos) (lift1 (fun i => if i < 0 then -i else i) o) := fun z hz => by
  obtain ⟨i, h1, h2⟩ := lift1_get hz
  subst h2
  refine (b1 (id := "abs") C hg hm (by decide +kernel) call_abs (h i h1) (by decide) hs).imp (tD_b1 fun F G σ H I ps v Q R d q => ?_)
  cases d
  exact ⟨i, rfl, q _ _ _ Grow.refl R (.int _)⟩
theorem ed_int {o : Option Int} (C : Ctx X N sc fs k) (hg : glbB sc "int" = true) (hm : X.mg "int" = none) (h : ED X G e o) (hs : starEach [e] X.env = (false, eval e X.env) :: starEach [] X.env := by rfl) : ED X G (.Call (.Name "int" p) [e] [] pos) o := fun i h1 => by
  refine (bT C hg hm (by decide +kernel) call_int1 (h i h1) (by decide) hs).imp (tD_b1 fun F G σ H I ps v Q R d q => ?_)
  cases d
  exact .inl ⟨i, rfl, q _ _ _ Grow.refl R (.int _)⟩
theorem ed_intB {o : Option Bool} (C : Ctx X N sc fs k) (hg : glbB sc "int" = true) (hm : X.mg "int" = none) (h : ED X G e o) (hs : starEach [e] X.env = (false, eval e X.env) :: starEach [] X.env := by rfl) : ED X G (.Call (.Name "int" p) [e] [] pos) (lift1 (fun b => if b = true then (1 : Int) else 0) o) := fun z hz => by
  obtain ⟨i, h1, h2⟩ := lift1_get hz
  subst h2
  refine (bT C hg hm (by decide +kernel) call_int1 (h i h1) (by decide) hs).imp (tD_b1 fun F G σ H I ps v Q R d q => ?_)
  cases d
  exact .inr ⟨i, rfl, q _ _ _ Grow.refl R (.int _)⟩
theorem ed_all {ol : Option (List Bool)} (C : Ctx X N sc fs k) (hg : glbB sc "all" = true) (hm : X.mg "all" = none) (h : ER X G e ol) (hs : starEach [e] X.env = (false, eval e X.env) :: starEach [] X.env := by rfl) : ED X G (.Call (.Name "all" p) [e] [] pos) (lift1 (fun l => l.all id) ol) := fun z hz => by
  obtain ⟨l, h1, h2⟩ := lift1_get hz
  subst h2
  refine (b1 (id := "all") C hg hm (by decide +kernel) (cr_all C.calm) (h l h1) (by decide) hs).imp (tR_b1 fun F G σ H I ps ad xs Q R s d q => ?_)
  rw [bools_of d] at s
  exact ⟨ad, l, rfl, s, q _ _ _ Grow.refl R (.bl _)⟩
theorem ed_any {ol : Option (List Bool)} (C : Ctx X N sc fs k) (hg : glbB sc "any" = true) (hm : X.mg "any" = none) (h : ER X G e ol) (hs : starEach [e] X.env = (false, eval e X.env) :: starEach [] X.env := by rfl) : ED X G (.Call (.Name "any" p) [e] [] pos) (lift1 (fun l => l.any id) ol) := fun z hz => by
  obtain ⟨l, h1, h2⟩ := lift1_get hz
  subst h2
  refine (b1 (id := "any") C hg hm (by decide +kernel) (cr_any C.calm) (h l h1) (by decide) hs).imp (tR_b1 fun F G σ H I ps ad xs Q R s d q => ?_)
  rw [bools_of d] at s
  exact ⟨ad, l, rfl, s, q _ _ _ Grow.refl R (.bl _)⟩
/-- min(a, b), max(a, b) -/
theorem b2 {x : Str} {bid : String} {d1 d2 d : PyData} {r : List V → Hp → VK → Prop} (C : Ctx X N sc fs k) (hg : glbB sc x = true) (hm : X.mg x = none) (hv : bootBuiltins x = some (.builtin bid)) (hc : CallR X (.builtin bid) r) (h1 : PE X a (tD X.K G d1)) (h2 : PE X b (tD X.K G d2)) (hn : x ≠ "__name__")
    (w : ∀ (F : Hp) (G : List Sl) (σ : L2.St) (H I : Hp) (ps : Nat → Option Addr) (v w : V) (Q : VK), RS X.K F G σ H I ps → Dq I v d1 → Dq I w d2 → (∀ u H' I', Grow F I I' → RS X.K F G σ H' I' ps → Dq I' u d → Q u H') → r [v, w] H Q)
    (hs : starEach [a, b] X.env = (false, eval a X.env) :: starEach [b] X.env) (hs2 : starEach [b] X.env = (false, eval b X.env) :: starEach [] X.env) (hp : (backTo pos (starEach [b] X.env)).any (·.1) = false) : PE X (.Call (.Name x p) [a, b] [] pos) (tD X.K G d) := by
  obtain ⟨gl, db⟩ := glbB_gl C.s hg
  refine (pe_callB hc gl hm hv (pa_cons h1 (pa_cons h2 pa_nil hs2) hs) hn db hs hp).imp fun σ H Q ⟨F, I, ps, R, q⟩ => ⟨F, I, ps, R, fun v H1 I1 g1 R1 d1 => ⟨F, I1, ps, R1, fun u H2 I2 g2 R2 d2 => ?_⟩⟩
  exact w F G σ H2 I2 ps v u Q R2 (Dq_mono g2.same _ _ d1) d2 fun z H3 I3 g3 R3 d3 => q z H3 I3 (g1.trans (g2.trans g3)) R3 d3
theorem ed_max2 {oa ob : Option Int} (C : Ctx X N sc fs k) (hg : glbB sc "max" = true) (hm : X.mg "max" = none) (ha : ED X G a oa) (hb : ED X G b ob)
    (hs : starEach [a, b] X.env = (false, eval a X.env) :: starEach [b] X.env := by rfl) (hs2 : starEach [b] X.env = (false, eval b X.env) :: starEach [] X.env := by rfl) (hp : (backTo pos (starEach [b] X.env)).any (·.1) = false := by rfl) :
    ED X G (.Call (.Name "max" p) [a, b] [] pos) (lift2 (fun i j => if j > i then j else i) oa ob) := fun z hz => by
  obtain ⟨i, j, h1, h2, h3⟩ := lift2_get hz
  subst h3
  exact b2 C hg hm (by decide +kernel) (call_max2 C.calm) (ha i h1) (hb j h2) (by decide) (fun F G σ H I ps v w Q R d1 d2 q => by cases d1; cases d2; exact ⟨i, j, rfl, q _ _ _ Grow.refl R (.int _)⟩) hs hs2 hp
theorem ed_min2 {oa ob : Option Int} (C : Ctx X N sc fs k) (hg : glbB sc "min" = true) (hm : X.mg "min" = none) (ha : ED X G a oa) (hb : ED X G b ob)
    (hs : starEach [a, b] X.env = (false, eval a X.env) :: starEach [b] X.env := by rfl) (hs2 : starEach [b] X.env = (false, eval b X.env) :: starEach [] X.env := by rfl) (hp : (backTo pos (starEach [b] X.env)).any (·.1) = false := by rfl) :
    ED X G (.Call (.Name "min" p) [a, b] [] pos) (lift2 (fun i j => if j < i then j else i) oa ob) := fun z hz => by
  obtain ⟨i, j, h1, h2, h3⟩ := lift2_get hz
  subst h3
  exact b2 C hg hm (by decide +kernel) (call_min2 C.calm) (ha i h1) (hb j h2) (by decide) (fun F G σ H I ps v w Q R d1 d2 q => by cases d1; cases d2; exact ⟨i, j, rfl, q _ _ _ Grow.refl R (.int _)⟩) hs hs2 hp

/-! ### lists from lists -/
def sortI (l : List Int) : List Int := l.mergeSort (fun a b => decide (a ≤ b))
theorem sortI_perm (l : List Int) : (sortI l).Perm l := List.mergeSort_perm ..
theorem sortI_sorted (l : List Int) : (sortI l).Pairwise (· ≤ ·) := by
  have h := List.pairwise_mergeSort (le := fun a b : Int => decide (a ≤ b)) (fun a b c h1 h2 => by simp only [decide_eq_true_eq] at *; omega) (fun a b => by simp only [Bool.or_eq_true, decide_eq_true_eq]; omega) l
  exact h.imp fun h => of_decide_eq_true h
theorem sorted_unique : ∀ {l m : List Int}, l.Perm m → l.Pairwise (· ≤ ·) → m.Pairwise (· ≤ ·) → l = m := fun h h1 h2 => h.eq_of_pairwise (fun a b _ _ h3 h4 => Int.le_antisymm h3 h4) h1 h2
theorem eo_sorted {ol : Option (List Int)} (C : Ctx X N sc fs k) (hg : glbB sc "sorted" = true) (hm : X.mg "sorted" = none) (h : ER X G e ol) (hs : starEach [e] X.env = (false, eval e X.env) :: starEach [] X.env := by rfl) : EO X G (.Call (.Name "sorted" p) [e] [] pos) (lift1 sortI ol) := fun z hz => by
  obtain ⟨l, h1, h2⟩ := lift1_get hz
  subst h2
  refine (b1 (id := "sorted") C hg hm (by decide +kernel) cr_sortedI (h l h1) (by decide) hs).imp (tR_bO fun F G σ H I ps ad xs Q R s d q => ?_)
  rw [ints_of d] at s
  refine ⟨ad, l, rfl, s, fun ns' p hp1 hp2 hp => ?_⟩
  have e : ns' = sortI l := sorted_unique (hp1.trans (sortI_perm l).symm) hp2 (sortI_sorted l)
  subst e
  exact q p _ hp (of_ints _)
theorem eo_listL {ol : Option (List α)} (C : Ctx X N sc fs k) (hg : glbB sc "list" = true) (hm : X.mg "list" = none) (h : ER X G e ol) (hs : starEach [e] X.env = (false, eval e X.env) :: starEach [] X.env := by rfl) : EO X G (.Call (.Name "list" p) [e] [] pos) ol := fun l h1 => by
  refine (bT C hg hm (by decide +kernel) call_list_of (h l h1) (by decide) hs).imp (tR_bO fun F G σ H I ps ad xs Q R s d q => ?_)
  exact ⟨ad, xs, rfl, .inl s, fun l hl => q l xs hl d⟩
theorem eo_listT {ol : Option (Tup α)} (C : Ctx X N sc fs k) (hg : glbB sc "list" = true) (hm : X.mg "list" = none) (h : ED X G e ol) (hs : starEach [e] X.env = (false, eval e X.env) :: starEach [] X.env := by rfl) : EO X G (.Call (.Name "list" p) [e] [] pos) (lift1 Tup.l ol) := fun z hz => by
  obtain ⟨t, h1, h2⟩ := lift1_get hz
  subst h2
  refine (bT C hg hm (by decide +kernel) call_list_of (h t h1) (by decide) hs).imp fun σ H Q ⟨F, I, ps, R, q⟩ => ⟨F, I, ps, R, fun v H1 I1 g1 R1 d => ?_⟩
  cases d with
  | tup k1 k2 =>
    exact ⟨_, _, rfl, .inr (.inl (rd_mono R1.si k1)), fun p hp => q p _ _ I1 g1 (R1.newOwn hp) (R1.si.free hp) (R1.sf.free hp) (fun i c => by obtain ⟨_, _, _, z⟩ := R1.own_at c; rw [hp] at z; cases z) upd_same k2⟩
theorem ed_tupL {ol : Option (List α)} (C : Ctx X N sc fs k) (hg : glbB sc "tuple" = true) (hm : X.mg "tuple" = none) (h : ER X G e ol) (hs : starEach [e] X.env = (false, eval e X.env) :: starEach [] X.env := by rfl) : ED X G (.Call (.Name "tuple" p) [e] [] pos) (lift1 Tup.mk ol) := fun z hz => by
  obtain ⟨l, h1, h2⟩ := lift1_get hz
  subst h2
  refine (bT C hg hm (by decide +kernel) call_tuple_of (h l h1) (by decide) hs).imp fun σ H Q ⟨F, I, ps, R, q⟩ => ⟨F, I, ps, R, fun ad xs H1 I1 g1 R1 s d => ?_⟩
  refine ⟨ad, xs, rfl, .inl ⟨s, fun p hp => q _ _ _ (g1.trans (R1.grow_new hp)) (R1.new hp) (.tup (.inl upd_same) (DqAll_mono (R1.grow_new (o := .tup xs) hp).same _ _ d))⟩⟩
/-- list(range(..)) -/
theorem op_catR {X : Cx} : OpR X (binaryOp .Add) (fun x y H Q => ∃ l b xs zs, x = .ref l ∧ y = .ref b ∧ Rd H l (.lst xs) ∧ Rd H b (.lst zs) ∧ xs.length + zs.length ≤ sizeLine ∧ ∀ p, H p = none → Q (.ref p) (upd H p (.lst (xs ++ zs)))) := by
  intro pins s σ H x y v u Q I rx ry h
  obtain ⟨l, b, xs, zs, e1, e2, hl, hb, hz, q⟩ := h
  subst e1 e2
  have e1 : v = .ref l := rx
  have e2 : u = .ref b := ry
  subst e1 e2
  obtain ⟨z1, its, n, r1, o1⟩ := hl.ok I.hok
  obtain ⟨z2, its2, n2, r2, o2⟩ := hb.ok I.hok
  refine PySem.P.add_list o1 o2 ?_ (by rw [List.size_toArray, List.size_toArray, ← r1.length, ← r2.length]; exact hz)
  rw [show its.toArray ++ its2.toArray = (its ++ its2).toArray by simp]
  exact ⟨.ref _, _, I.lnew (t' := s.toks) (r1.append r2) (by rw [List.length_append]; exact hz), rfl, q _ I.fresh⟩
def catG {α : Type} (l m : List α) : Option (List α) := if l.length + m.length ≤ sizeLine then some (l ++ m) else none
theorem eo_cat {oa ob : Option (List α)} (ha : ED X G a oa) (hb : ED X G b ob) : EO X G (.BinOp a .Add b pos) (bind2 catG oa ob) := fun z hz => by
  obtain ⟨l, m, h1, h2, h3⟩ := bind2_get hz
  obtain ⟨hc, h3⟩ := ite_get h3
  subst h3
  refine (pe_op op_catR (ha l h1) (hb m h2)).imp fun σ H Q ⟨F, I, ps, R, q⟩ => ⟨F, I, ps, R, fun v H1 I1 g1 R1 d1 => ⟨F, I1, ps, R1, fun w H2 I2 g2 R2 d2 => ?_⟩⟩
  have d1 := Dq_mono g2.same _ _ d1
  cases d1 with
  | lst k1 k2 =>
    cases d2 with
    | lst k3 k4 =>
      refine ⟨_, _, _, _, rfl, rfl, rd_mono R2.si k1, rd_mono R2.si k3, by rw [k2.len, k4.len, List.length_map, List.length_map]; exact hc, fun p hp => q p _ _ I2 (g1.trans g2) (R2.newOwn hp) (R2.si.free hp) (R2.sf.free hp) (fun i c => by obtain ⟨_, _, _, z⟩ := R2.own_at c; rw [hp] at z; cases z) upd_same (by rw [List.map_append]; exact k2.app k4)⟩
theorem ed_catT {oa ob : Option (Tup α)} (ha : ED X G a oa) (hb : ED X G b ob) : ED X G (.BinOp a .Add b pos) (bind2 (fun s t => lift1 Tup.mk (catG s.l t.l)) oa ob) := fun z hz => by
  obtain ⟨l, m, h1, h2, h3⟩ := bind2_get hz
  obtain ⟨y, h3, h4⟩ := lift1_get h3
  obtain ⟨hc, h3⟩ := ite_get h3
  subst h3 h4
  refine (pe_op op_catA (ha l h1) (hb m h2)).imp fun σ H Q ⟨F, I, ps, R, q⟩ => ⟨F, I, ps, R, fun v H1 I1 g1 R1 d1 => ⟨F, I1, ps, R1, fun w H2 I2 g2 R2 d2 => ?_⟩⟩
  have d1 := Dq_mono g2.same _ _ d1
  cases d1 with
  | tup k1 k2 =>
    cases d2 with
    | tup k3 k4 =>
      refine ⟨_, _, _, _, rfl, rfl, .inl (rd_mono R2.si k1), .inl (rd_mono R2.si k3), by rw [k2.len, k4.len, List.length_map, List.length_map]; exact hc, fun e => ?_, fun _ e => ?_, fun _ _ p hp => ?_⟩
      · refine q _ _ I2 (g1.trans g2) R2 (.tup k3 ?_)
        have : l.l = [] := by
          have := k2.len; rw [e, List.length_map] at this
          exact List.eq_nil_of_length_eq_zero this.symm
        rw [this]; exact k4
      · refine q _ _ I2 (g1.trans g2) R2 (.tup k1 ?_)
        have : m.l = [] := by
          have := k4.len; rw [e, List.length_map] at this
          exact List.eq_nil_of_length_eq_zero this.symm
        rw [this, List.append_nil]; exact k2
      · refine q _ _ _ (g1.trans (g2.trans (R2.grow_new hp))) (R2.new hp) (.tup (.inl upd_same) (DqAll_mono (R2.grow_new (o := .tup _) hp).same _ _ ?_))
        rw [List.map_append]; exact k2.app k4
theorem op_repR {X : Cx} : OpR X (binaryOp .Mult) (fun x y H Q => ∃ l k xs, x = .ref l ∧ y = .int k ∧ H l = some (.lst xs) ∧ -(2 ^ 63) ≤ k ∧ k < 2 ^ 63 ∧ xs.length * k.toNat ≤ sizeLine ∧ ∀ p, H p = none → Q (.ref p) (upd H p (.lst (List.replicate k.toNat xs).flatten))) := op_rep
def repG {α : Type} (l : List α) (k : Int) : Option (List α) := if (l.length ≤ 64 ∧ k ≤ 262144) ∧ -262144 ≤ k then some (List.replicate k.toNat l).flatten else none
theorem DqAll.rep {I : Hp} {xs : List V} {ds : List PyData} (h : DqAll I xs ds) : ∀ k : Nat, DqAll I (List.replicate k xs).flatten (List.replicate k ds).flatten
  | 0 => .nil
  | k + 1 => by rw [List.replicate_succ, List.replicate_succ, List.flatten_cons, List.flatten_cons]; exact h.app (DqAll.rep h k)
/-- [..] * n, of a new list -/
theorem eo_rep {oa : Option (List α)} {ob : Option Int} (ha : EO X G a oa) (hb : ED X G b ob) : EO X G (.BinOp a .Mult b pos) (bind2 repG oa ob) := fun z hz => by
  obtain ⟨l, m, h1, h2, h3⟩ := bind2_get hz
  obtain ⟨⟨⟨hc, hc2⟩, hc3⟩, h3⟩ := ite_get h3
  subst h3
  refine (pe_op op_repR (ha l h1) (hb m h2)).imp fun σ H Q ⟨F, I, ps, R, q⟩ => ⟨F, I, ps, R, fun pa xs H1 I1 g1 R1 n1 n2 n3 hH d1 => ?_⟩
  -- the new list stands for others while the number is reckoned
  have R1' : RS X.K (upd F pa (.lst xs)) G σ H1 I1 ps := R1.frame (fun b o z => by
    by_cases c : b = pa
    · subst c; rw [upd_same] at z; cases z; exact hH
    · rw [upd_ne c] at z; exact R1.sf _ _ z) (fun i a ha => by rw [upd_ne (fun c : a = pa => n3 i (by rw [← c]; exact ha))]; exact R1.fo i a ha) (upd_iff n1)
  have sF : Same F (upd F pa (.lst xs)) := same_upd n2
  refine ⟨upd F pa (.lst xs), I1, ps, R1', fun w H2 I2 g2 R2 d2 => ?_⟩
  cases d2
  have hH2 : H2 pa = some (.lst xs) := R2.sf _ _ upd_same
  have g2' : Grow F I1 I2 := ⟨g2.same, fun a h => (g2.out a h).imp_right sF.free⟩
  have R2' : RS X.K F G σ H2 I2 ps := R2.frame (sF.trans R2.sf) R1.fo fun a z => (upd_iff (by
    cases w : I2 pa with
    | none => rfl
    | some o =>
      rcases g2.out pa (by rw [w]; simp) with h | h
      · exact absurd n1 h
      · rw [upd_same] at h; cases h) a z).symm
  have lx : xs.length = l.length := by rw [d1.len, List.length_map]
  refine ⟨pa, m, xs, rfl, rfl, hH2, by omega, by omega, ?_, fun p hp => q p _ _ I2 (g1.trans g2') (R2'.newOwn hp) (R2'.si.free hp) (R2'.sf.free hp) (fun i c => by obtain ⟨_, _, _, z⟩ := R2'.own_at c; rw [hp] at z; cases z) upd_same ?_⟩
  · have e1 : xs.length * m.toNat ≤ 64 * 262144 := Nat.mul_le_mul (by omega) (by omega)
    rw [sizeLine_eq]; omega
  · have := (DqAll_mono g2.same _ _ d1).rep m.toNat
    rw [show (List.replicate m.toNat (l.map enc)).flatten = ((List.replicate m.toNat l).flatten).map enc by rw [List.map_flatten, List.map_replicate]] at this
    exact this
end
end Lay

set_option Elab.async false
set_option linter.all false
set_option maxRecDepth 100000
/-! LayZ: zip of two lists, two tuples, or one of both, over the library's iterators of any kind (KE.GoesZip). -/
namespace Lay
open PySem PySem.Spec PyProof.Rows L2
open Lay.Enc (enc)

/-- true: a tuple, false: a list -/
def SqB (K : PySem.W.Frag) (b : Bool) (H : Hp) (a : Addr) (xs : List V) : Prop := match b with
  | true => SqT K H a xs
  | false => SqL K H a xs
def IterB (b : Bool) (h : Heap) (it l : Addr) (i : Nat) : Prop := match b with
  | true => h.IsTupleIter it l i
  | false => h.IsListIter it l i
def ObjB (b : Bool) (h : Heap) (l : Addr) (its : Array Value) : Prop := match b with
  | true => h.IsTuple l its
  | false => h.IsList l its
theorem IterB.at {b : Bool} {h h' : Heap} {it l : Addr} {i : Nat} (x : IterB b h it l i) (e : ∀ o, h.get? it = some o → h'.get? it = some o) : IterB b h' it l i := by
  cases b with
  | true => exact Heap.IsTupleIter.at x e
  | false => exact Heap.IsListIter.at x e
theorem IterB.obj {b : Bool} {h : Heap} {it l : Addr} {i : Nat} (x : IterB b h it l i) : ∃ o, h.get? it = some o ∧ ∀ v, o.data ≠ .cell v := by
  cases b with
  | true => obtain ⟨o, e, _, d⟩ := x; exact ⟨o, e, fun v z => by rw [d] at z; cases z⟩
  | false => obtain ⟨o, e, _, d⟩ := x; exact ⟨o, e, fun v z => by rw [d] at z; cases z⟩
theorem draws_b {prog : Program} {w : World} {A : Around} (hh : A.handled = none) (b : Bool) (it l : Addr) (ne : l ≠ it) (its : Array Value) :
    Draws prog w A it [it, l] its.size (fun i v => its[i]? = some v) (fun i h => IterB b h it l i ∧ ObjB b h l its) := by
  cases b with
  | true => exact Draws.tuple hh it l ne its
  | false => exact Draws.list hh it l ne its
section
variable {X : Cx} {pins : List (Addr × Obj)} {σ : L2.St} {H : Hp} {s : Shared} {a : Addr} {xs ys : List V} {b : Bool}
theorem sqB_items (I : Inv X pins σ H s) (h : SqB X.K b H a xs) : ∃ its : List Value, Vals xs its ∧ ObjB b s.heap a its.toArray := by
  cases b with
  | true => obtain ⟨its, r, p, _⟩ := I.tuple h; exact ⟨its, r, p⟩
  | false => obtain ⟨its, r, p, _⟩ := I.list h; exact ⟨its, r, p.isList⟩
theorem sqB_inj (I : Inv X pins σ H s) (h : SqB X.K b H a xs) (h' : SqB X.K b H a ys) : xs = ys := by
  cases b with
  | true => exact I.tuple_inj h h'
  | false => exact I.list_inj h h'
theorem objB_lt {h : Heap} {l : Addr} {its : Array Value} (x : ObjB b h l its) : l < h.objs.size := by
  cases b with
  | true => obtain ⟨o, e, _⟩ := x; exact Heap.lt_size e
  | false => obtain ⟨o, e, _⟩ := x; exact Heap.lt_size e
end
/-- the two at a and at c as they stand, item by item, in new pairs -/
def ItzB (K : PySem.W.Frag) (ba bc : Bool) (a c : Addr) : It where
  go i H := ∃ (xs ys : List V) (x y : V), SqB K ba H a xs ∧ SqB K bc H c ys ∧ xs[i]? = some x ∧ ys[i]? = some y
  yld i H v H' := ∃ T x y, v = .ref T ∧ H T = none ∧ H' = upd H T (.tup [x, y]) ∧ (∀ xs, SqB K ba H a xs → xs[i]? = some x) ∧ ∀ ys, SqB K bc H c ys → ys[i]? = some y
  stop i H := ∃ xs ys : List V, SqB K ba H a xs ∧ SqB K bc H c ys ∧ i ≤ xs.length ∧ i ≤ ys.length ∧ (i = xs.length ∨ i = ys.length)
/-- the five objects of a zip that was made at n -/
abbrev zipFp (n : Nat) : List Addr := [n + 4, n + 2, n + 3, n, n + 1]
def zipSt (n : Nat) (ba bc : Bool) (a c : Addr) (i : Nat) (h : Heap) : Prop :=
  IsZip h (n + 4) (n + 2) (n + 3) .none ∧ IsTupOf2 h (n + 2) (.ref n) (.ref (n + 1)) ∧ (∃ u v, IsTupOf2 h (n + 3) u v) ∧ IterB ba h n a i ∧ IterB bc h (n + 1) c i
theorem turn_zipB {P : Program} {w : World} {K : PySem.W.Frag} {es : List Expr} {kk : Nat} {tp : Pos} {ba bc : Bool} {a c n : Addr} (ha : a < n) (hc : c < n) :
    Turn P w K (.Tuple es kk tp) (ItzB K ba bc a c) (zipFp n) (n + 4) (zipSt n ba bc a c) := by
  have sep : ZipSep2 (n + 4) (n + 2) (n + 3) n (n + 1) [n, a] [n + 1, c] := zip_sep2 (N := n) (fp1 := [a]) (fp2 := [c]) (fun b h => by rw [List.mem_singleton.mp h]; exact ha) (fun b h => by rw [List.mem_singleton.mp h]; exact hc)
  have five : ∀ {b : Addr}, b ∈ zipFp n → b = n + 4 ∨ b = n + 2 ∨ b = n + 3 ∨ b = n ∨ b = n + 1 := fun h => by simpa [zipFp] using h
  refine { mem := by simp [zipFp], obj := ?_, keep := ?_, item := ?_, done := ?_, self := ?_ }
  · rintro i h ⟨z1, z2, ⟨u, v, z3⟩, z4, z5⟩ b hb
    rcases five hb with e | e | e | e | e <;> subst e
    · exact ⟨_, z1, fun _ z => nomatch z⟩
    · exact ⟨_, z2, fun _ z => nomatch z⟩
    · exact ⟨_, z3, fun _ z => nomatch z⟩
    · exact z4.obj
    · exact z5.obj
  · rintro i h h' ⟨z1, z2, ⟨u, v, z3⟩, z4, z5⟩ kp
    exact ⟨kp _ (by simp [zipFp]) _ z1, kp _ (by simp [zipFp]) _ z2, ⟨u, v, kp _ (by simp [zipFp]) _ z3⟩, z4.at (kp _ (by simp [zipFp])), z5.at (kp _ (by simp [zipFp]))⟩
  · intro X e1 e2 e3 calm i pins s σ H E I hf st hg
    subst e1 e2 e3
    obtain ⟨z1, z2, ⟨u, v, z3⟩, z4, z5⟩ := st
    obtain ⟨xs, ys, x, y, qa, qc, hx, hy⟩ := hg
    obtain ⟨ia, ra, pa⟩ := sqB_items I qa
    obtain ⟨ic, rc, pc⟩ := sqB_items I qc
    have hd : X.A.in1.handled = none := I.ok.hd calm
    have la : i < ia.toArray.size := by rw [List.size_toArray, ← ra.length]; exact (List.getElem?_eq_some_iff.mp hx).1
    have lc : i < ic.toArray.size := by rw [List.size_toArray, ← rc.length]; exact (List.getElem?_eq_some_iff.mp hy).1
    refine wpAny_pyNext_zipD2_item sep (draws_b hd ba n a (Nat.ne_of_lt ha) ia.toArray) (draws_b hd bc (n + 1) c (Nat.ne_of_lt (Nat.lt_succ_of_lt hc)) ic.toArray) z1 z2 z3 ⟨z4, pa⟩ ⟨z5, pc⟩ la lc
      fun u1 u2 h1 tk p1 p2 y1 y2 y4 y5 hT hsz kp => ?_
    have zlt : n + 4 < s.heap.objs.size := Heap.lt_size z1
    refine ⟨_, rfl, wpAny_letOwnedTupleGo_zip (s := { s with heap := h1, toks := tk }) y1 fun h2 y1' sb => ?_⟩
    -- the new pair
    obtain ⟨w1, hw1, r1⟩ := ra.get hx
    obtain ⟨w2, hw2, r2⟩ := rc.get hy
    have q1 : u1 = w1 := by
      have := p1; simp only [List.getElem?_toArray] at this; rw [hw1] at this; exact (Option.some.inj this).symm
    have q2 : u2 = w2 := by
      have := p2; simp only [List.getElem?_toArray] at this; rw [hw2] at this; exact (Option.some.inj this).symm
    subst q1 q2
    have hT2 : h2.get? s.heap.objs.size = some { cls := .type "tuple", data := .seq #[u1, u2] } := (sb.2 _ (Nat.ne_of_gt zlt)).trans hT
    have ok : ObjOk X.prog X.w (upd H s.heap.objs.size (.tup [x, y])) h2 s.heap.objs.size (.tup [x, y]) := ⟨small_line (by show 2 ≤ 8; decide), [u1, u2], .cons r1 (.cons r2 .nil), ⟨_, hT2, rfl, _, rfl⟩⟩
    have kp2 : ∀ b o, b ∉ zipFp n → s.heap.get? b = some o → h2.get? b = some o := fun b o hb e => by
      simp only [zipFp, List.mem_cons, List.not_mem_nil, or_false, not_or] at hb
      exact (sb.2 b hb.1).trans (kp b o hb.1 hb.2.2.1 hb.2.2.2.1 hb.2.2.2.2 e)
    have I1 : Inv X pins σ (upd H s.heap.objs.size (.tup [x, y])) { s with heap := h2, toks := tk } := I.turnedNew (t' := tk) (ch := zipFp n) kp2 hf (Nat.le_refl _) ok
    refine ⟨.ref s.heap.objs.size, _, I1, rfl, ⟨_, x, y, rfl, I.hok.fresh (Nat.le_refl _), rfl, fun l hl => ?_, fun l hl => ?_⟩, ⟨y1', ?_, ⟨u1, u2, ?_⟩, ?_, ?_⟩, fun b hb => ?_⟩
    · rw [sqB_inj I hl qa]; exact hx
    · rw [sqB_inj I hl qc]; exact hy
    · exact (sb.2 _ sep.TIz).trans (kp _ _ sep.TIz sep.TITO sep.TIi1 sep.TIi2 z2)
    · exact (sb.2 _ sep.TOz).trans y2
    · exact y4.1.at fun o e => (sb.2 _ sep.zi1.symm).trans e
    · exact y5.1.at fun o e => (sb.2 _ sep.zi2.symm).trans e
    · have lt : b < s.heap.objs.size := by
        rcases five hb with e | e | e | e | e <;> subst e
        · exact zlt
        · exact Heap.lt_size z2
        · exact Heap.lt_size z3
        · obtain ⟨o, e, _⟩ := z4.obj; exact Heap.lt_size e
        · obtain ⟨o, e, _⟩ := z5.obj; exact Heap.lt_size e
      rw [upd_ne (Nat.ne_of_lt lt)]
      exact (hf b hb).1
  · intro X e1 e2 e3 calm i pins s σ H E I hf st hg
    subst e1 e2 e3
    obtain ⟨z1, z2, ⟨u, v, z3⟩, z4, z5⟩ := st
    obtain ⟨xs, ys, qa, qc, l1, l2, hend⟩ := hg
    obtain ⟨ia, ra, pa⟩ := sqB_items I qa
    obtain ⟨ic, rc, pc⟩ := sqB_items I qc
    have hd : X.A.in1.handled = none := I.ok.hd calm
    have ea : ia.toArray.size = xs.length := by rw [List.size_toArray, ra.length]
    have ec : ic.toArray.size = ys.length := by rw [List.size_toArray, rc.length]
    refine wpAny_pyNext_zipD2_end sep (draws_b hd ba n a (Nat.ne_of_lt ha) ia.toArray) (draws_b hd bc (n + 1) c (Nat.ne_of_lt (Nat.lt_succ_of_lt hc)) ic.toArray) z1 z2 z3 ⟨z4, pa⟩ ⟨z5, pc⟩ (by omega) (by omega) (by rw [ea, ec]; exact hend)
      fun h1 tk kp => ⟨rfl, I.turnedL (t' := tk) (ch := zipFp n) (fun b o hb e => ?_) hf⟩
    simp only [zipFp, List.mem_cons, List.not_mem_nil, or_false, not_or] at hb
    exact kp b o hb.1 hb.2.2.1 hb.2.2.2.1 hb.2.2.2.2 e
  · exact fun A i s Q E st h => wpAny_pyIter_zip st.1 h

theorem begins_b (b : Bool) (l : Addr) (its : Array Value) : ∃ o, Begins (.ref l) o (fun h => ObjB b h l its) ∧ ∀ (h : Heap) (it : Addr), h.get? it = some o → IterB b h it l 0 := by
  cases b with
  | true => exact ⟨_, begins_tuple l its, fun h it e => ⟨_, e, rfl, rfl⟩⟩
  | false => exact ⟨_, begins_list l its, fun h it e => ⟨_, e, rfl, rfl⟩⟩
def iZipB (K : PySem.W.Frag) (ba bc : Bool) (ta : TA) : TI := fun σ H R => ta σ H fun vs H1 => ∃ a c xs ys, vs = [.ref a, .ref c] ∧ SqB K ba H1 a xs ∧ SqB K bc H1 c ys ∧ R (ItzB K ba bc a c) H1
theorem pi_zipB {X : Cx} {e e2 : Expr} {ta : TA} {p pos tp : Pos} {es : List Expr} {kk : Nat} (ba bc : Bool) (gl : Gl X "zip") (hm : X.mg "zip" = none) (hA : PA X [e, e2] ta)
    (s1 : starEach [e, e2] X.env = (false, eval e X.env) :: starEach [e2] X.env) (s2 : (backTo pos (starEach [e2] X.env)).any (·.1) = false) : PI X (.Tuple es kk tp) (.Call (.Name "zip" p) [e, e2] [] pos) (iZipB X.K ba bc ta) := ⟨fun pins s σ H R I h => by
  refine Call_ (ld_blt I gl hm PyProof.Rows.boot_zip (PyProof.Rows.callWith_type1 (thn (hA.run pos pins s σ H _ I h) fun us st q => ?_) s1 s2))
  obtain ⟨vs, H1, I1, rv, a, c, xs, ys, ev, qa, qc, q⟩ := q
  subst ev
  obtain ⟨u1, u2, eu, r1, r2⟩ := Vals.two rv
  subst eu
  have r1 : u1 = .ref a := r1
  have r2 : u2 = .ref c := r2
  subst r1 r2
  obtain ⟨ia, ra, pa⟩ := sqB_items I1 qa
  obtain ⟨ic, rc, pc⟩ := sqB_items I1 qc
  obtain ⟨o1, B1, w1⟩ := begins_b ba a ia.toArray
  obtain ⟨o2, B2, w2⟩ := begins_b bc c ic.toArray
  refine zip_begins2 B1 B2 pa pc fun h' z1 z2 z3 z4 z5 hz kp => wpAny_pyIter_zip z1 ?_
  exact ⟨_, zipFp st.heap.objs.size, _, _, H1, rfl, I1.kept (t' := st.toks) kp, turn_zipB (objB_lt pa) (objB_lt pc), ⟨z1, z2, ⟨_, _, z3⟩, w1 _ _ z4, w2 _ _ z5⟩, fun b hb => by
    have le : st.heap.objs.size ≤ b := by
      simp only [zipFp, List.mem_cons, List.not_mem_nil, or_false] at hb
      rcases hb with e | e | e | e | e <;> (rw [e]; first | exact Nat.le_refl _ | exact Nat.le_add_right _ _)
    exact I1.fpOk le (I1.hok.fresh le), q⟩⟩

/-! ### over data -/
/-- a list or a tuple of data -/
class SeqD (σ : Type) (α : outParam Type) [Enc α] [Enc σ] where
  kd : Bool
  ls : σ → List α
  ok : ∀ x, enc x = if kd then PyData.tuple ((ls x).map enc) else PyData.list ((ls x).map enc)
instance {α : Type} [Enc α] : SeqD (List α) α := ⟨false, id, fun _ => rfl⟩
instance {α : Type} [Enc α] : SeqD (Tup α) α := ⟨true, Tup.l, fun _ => rfl⟩
theorem SeqD.sq {σ α : Type} [Enc α] [Enc σ] [S : SeqD σ α] {K : PySem.W.Frag} {H : Hp} {v : V} {x : σ} (d : Dq H v (enc x)) : ∃ a xs, v = .ref a ∧ (∀ H', Same H H' → SqB K S.kd H' a xs) ∧ DqAll H xs ((S.ls x).map enc) := by
  rw [S.ok x] at d
  cases h : S.kd with
  | true =>
    rw [h, if_pos rfl] at d
    cases d with | tup k1 k2 => exact ⟨_, _, rfl, fun H' s => .inl (rd_mono s k1), k2⟩
  | false =>
    rw [h, if_neg (by decide)] at d
    cases d with | lst k1 k2 => exact ⟨_, _, rfl, fun H' s => .inl (rd_mono s k1), k2⟩
theorem it_zipS {X : Cx} {G : List Sl} {σ τ α β : Type} [Enc α] [Enc β] [Enc σ] [Enc τ] [S : SeqD σ α] [T : SeqD τ β] {e e2 : Expr} {N : List Str} {sc : Scope} {fs : Option Scope} {k : Nat} {p pos tpos : Pos} {elts : List Expr} {kk : Nat} {o : Option σ} {o2 : Option τ}
    (C : Ctx X N sc fs k) (hg : glbB sc "zip" = true) (hm : X.mg "zip" = none) (h : ED X G e o) (h' : ED X G e2 o2)
    (hs : starEach [e, e2] X.env = (false, eval e X.env) :: starEach [e2] X.env := by rfl) (hs2 : starEach [e2] X.env = [(false, eval e2 X.env)] := by rfl) (hpl : (backTo pos (starEach [e2] X.env)).any (·.1) = false := by rfl) :
    IT X G (.Tuple elts kk tpos) (.Call (.Name "zip" p) [e, e2] [] pos) (lift2 (fun x y => zipL (S.ls x) (T.ls y)) o o2) := fun l hl => by
  obtain ⟨t, u, h1, h2, h3⟩ := lift2_get hl
  subst h3
  have pa : PA X [e, e2] (tA X.K G [enc t, enc u]) := ad_cons h (ad_cons h' ad_nil hs2) hs _ (by rw [h1, h2]; rfl)
  refine (pi_len (pi_zipB S.kd T.kd (glbB_gl C.s hg).1 hm pa hs hpl) fun σ H R R' w ⟨F, I, ps, r, q⟩ => ⟨F, I, ps, r, fun v H' I' g r' d => by obtain ⟨a, b, xs, ys, e, z1, z2, q⟩ := q v H' I' g r' d; exact ⟨a, b, xs, ys, e, z1, z2, w _ _ q⟩⟩).imp
    fun σ H R ⟨F, I, ps, r, q⟩ => ⟨F, I, ps, r, fun vs H' I' g r' d => ?_⟩
  cases d with
  | cons d1 d2 =>
    cases d2 with
    | cons d2 d3 =>
      cases d3
      obtain ⟨a1, xs, e1, k1, k2⟩ := SeqD.sq (K := X.K) d1
      obtain ⟨a2, ys, e2, k3, k4⟩ := SeqD.sq (K := X.K) d2
      subst e1 e2
      have lx : xs.length = (S.ls t).length := by rw [k2.len, List.length_map]
      have ly : ys.length = (T.ls u).length := by rw [k4.len, List.length_map]
      have ln : (zipL (S.ls t) (T.ls u)).length = min (S.ls t).length (T.ls u).length := by unfold zipL; rw [List.length_zipWith]
      refine ⟨_, _, _, _, rfl, k1 _ r'.si, k3 _ r'.si, fun lo => q _ _ I' g r' ⟨fun i d H s hd => ?_, fun H s => ?_⟩ ?_⟩
      · have hi : i < min (S.ls t).length (T.ls u).length := by
          have := (List.getElem?_eq_some_iff.mp hd).1
          rw [List.length_map, ln] at this; exact this
        have hx : (S.ls t)[i]? = some ((S.ls t)[i]'(by omega)) := List.getElem?_eq_getElem (by omega)
        have hy : (T.ls u)[i]? = some ((T.ls u)[i]'(by omega)) := List.getElem?_eq_getElem (by omega)
        unfold zipL at hd
        rw [List.getElem?_map, List.getElem?_zipWith, hx, hy] at hd
        have hd := Option.some.inj hd
        subst hd
        obtain ⟨v, hv, dv⟩ := k2.at (show ((S.ls t).map enc)[i]? = some (enc ((S.ls t)[i]'(by omega))) by rw [List.getElem?_map, hx]; rfl)
        obtain ⟨w, hw, dw⟩ := k4.at (show ((T.ls u).map enc)[i]? = some (enc ((T.ls u)[i]'(by omega))) by rw [List.getElem?_map, hy]; rfl)
        refine ⟨⟨_, _, v, w, k1 _ s, k3 _ s, hv, hw⟩, fun x H' y => ?_⟩
        obtain ⟨T, z, z', e1, e2, e3, e4, e5⟩ := y
        have e4 := e4 _ (k1 _ s)
        have e5 := e5 _ (k3 _ s)
        rw [hv] at e4; cases e4
        rw [hw] at e5; cases e5
        subst e1
        have m := same_upd (o := HO.tup [v, w]) (s.free e2)
        exact .inr ⟨T, _, e2, e3, .tup (.inl upd_same) (.cons (Dq_mono m _ _ dv) (.cons (Dq_mono m _ _ dw) .nil))⟩
      · rw [List.length_map, ln]
        exact ⟨_, _, k1 _ s, k3 _ s, by omega, by omega, by omega⟩
      · rw [List.length_map, ln]
        have : xs.length ≤ sizeLine := by
          have := k1 _ r'.si
          cases hk : S.kd with
          | true => rw [hk] at this; exact (lo _ _).2 this
          | false => rw [hk] at this; exact (lo _ _).1 this
        omega
end Lay

set_option Elab.async false
set_option linter.all false
set_option maxRecDepth 100000
/-! Lay8: equality, in, repr, stores to own lists, list(range), gcd, raise. -/
namespace Lay
open PySem PySem.Spec PyProof.Rows L2
open Lay.Enc (enc)

/-! ### data of bounded depth that == and repr read -/
class Sh (α : Type) [Enc α] where
  dp : Nat
  lay : ∀ x : α, (enc x).canLay0 = true
  dep : ∀ x : α, (enc x).depth ≤ dp
instance : Sh Int := ⟨0, fun _ => rfl, fun _ => Nat.le_refl _⟩
instance : Sh Bool := ⟨0, fun _ => rfl, fun _ => Nat.le_refl _⟩
instance : Sh Unit := ⟨0, fun _ => rfl, fun _ => Nat.le_refl _⟩
theorem layAll {α : Type} [Enc α] [S : Sh α] : ∀ l : List α, PyData.canLayAll0 (l.map enc) = true
  | [] => rfl
  | x :: xs => by
    show (PyData.canLay0 (enc x) && PyData.canLayAll0 (xs.map enc)) = true
    rw [S.lay x, layAll xs]; rfl
theorem depAll {α : Type} [Enc α] [S : Sh α] : ∀ l : List α, PyData.depthAll (l.map enc) ≤ S.dp
  | [] => Nat.zero_le _
  | x :: xs => by
    show max (PyData.depth (enc x)) (PyData.depthAll (xs.map enc)) ≤ _
    have h1 := S.dep x
    have h2 := depAll xs
    omega
instance {α : Type} [Enc α] [S : Sh α] : Sh (List α) := ⟨S.dp + 1, fun l => layAll l, fun l => Nat.succ_le_succ (depAll l)⟩
instance {α : Type} [Enc α] [S : Sh α] : Sh (Tup α) := ⟨S.dp + 1, fun t => layAll t.l, fun t => Nat.succ_le_succ (depAll t.l)⟩
instance {α : Type} [Enc α] [S : Sh α] : Sh (Option α) := ⟨S.dp, fun o => by cases o with | none => rfl | some x => exact S.lay x, fun o => by cases o with | none => exact Nat.zero_le _ | some x => exact S.dep x⟩
instance {α β : Type} [Enc α] [Enc β] [S : Sh α] [T : Sh β] : Sh (T2 α β) := ⟨max S.dp T.dp + 1, fun t => by
  show (PyData.canLay0 (enc t.a) && (PyData.canLay0 (enc t.b) && true)) = true
  rw [S.lay, T.lay]; rfl, fun t => by
  show max (PyData.depth (enc t.a)) (max (PyData.depth (enc t.b)) 0) + 1 ≤ _
  have := S.dep t.a; have := T.dep t.b; omega⟩
instance {α β γ : Type} [Enc α] [Enc β] [Enc γ] [S : Sh α] [T : Sh β] [U : Sh γ] : Sh (T3 α β γ) := ⟨max S.dp (max T.dp U.dp) + 1, fun t => by
  show (PyData.canLay0 (enc t.a) && (PyData.canLay0 (enc t.b) && (PyData.canLay0 (enc t.c) && true))) = true
  rw [S.lay, T.lay, U.lay]; rfl, fun t => by
  show max (PyData.depth (enc t.a)) (max (PyData.depth (enc t.b)) (max (PyData.depth (enc t.c)) 0)) + 1 ≤ _
  have := S.dep t.a; have := T.dep t.b; have := U.dep t.c; omega⟩
instance {α β γ δ : Type} [Enc α] [Enc β] [Enc γ] [Enc δ] [S : Sh α] [T : Sh β] [U : Sh γ] [W : Sh δ] : Sh (T4 α β γ δ) := ⟨max S.dp (max T.dp (max U.dp W.dp)) + 1, fun t => by
  show (PyData.canLay0 (enc t.a) && (PyData.canLay0 (enc t.b) && (PyData.canLay0 (enc t.c) && (PyData.canLay0 (enc t.d) && true)))) = true
  rw [S.lay, T.lay, U.lay, W.lay]; rfl, fun t => by
  show max (PyData.depth (enc t.a)) (max (PyData.depth (enc t.b)) (max (PyData.depth (enc t.c)) (max (PyData.depth (enc t.d)) 0))) + 1 ≤ _
  have := S.dep t.a; have := T.dep t.b; have := U.dep t.c; have := W.dep t.d; omega⟩
/-- == on data is equality -/
class EqL (α : Type) [Enc α] [DecidableEq α] : Prop where
  eqv : ∀ x y : α, PyData.eqv (enc x) (enc y) = decide (x = y)
instance : EqL Int := ⟨fun x y => by show (x == y) = _; by_cases h : x = y <;> simp [h]⟩
instance : EqL Bool := ⟨fun x y => by cases x <;> cases y <;> rfl⟩
instance : EqL Unit := ⟨fun x y => rfl⟩
theorem eqvAll_eq {α : Type} [Enc α] [DecidableEq α] [S : EqL α] : ∀ l m : List α, PyData.eqvAll (l.map enc) (m.map enc) = decide (l = m)
  | [], [] => rfl
  | [], y :: ys => rfl
  | x :: xs, [] => rfl
  | x :: xs, y :: ys => by
    show (PyData.eqv (enc x) (enc y) && PyData.eqvAll (xs.map enc) (ys.map enc)) = _
    rw [S.eqv, eqvAll_eq xs ys]
    by_cases h1 : x = y <;> by_cases h2 : xs = ys <;> simp [h1, h2]
instance {α : Type} [Enc α] [DecidableEq α] [EqL α] : EqL (List α) := ⟨fun l m => eqvAll_eq l m⟩
instance {α : Type} [Enc α] [DecidableEq α] [EqL α] : EqL (Tup α) := ⟨fun ⟨l⟩ ⟨m⟩ => by
  show PyData.eqvAll (l.map enc) (m.map enc) = _
  rw [eqvAll_eq]; simp⟩
theorem eqv_none {d : PyData} (h : d ≠ .none) : PyData.eqv .none d = false ∧ PyData.eqv d .none = false := by
  cases d <;> first | exact absurd rfl h | exact ⟨rfl, rfl⟩
instance {α : Type} [Enc α] [DecidableEq α] [S : EqL α] [N : NonNone α] : EqL (Option α) := ⟨fun x y => by
  cases x with
  | none => cases y with
    | none => rfl
    | some y => exact (eqv_none (N.ne y)).1
  | some x => cases y with
    | none => exact (eqv_none (N.ne x)).2
    | some y => show PyData.eqv (enc x) (enc y) = _; rw [S.eqv]; simp⟩
instance {α β : Type} [Enc α] [Enc β] [DecidableEq α] [DecidableEq β] [S : EqL α] [T : EqL β] : EqL (T2 α β) := ⟨fun ⟨a, b⟩ ⟨c, d⟩ => by
  show (PyData.eqv (enc a) (enc c) && (PyData.eqv (enc b) (enc d) && true)) = _
  rw [S.eqv, T.eqv]; by_cases h1 : a = c <;> by_cases h2 : b = d <;> simp [h1, h2]⟩
instance {α β γ : Type} [Enc α] [Enc β] [Enc γ] [DecidableEq α] [DecidableEq β] [DecidableEq γ] [S : EqL α] [T : EqL β] [U : EqL γ] : EqL (T3 α β γ) := ⟨fun ⟨a, b, c⟩ ⟨d, e, f⟩ => by
  show (PyData.eqv (enc a) (enc d) && (PyData.eqv (enc b) (enc e) && (PyData.eqv (enc c) (enc f) && true))) = _
  rw [S.eqv, T.eqv, U.eqv]; by_cases h1 : a = d <;> by_cases h2 : b = e <;> by_cases h3 : c = f <;> simp [h1, h2, h3]⟩
instance {α β γ δ : Type} [Enc α] [Enc β] [Enc γ] [Enc δ] [DecidableEq α] [DecidableEq β] [DecidableEq γ] [DecidableEq δ] [S : EqL α] [T : EqL β] [U : EqL γ] [W : EqL δ] : EqL (T4 α β γ δ) := ⟨fun ⟨a, b, c, x⟩ ⟨d, e, f, y⟩ => by
  show (PyData.eqv (enc a) (enc d) && (PyData.eqv (enc b) (enc e) && (PyData.eqv (enc c) (enc f) && (PyData.eqv (enc x) (enc y) && true)))) = _
  rw [S.eqv, T.eqv, U.eqv, W.eqv]; by_cases h1 : a = d <;> by_cases h2 : b = e <;> by_cases h3 : c = f <;> by_cases h4 : x = y <;> simp [h1, h2, h3, h4]⟩
theorem shaped_of {α : Type} [Enc α] [S : Sh α] (h : S.dp ≤ 60) (x : α) : SeqAt.shaped (enc x) = true := by
  unfold SeqAt.shaped
  have h2 : PyData.depth (enc x) ≤ 64 := Nat.le_trans (Nat.le_trans (S.dep x) h) (by decide)
  rw [S.lay x, decide_eq_true h2]; rfl

section
variable {X : Cx} {G : List Sl} {α β : Type} [Enc α] [Enc β] {a b e : Expr} {pos p : Pos} {N : List Str} {sc : Scope} {fs : Option Scope} {k : Nat}
theorem ec_eqD [DecidableEq α] [EqL α] [S : Sh α] {oa ob : Option α} (C : Ctx X N sc fs k) (ha : ED X G a oa) (hb : ED X G b ob) (hd : S.dp ≤ 60 := by decide) : EC X G .Eq a b (lift2 (fun x y => decide (x = y)) oa ob) :=
  ec_of (op_eqD C.rm.units) (fun x y F G σ H I ps v w Q R dv dw q => ⟨_, _, Dq_dp _ _ (Dq_mono R.si _ _ dv), Dq_dp _ _ (Dq_mono R.si _ _ dw), shaped_of hd x, shaped_of hd y, by rw [EqL.eqv]; exact q _ _ _ Grow.refl R (.bl _)⟩) (nomark _) ha hb
theorem ec_neD [DecidableEq α] [EqL α] [S : Sh α] {oa ob : Option α} (C : Ctx X N sc fs k) (ha : ED X G a oa) (hb : ED X G b ob) (hd : S.dp ≤ 60 := by decide) : EC X G .NotEq a b (lift2 (fun x y => !decide (x = y)) oa ob) :=
  ec_of (op_neD C.rm.units) (fun x y F G σ H I ps v w Q R dv dw q => ⟨_, _, Dq_dp _ _ (Dq_mono R.si _ _ dv), Dq_dp _ _ (Dq_mono R.si _ _ dw), shaped_of hd x, shaped_of hd y, by rw [EqL.eqv]; exact q _ _ _ Grow.refl R (.bl _)⟩) (nomark _) ha hb
theorem DqAll_toDp {K : PySem.W.Frag} {H I : Hp} {xs : List V} {ds : List PyData} (s : Same I H) (h : DqAll I xs ds) : DpAll K H xs ds := DqAll_dp _ _ (DqAll_mono s _ _ h)
theorem any_mem [DecidableEq α] [EqL α] (l : List α) (x : α) : ((l.map enc).any fun z => PyData.eqv z (enc x)) = decide (x ∈ l) := by
  induction l with
  | nil => simp
  | cons y ys ih =>
    rw [List.map_cons, List.any_cons, ih, EqL.eqv]
    by_cases h1 : y = x
    · simp [h1]
    · have h2 : ¬ x = y := fun h => h1 h.symm
      simp [h1, h2]
theorem tOp_in {K : PySem.W.Frag} {r : R2} {d : PyData} {ds : List PyData} {c : Bool} (h : ∀ (F : Hp) (G : List Sl) (σ : L2.St) (H I : Hp) (ps : Nat → Option Addr) (v : V) (ad : Addr) (xs : List V) (Q : VK), RS K F G σ H I ps → Dq I v d → SqL K H ad xs → DqAll I xs ds → Q (.bl c) H → r v (.ref ad) H Q)
    (σ : L2.St) (H : Hp) (Q : VK) (t : tD K G (.bool c) σ H Q) : tOp r (tD K G d) (tR K G ds) σ H Q := by
  obtain ⟨F, I, ps, R, q⟩ := t
  exact ⟨F, I, ps, R, fun v H1 I1 g1 R1 dv => ⟨F, I1, ps, R1, fun ad xs H2 I2 g2 R2 s dx => h F G σ H2 I2 ps v ad xs Q R2 (Dq_mono g2.same _ _ dv) s dx (q _ _ _ (g1.trans g2) R2 (.bl _))⟩⟩
theorem ec_in [DecidableEq α] [EqL α] [S : Sh α] {oa : Option α} {ob : Option (List α)} (C : Ctx X N sc fs k) (ha : ED X G a oa) (hb : ER X G b ob) (hm : behindInMarks .In b = false := by rfl) (hd : S.dp ≤ 59 := by decide) : EC X G .In a b (lift2 (fun x l => decide (x ∈ l)) oa ob) := fun c hc => by
  obtain ⟨x, l, h1, h2, h3⟩ := lift2_get hc
  subst h3
  refine ⟨_, _, _, op_inD (by have := C.rm.un; omega), ha x h1, hb l h2, hm, tOp_in fun F G σ H I ps v ad xs Q R dv s dx q => ?_⟩
  refine ⟨_, _, Dq_dp _ _ (Dq_mono R.si _ _ dv), .lst s (DqAll_toDp R.si dx), shaped_of (Nat.le_trans hd (by decide)) x, shaped_of (α := List α) (Nat.succ_le_succ hd) l, ?_⟩
  rw [any_mem]; exact q
theorem ec_notIn [DecidableEq α] [EqL α] [S : Sh α] {oa : Option α} {ob : Option (List α)} (C : Ctx X N sc fs k) (ha : ED X G a oa) (hb : ER X G b ob) (hm : behindInMarks .NotIn b = false := by rfl) (hd : S.dp ≤ 59 := by decide) : EC X G .NotIn a b (lift2 (fun x l => !decide (x ∈ l)) oa ob) := fun c hc => by
  obtain ⟨x, l, h1, h2, h3⟩ := lift2_get hc
  subst h3
  refine ⟨_, _, _, op_notInD (by have := C.rm.un; omega), ha x h1, hb l h2, hm, tOp_in fun F G σ H I ps v ad xs Q R dv s dx q => ?_⟩
  refine ⟨_, _, Dq_dp _ _ (Dq_mono R.si _ _ dv), .lst s (DqAll_toDp R.si dx), shaped_of (Nat.le_trans hd (by decide)) x, shaped_of (α := List α) (Nat.succ_le_succ hd) l, ?_⟩
  rw [any_mem]; exact q

/-! ### repr -/
def reprD (d : PyData) : Option Str := if d.showable = true ∧ d.shown.length ≤ sizeLine then some d.shown else none
theorem cr_repr (C : Ctx X N sc fs k) : CallR X (.builtin "repr") (fun vs H Q => ∃ v d, vs = [v] ∧ Dp X.K H v d ∧ d.canLay0 = true ∧ d.depth ≤ 60 ∧ d.showable = true ∧ d.shown.length ≤ sizeLine ∧ Q (.str d.shown) H) := by
  intro pins s σ H vs us Q I r h
  obtain ⟨v, d, e, dv, lay, dep, shw, len, q⟩ := h
  subst e
  obtain ⟨u, eu, ru⟩ := vals1 r
  subst eu
  have nd := PyData.hasDict_of_canLay d lay
  have un := C.rm.un
  cases dv with
  | non => cases ru; exact PySem.P.repr_of_none ⟨.str _, H, I.tok _, ⟨_, rfl⟩, q⟩
  | bl b => cases ru; exact PySem.P.repr_of_bool ⟨.str _, H, I.tok _, ⟨_, rfl⟩, q⟩
  | int i => obtain ⟨t, rfl⟩ := ru; exact PySem.P.repr_of_int (of_decide_eq_true shw) ⟨.str _, H, I.tok _, ⟨_, rfl⟩, q⟩
  | str x => obtain ⟨t, rfl⟩ := ru; exact PySem.P.repr_of_str ⟨.str _, H, I.tok _, ⟨_, rfl⟩, q⟩ len
  | lst h1 h2 =>
    have dv : Dp X.K H _ _ := .lst h1 h2
    obtain ⟨as, rd⟩ := Dp.reads I _ _ _ dv ru
    cases ru
    exact repr_of_reads' rd shw (PyData.noDict_hsm nd) C.gd (by omega) (fun _ _ e => e) (fun h' u tk hk => ⟨.str _, H, I.kept hk, ⟨_, rfl⟩, q⟩) len
  | tup h1 h2 =>
    have dv : Dp X.K H _ _ := .tup h1 h2
    obtain ⟨as, rd⟩ := Dp.reads I _ _ _ dv ru
    cases ru
    exact repr_of_reads' rd shw (PyData.noDict_hsm nd) C.gd (by omega) (fun _ _ e => e) (fun h' u tk hk => ⟨.str _, H, I.kept hk, ⟨_, rfl⟩, q⟩) len
theorem ed_repr [S : Sh α] {o : Option α} (C : Ctx X N sc fs k) (hg : glbB sc "repr" = true) (hm : X.mg "repr" = none) (h : ED X G e o) (hs : starEach [e] X.env = (false, eval e X.env) :: starEach [] X.env := by rfl) (hd : S.dp ≤ 60 := by decide) :
    ED X G (.Call (.Name "repr" p) [e] [] pos) (o.bind fun x => reprD (enc x)) := fun z hz => by
  obtain ⟨x, h1, h2⟩ := bind_get hz
  obtain ⟨⟨h3, h4⟩, h5⟩ := ite_get h2
  subst h5
  refine (b1 (id := "repr") C hg hm (by decide +kernel) (cr_repr C) (h x h1) (by decide) hs).imp (tD_b1 fun F G σ H I ps v Q R d q => ?_)
  exact ⟨v, _, rfl, Dq_dp _ _ (Dq_mono R.si _ _ d), S.lay x, Nat.le_trans (S.dep x) hd, h3, h4, q _ _ _ Grow.refl R (.str _)⟩

/-! ### math.gcd, list(range(..)) -/
def gcdI (i j : Int) : Int := ((Nat.gcd i.natAbs j.natAbs : Nat) : Int)
theorem ed_gcd {oa ob : Option Int} (C : Ctx X N sc fs k) (hg : glbB sc "gcd" = true) (hm : X.mg "gcd" = some (.builtin "math.gcd")) (ha : ED X G a oa) (hb : ED X G b ob)
    (hs : starEach [a, b] X.env = (false, eval a X.env) :: starEach [b] X.env := by rfl) (hs2 : starEach [b] X.env = (false, eval b X.env) :: starEach [] X.env := by rfl) (hp : (backTo pos (starEach [b] X.env)).any (·.1) = false := by rfl) :
    ED X G (.Call (.Name "gcd" p) [a, b] [] pos) (lift2 gcdI oa ob) := fun z hz => by
  obtain ⟨i, j, h1, h2, h3⟩ := lift2_get hz
  subst h3
  obtain ⟨gl, db⟩ := glbB_gl C.s hg
  refine (pe_callBfun cr_gcd gl hm (pa_cons (ha i h1) (pa_cons (hb j h2) pa_nil hs2) hs) db hs hp).imp fun σ H Q ⟨F, I, ps, R, q⟩ => ⟨F, I, ps, R, fun v H1 I1 g1 R1 d1 => ⟨F, I1, ps, R1, fun u H2 I2 g2 R2 d2 => ?_⟩⟩
  cases d1; cases d2
  exact ⟨i, j, rfl, q _ _ _ (g1.trans g2) R2 (.int _)⟩
theorem eo_lrng1 {p2 pos2 : Pos} {o : Option Int} (C : Ctx X N sc fs k) (hg : glbB sc "list" = true) (hm : X.mg "list" = none) (hg2 : glbB sc "range" = true) (hm2 : X.mg "range" = none) (h : ED X G e o)
    (hs : starEach [e] X.env = (false, eval e X.env) :: starEach [] X.env := by rfl) (hs2 : starEach [.Call (.Name "range" p2) [e] [] pos2] X.env = (false, eval (.Call (.Name "range" p2) [e] [] pos2) X.env) :: starEach [] X.env := by rfl) :
    EO X G (.Call (.Name "list" p) [.Call (.Name "range" p2) [e] [] pos2] [] pos) (o.bind rng1) := fun l hl => by
  obtain ⟨j, h1, h2⟩ := bind_get hl
  obtain ⟨hc, h2⟩ := ite_get h2
  subst h2
  refine (pe_listRg C.calm (glbB_gl C.s hg).1 hm (prg_1 (glbB_gl C.s hg2).1 hm2 (h j h1) hs) hs2).imp fun σ H Q ⟨F, I, ps, R, q⟩ => ⟨F, I, ps, R, fun v H1 I1 g1 R1 d => ?_⟩
  cases d
  have l24 : (sizeLine : Int) = 16777216 := by rw [sizeLine_eq]; rfl
  refine ⟨j, rfl, ⟨by omega, by omega, by omega, by omega, by omega⟩, fun p hp => q p _ _ I1 g1 (R1.newOwn hp) (R1.si.free hp) (R1.sf.free hp) (fun i c => by obtain ⟨_, _, _, z⟩ := R1.own_at c; rw [hp] at z; cases z) upd_same ?_⟩
  rw [show rgV 0 j = (rngL 0 j.toNat).map V.int by unfold rgV rngL; rw [List.map_map]; simp]
  exact of_ints _
theorem eo_lrng2 {e2 : Expr} {p2 pos2 : Pos} {o o2 : Option Int} (C : Ctx X N sc fs k) (hg : glbB sc "list" = true) (hm : X.mg "list" = none) (hg2 : glbB sc "range" = true) (hm2 : X.mg "range" = none) (h : ED X G e o) (h' : ED X G e2 o2)
    (hs : starEach [e, e2] X.env = (false, eval e X.env) :: starEach [e2] X.env := by rfl) (hs1 : starEach [e2] X.env = (false, eval e2 X.env) :: starEach [] X.env := by rfl) (hp : (backTo pos2 (starEach [e2] X.env)).any (·.1) = false := by rfl)
    (hs2 : starEach [.Call (.Name "range" p2) [e, e2] [] pos2] X.env = (false, eval (.Call (.Name "range" p2) [e, e2] [] pos2) X.env) :: starEach [] X.env := by rfl) :
    EO X G (.Call (.Name "list" p) [.Call (.Name "range" p2) [e, e2] [] pos2] [] pos) (bind2 rng2 o o2) := fun l hl => by
  obtain ⟨i, j, h1, h2, h3⟩ := bind2_get hl
  obtain ⟨hc, h3⟩ := ite_get h3
  subst h3
  refine (pe_listRg C.calm (glbB_gl C.s hg).1 hm (prg_2 (glbB_gl C.s hg2).1 hm2 (h i h1) (h' j h2) hs hs1 hp) hs2).imp fun σ H Q ⟨F, I, ps, R, q⟩ => ⟨F, I, ps, R, fun v H1 I1 g1 R1 d => ⟨F, I1, ps, R1, fun v2 H2 I2 g2 R2 d2 => ?_⟩⟩
  cases d; cases d2
  have l24 : (sizeLine : Int) = 16777216 := by rw [sizeLine_eq]; rfl
  refine ⟨i, j, rfl, rfl, ⟨by omega, by omega, by omega, by omega, by omega⟩, fun p hp => q p _ _ I2 (g1.trans g2) (R2.newOwn hp) (R2.si.free hp) (R2.sf.free hp) (fun i c => by obtain ⟨_, _, _, z⟩ := R2.own_at c; rw [hp] at z; cases z) upd_same ?_⟩
  rw [show rgV i j = (rngL i (j - i).toNat).map V.int by unfold rgV rngL; rw [List.map_map]; rfl]
  exact of_ints _
end

/-! ### stores to an own list -/
section
variable {X : Cx} {G : List Sl} {S B R : Type} [Enc R] {P : S → List Sl} {PB : B → List Sl} {own : Rk} {rest : List Stmt} {N : List Str} {sc : Scope} {fs : Option Scope} {k i : Nat} {x : Str} {α : Type} [Enc α] {e b : Expr} {pos p p2 sp : Pos}
theorem sv_raise {exc : Option Expr} : SV X G (.Raise exc none pos :: rest) P PB own (none : Option (Out S B R)) := sv_none
def appG {α : Type} (l : List α) (x : α) : Option (List α) := if l.length < sizeLine then some (l ++ [x]) else none
theorem own_slot {K : PySem.W.Frag} {F H I : Hp} {σ : L2.St} {ps : Nat → Option Addr} (R : RS K F G σ H I ps) {ds : List PyData} (hs : slAt G i = .own ds) : ∃ a xs, ps i = some a ∧ σ[i]? = some (some (.ref a)) ∧ H a = some (.lst xs) ∧ DqAll I xs ds := by
  have hi : i < G.length := by
    by_cases c : i < G.length
    · exact c
    · rw [slAt_out (by omega)] at hs; cases hs
  obtain ⟨w, k1, k2⟩ := R.sl i hi
  rw [hs] at k2
  obtain ⟨a, xs, e1, e2, n, hH, d⟩ := k2
  subst e2
  exact ⟨a, xs, e1, k1, hH, d⟩
theorem pe_name (C : Ctx X N sc fs k) (hv : visB N sc i x = true) : PE X (.Name x p) (tVar i) := by
  unfold visB at hv
  simp only [Bool.and_eq_true, decide_eq_true_eq, Bool.not_eq_true'] at hv
  obtain ⟨⟨⟨h1, hv⟩, hd⟩, hcd⟩ := hv
  exact pe_var (by rw [C.n]; exact h1) (by rw [C.s]; unfold Vis; split at hv <;> simp_all) hd hcd
/-- x.append(e) -/
theorem sv_app {l : List α} {oe : Option α} {kk : List α → Option (Out S B R)} {ap cp : Pos} (C : Ctx X N sc fs k) (hv : visB N sc i x = true) (hsl : slAt G i = .own (l.map enc)) (he : ED X G e oe) (hk : ∀ v : List α, SV X (G.set i (.own (v.map enc))) rest P PB own (kk v))
    (hfew : ((backTo cp (starEach [e] X.env)).all (fun x => !x.1) && (backToKw cp (keywordEach [] X.env)).all (fun x => x.1.isSome) && decide (([e] : List Expr).length + ([] : List Keyword).length + (if ([] : List Keyword).isEmpty then 0 else 1) < 30)) = true := by rfl) (hline : (ap.endLine == cp.line) = true := by rfl)
    (hs : starEach [e] X.env = (false, eval e X.env) :: starEach [] X.env := by rfl) : SV X G (.Expr (.Call (.Attribute (.Name x p) "append" ap) [e] [] cp) sp :: rest) P PB own ((oe.bind (appG l)).bind kk) := fun y hy => by
  obtain ⟨l', h1, h2⟩ := bind_get hy
  obtain ⟨v, h3, h4⟩ := bind_get h1
  obtain ⟨hc, h5⟩ := ite_get h4
  subst h5
  refine (pss_cons (ps_expr (pe_bm PySem.F.plainAttrs_list PySem.F.slot_list_append PySem.F.type_list_append mt_append (pe_name C hv) (pa_cons (he v h3) pa_nil hs) rfl hfew hline hs)) (hk _ y h2)).imp fun D σ H ⟨F, I, ps, Rr, q⟩ => ?_
  obtain ⟨a, xs, e1, e2, hH, d⟩ := own_slot Rr hsl
  refine ⟨_, e2, .inl ⟨rfl, _, .inl (.inl hH)⟩, F, I, ps, Rr, fun w H1 I1 g1 R1 d1 => ?_⟩
  obtain ⟨a', xs', f1, _, hH1, d'⟩ := own_slot R1 hsl
  rw [e1] at f1; cases f1
  refine ⟨a, xs', w, rfl, rfl, hH1, by rw [d'.len, List.length_map]; exact hc, tS_after (H := H) (ps := ps) (σ := σ) g1 (R1.wrOwn (es := (l ++ [v]).map enc) e1 ?_) q⟩
  rw [List.map_append]; exact d'.app (.cons d1 .nil)
/-- x[j] = e -/
def setG {α : Type} (l : List α) (i : Int) (x : α) : Option (List α) := (ixN l.length i).bind fun j => some (l.set j x)
theorem sv_sti {l : List α} {oe : Option α} {oi : Option Int} {kk : List α → Option (Out S B R)} {tp : Pos} (C : Ctx X N sc fs k) (hv : visB N sc i x = true) (hsl : slAt G i = .own (l.map enc)) (he : ED X G e oe) (hi : ED X G b oi) (hk : ∀ v : List α, SV X (G.set i (.own (v.map enc))) rest P PB own (kk v))
    (hs : swapsWithSole [.Subscript (.Name x p) b tp] e sp.line X.env = pure false := by rfl) (hw : swappedStores [.Subscript (.Name x p) b tp] e X.env = pure none := by rfl) (h1 : (assignEach [.Subscript (.Name x p) b tp] X.env).map (·.2) = [assign (.Subscript (.Name x p) b tp) X.env] := by rfl)
    (ha : ∀ v, assign (.Subscript (.Name x p) b tp) X.env v = (do
      let ov ← holding [v] (eval (.Name x p) X.env)
      let iv ← holding [v, ov] (eval b X.env)
      standAt tp
      holding [v, ov, iv] (setItem ov iv v)
      release [v, ov, iv] []) := by intro _; rfl) :
    SV X G (.Assign [.Subscript (.Name x p) b tp] e sp :: rest) P PB own ((bind2 (fun v j => setG l j v) oe oi).bind kk) := fun y hy => by
  obtain ⟨l', h2, h3⟩ := bind_get hy
  obtain ⟨v, j, h4, h5, h6⟩ := bind2_get h2
  obtain ⟨jj, h7, h8⟩ := bind_get h6
  cases h8
  refine (pss_cons (ps_asg (he v h4) (pg_sub (pe_name C hv) (hi j h5) set_list ha) hs hw h1) (hk _ y h3)).imp fun D σ H ⟨F, I, ps, Rr, q⟩ => ⟨F, I, ps, Rr, fun w H1 I1 g1 R1 d1 => ?_⟩
  obtain ⟨a, xs, e1, e2, hH, d⟩ := own_slot R1 hsl
  refine ⟨_, e2, F, I1, ps, R1, fun u H2 I2 g2 R2 d2 => ?_⟩
  cases d2
  obtain ⟨a', xs', f1, _, hH2, d'⟩ := own_slot R2 hsl
  rw [e1] at f1; cases f1
  refine ⟨a, xs', j, jj, rfl, rfl, hH2, by rw [d'.len, List.length_map]; exact h7, tS_after (H := H) (ps := ps) (σ := σ) (g1.trans g2) (R2.wrOwn (es := (l.set jj v).map enc) e1 ?_) q⟩
  rw [List.map_set]; exact d'.set jj (Dq_mono g2.same _ _ d1)
/-- x.extend(a new list) -/
theorem sv_ext {l : List α} {oe : Option (List α)} {kk : List α → Option (Out S B R)} {ap cp : Pos} (C : Ctx X N sc fs k) (hv : visB N sc i x = true) (hsl : slAt G i = .own (l.map enc)) (he : EO X G e oe) (hk : ∀ v : List α, SV X (G.set i (.own (v.map enc))) rest P PB own (kk v))
    (hfew : ((backTo cp (starEach [e] X.env)).all (fun x => !x.1) && (backToKw cp (keywordEach [] X.env)).all (fun x => x.1.isSome) && decide (([e] : List Expr).length + ([] : List Keyword).length + (if ([] : List Keyword).isEmpty then 0 else 1) < 30)) = true := by rfl) (hline : (ap.endLine == cp.line) = true := by rfl)
    (hs : starEach [e] X.env = (false, eval e X.env) :: starEach [] X.env := by rfl) : SV X G (.Expr (.Call (.Attribute (.Name x p) "extend" ap) [e] [] cp) sp :: rest) P PB own ((oe.bind (catG l)).bind kk) := fun y hy => by
  obtain ⟨l', h1, h2⟩ := bind_get hy
  obtain ⟨v, h3, h4⟩ := bind_get h1
  obtain ⟨hc, h5⟩ := ite_get h4
  subst h5
  refine (pss_cons (ps_expr (pe_bm PySem.F.plainAttrs_list PySem.F.slot_list_extend PySem.F.type_list_extend mt_extend (pe_name C hv) (pa_cons (he v h3) pa_nil hs) rfl hfew hline hs)) (hk _ y h2)).imp fun D σ H ⟨F, I, ps, Rr, q⟩ => ?_
  obtain ⟨a, xs, e1, e2, hH, d⟩ := own_slot Rr hsl
  refine ⟨_, e2, .inl ⟨rfl, _, .inl (.inl hH)⟩, F, I, ps, Rr, fun pa ys H1 I1 g1 R1 n1 n2 n3 hHp d1 => ?_⟩
  obtain ⟨a', xs', f1, _, hH1, d'⟩ := own_slot R1 hsl
  rw [e1] at f1; cases f1
  refine ⟨a, pa, xs', ys, rfl, rfl, hH1, hHp, by rw [d'.len, d1.len, List.length_map, List.length_map]; exact hc, tS_after (H := H) (ps := ps) (σ := σ) g1 (R1.wrOwn (es := (l ++ v).map enc) e1 ?_) q⟩
  rw [List.map_append]; exact d'.app d1
end
end Lay

set_option Elab.async false
set_option linter.all false
set_option maxRecDepth 100000
/-! Lay9: the script, a def's body as a promise, constants of the module, the law's end. -/
namespace Lay
open PySem PySem.Spec PyProof.Rows L2
open Lay.Enc (enc)

section
variable {X : Cx} {G : List Sl} {α β : Type} [Enc α] [Enc β] {a b e : Expr} {pos p : Pos} {N : List Str} {sc : Scope} {fs : Option Scope} {k i : Nat} {x : Str}
/-! ### a list that is only read (the script) -/
theorem rd_slot {K : PySem.W.Frag} {F H I : Hp} {σ : L2.St} {ps : Nat → Option Addr} (R : RS K F G σ H I ps) {ds : List PyData} (hs : slAt G i = .rd ds) : ∃ a xs, σ[i]? = some (some (.ref a)) ∧ SqL K I a xs ∧ DqAll I xs ds := by
  have hi : i < G.length := by
    by_cases c : i < G.length
    · exact c
    · rw [slAt_out (by omega)] at hs; cases hs
  obtain ⟨w, k1, k2⟩ := R.sl i hi
  rw [hs] at k2
  obtain ⟨e1, a, xs, e2, q, d⟩ := k2
  subst e2
  exact ⟨a, xs, k1, q, d⟩
theorem er_rd {l : List α} (C : Ctx X N sc fs k) (hv : visB N sc i x = true) (hs : slAt G i = .rd (l.map enc)) : ER X G (.Name x pos) (some l) := fun y hy => by
  cases hy
  refine (pe_name C hv).imp fun σ H Q ⟨F, I, ps, R, q⟩ => ?_
  obtain ⟨a, xs, e, s, d⟩ := rd_slot R hs
  exact ⟨_, e, q a xs H I Grow.refl R (Same.seq R.si s) d⟩
theorem ed_ixR {l : List α} {oi : Option Int} (C : Ctx X N sc fs k) (hv : visB N sc i x = true) (hsl : slAt G i = .rd (l.map enc)) (hb : ED X G b oi) (hs : PlainIx b := by intro _ _; rfl) :
    ED X G (.Subscript (.Name x p) b pos) (oi.bind fun j => atI l j) := fun z hz => by
  obtain ⟨j, h2, h3⟩ := bind_get hz
  refine (pe_ix ix_list (pe_name C hv) (hb j h2) hs).imp fun σ H Q ⟨F, I, ps, R, q⟩ => ?_
  obtain ⟨a, xs, e, s, d⟩ := rd_slot R hsl
  refine ⟨_, e, F, I, ps, R, fun w H1 I1 g1 R1 dw => ?_⟩
  cases dw
  obtain ⟨u, hu, du⟩ := d.atI (atI_map h3)
  exact ⟨_, _, j, u, rfl, rfl, Same.seq (g1.same.trans R1.si) s, hu, q u H1 I1 g1 R1 (Dq_mono g1.same _ _ du)⟩
/-- a def of the script alone -/
def spR (K : PySem.W.Frag) (own : Rq) {α ρ : Type} [Enc α] [Enc ρ] (m : List α → Option ρ) : Sp := fun vs H Q _ =>
  ∃ a xs l r I, vs = [.ref a] ∧ m l = some r ∧ Same I H ∧ SqL K I a xs ∧ DqAll I xs (l.map enc) ∧ ∀ v H' I', Same H H' → Grow H I I' → Same I' H' → RetR K own H I' H' v (enc r) → Q v H'
theorem ed_callR {β ρ : Type} [Enc β] [Enc ρ] {m : List β → Option ρ} {l : List β} {f : Str} {prm : List Str} {j : Nat} {p1 : Pos} (C : Ctx X N sc fs k) (c : Cal X.prog X.w X.K X.mg X.base CX0 j f prm (spR X.K .dd m)) (hj : j ≤ k) (hg : glbB sc f = true) (hv : visB N sc i x = true) (hsl : slAt G i = .rd (l.map enc))
    (he : starEach [.Name x p1] X.env = (false, eval (.Name x p1) X.env) :: starEach [] X.env := by rfl) : ED X G (.Call (.Name f p) [.Name x p1] [] pos) (m l) := fun r hr => by
  refine (pe_callG (c.up hj) C.gd C.rm C.s hg (pass0 (X := X)) (pa_cons (pe_name C hv) pa_nil he) he rfl).imp fun σ H Q ⟨F, I, ps, R, q⟩ => ?_
  obtain ⟨a, xs, e, s, d⟩ := rd_slot R hsl
  refine ⟨_, e, a, xs, l, r, I, rfl, hr, R.si, s, d, fun v H' I' s' g' si rr => ?_⟩
  obtain ⟨g2, R2⟩ := R.called s' g' si
  exact q v H' I' g2 R2 rr
/-! ### a constant of the module -/
theorem ed_glb {n : Int} (C : Ctx X N sc fs k) (hg : glbB sc x = true) (h : ∃ t, X.mg x = some (.int n t)) : ED X G (.Name x pos) (some n) := fun y hy => by
  cases hy
  obtain ⟨t, ht⟩ := h
  obtain ⟨gl, db⟩ := glbB_gl C.s hg
  exact (pe_glob gl ht (v := .int n) ⟨t, rfl⟩ db).imp (tC_ed fun _ => .int _)
end

/-! ### a, b = x, y (plain local names) -/
section
variable {X : Cx} {G : List Sl} {S B R : Type} [Enc R] {P : S → List Sl} {PB : B → List Sl} {own : Rk} {rest : List Stmt} {N : List Str} {sc : Scope} {fs : Option Scope} {k i j : Nat} {x y : Str} {α β : Type} [Enc α] [Enc β] {a b : Expr} {px py pt pt2 sp : Pos} {kt k2 : Nat}
def lclB (N : List Str) (sc : Scope) (i : Nat) (x : Str) : Bool := decide (N[i]? = some x) && (match sc.names.lookup x with | some .local => true | _ => false)
theorem lclB_ok (C : Ctx X N sc fs k) (h : lclB N sc i x = true) : X.N[i]? = some x ∧ X.env.scope.names.lookup x = some .local := by
  unfold lclB at h
  simp only [Bool.and_eq_true, decide_eq_true_eq] at h
  rw [C.n, C.s]
  refine ⟨h.1, ?_⟩
  have h2 := h.2
  split at h2
  · assumption
  · cases h2
theorem sv_par {oa : Option α} {ob : Option β} {kk : α → β → Option (Out S B R)} (C : Ctx X N sc fs k) (h1 : lclB N sc i x = true) (h2 : lclB N sc j y = true) (hij : i ≠ j) (hne : (x == y) = false) (hl : (px.line == py.line) = true) (ha : ED X G a oa) (hb : ED X G b ob)
    (hk : ∀ v w, SV X ((G.set i (.dat (enc v))).set j (.dat (enc w))) rest P PB own (kk v w)) (hf : ([a, b].any fun | .Starred .. => true | _ => false) = false := by rfl) (hc : ([a, b].all (foldedForSure 8)) = false := by rfl) (hc2 : ([a, b].all (constantsAlone 8)) = false := by rfl)
    (s1 : starEach [a, b] X.env = (false, eval a X.env) :: starEach [b] X.env := by rfl) (s2 : starEach [b] X.env = (false, eval b X.env) :: starEach [] X.env := by rfl)
    (hsw : swapsWithSole [.Tuple [.Name x px, .Name y py] kt pt] (.Tuple [a, b] k2 pt2) sp.line X.env = pure false := by rfl) :
    SV X G (.Assign [.Tuple [.Name x px, .Name y py] kt pt] (.Tuple [a, b] k2 pt2) sp :: rest) P PB own (oa.bind fun v => ob.bind fun w => kk v w) := fun z hz => by
  obtain ⟨v, e1, hz⟩ := bind_get hz
  obtain ⟨w, e2, hz⟩ := bind_get hz
  obtain ⟨i1, i2⟩ := lclB_ok C h1
  obtain ⟨j1, j2⟩ := lclB_ok C h2
  have hw : swappedStores [.Tuple [.Name x px, .Name y py] kt pt] (.Tuple [a, b] k2 pt2) X.env = pure (some [x, y]) := by
    have kx : X.env.kindOf x = some .local := i2
    have ky : X.env.kindOf y = some .local := j2
    have bk : X.env.blockKind = .function := by unfold Env.blockKind; rw [C.s, C.fk]; rfl
    unfold swappedStores
    have l2 : (py.line == px.line) = true := by rw [beq_iff_eq] at hl ⊢; exact hl.symm
    simp only [List.length_cons, List.length_nil, bk, hf, hc, hc2, List.head?_cons, Option.map_some, Expr.pos, Option.getD_some, List.filterMap_cons, kx, ky, l2, List.filterMap_nil]
    rw [if_neg (by decide), if_neg (by rw [Bool.not_eq_true]; exact hf)]
    have e1 : (some NameKind.local == some NameKind.local) = true := by decide
    have e3 : (y == x) = false := by rw [beq_eq_false_iff_ne] at hne ⊢; exact fun c => hne c.symm
    simp [e1, List.eraseDups, List.eraseDupsBy, List.eraseDupsBy.loop, e3, hne]
  refine (pss_cons (ps_par C.calm (by rw [C.n]; exact C.nd) i1 j1 hij i2 j2 (pa_cons (ha v e1) (pa_cons (hb w e2) pa_nil s2) s1) hw hsw) (hk v w z hz)).imp fun D σ H ⟨F, I, ps, Rr, q⟩ => ?_
  refine ⟨F, I, ps, Rr, fun v1 H1 I1 g1 R1 d1 => ⟨F, I1, ps, R1, fun w1 H2 I2 g2 R2 d2 => ⟨_, _, rfl, ?_⟩⟩⟩
  exact tS_after (H := H) (ps := ps) (σ := σ) (g1.trans g2) ((R2.setDat (Dq_mono g2.same _ _ d1)).setDat d2) q
end

/-! ### a def's body kept as a promise -/
def finO {R : Type} (d : Option R) (o : Option (Out Unit Unit R)) : Option R := o.bind fun x => match x with
  | .nx _ => d
  | .rt r => some r
  | _ => none
@[simp] theorem finO_nx {R : Type} (d : Option R) : finO d (some (.nx ())) = d := rfl
@[simp] theorem finO_rt {R : Type} (d : Option R) (r : R) : finO d (some (.rt r)) = some r := rfl
@[simp] theorem finO_none {R : Type} (d : Option R) : finO d none = none := rfl
theorem slAt_get : ∀ {G : List Sl} {i : Nat} {s : Sl}, G[i]? = some s → slAt G i = s
  | [], _, _, h => by simp at h
  | s :: r, 0, _, h => Option.some.inj h
  | s :: r, i + 1, _, h => slAt_get (G := r) (i := i) h
theorem slAt_rep : ∀ n i, slAt (List.replicate n Sl.un) i = .un
  | 0, _ => rfl
  | n + 1, 0 => rfl
  | n + 1, i + 1 => slAt_rep n i
theorem wkR_all {G : List Sl} {n : Nat} (h : G.length = n) : WkR G (List.replicate n .un) := fun K F σ H I ps R => by
  subst h
  have at_ : ∀ n i, slAt (List.replicate n Sl.un) i = .un := slAt_rep
  refine ⟨I, fun _ => none, Grow.refl, ⟨R.si, R.sf, fun i a h => (nomatch h), by rw [List.length_replicate]; exact R.len, fun i hi => ?_, fun _ _ => rfl, fun i j a h => (nomatch h)⟩⟩
  rw [List.length_replicate] at hi
  obtain ⟨v, h1, h2⟩ := R.sl i hi
  refine ⟨v, h1, ?_⟩
  rw [at_]
  rfl
def dats (n : Nat) (ds : List PyData) : List Sl := ds.map .dat ++ List.replicate (n - ds.length) .un
def tBody (K : PySem.W.Frag) (G : List Sl) (own : Rq) (r : PyData) : TS := fun D σ H =>
  ∃ F I ps, RS K F G σ H I ps ∧ ∀ v H' I', Grow F I I' → Same F H' → Same I' H' → RetR K own F I' H' v r → (v = .non → ∀ σ', D.nx σ' H') ∧ D.rt v H'
theorem body_of {X : Cx} {G : List Sl} {R : Type} [Enc R] {P : Unit → List Sl} {PB : Unit → List Sl} {own : Rq} {body : List Stmt} {d : Option R} {o : Option (Out Unit Unit R)} {r : R} (h : SV X G body P PB ⟨own, false⟩ o) (hr : finO d o = some r) (hd : ∀ x, d = some x → own = .dd ∧ enc x = .none) :
    PSs X body (tBody X.K G own (enc r)) := by
  obtain ⟨x, h1, h2⟩ := bind_get hr
  refine (h x h1).imp fun D σ H ⟨F, I, ps, Rr, q⟩ => ⟨F, I, ps, Rr, ?_⟩
  cases x with
  | nx s =>
    have h2 : d = some r := h2
    obtain ⟨e1, e2⟩ := hd r h2
    subst e1
    exact fun σ' H' I' ps' g R' => (q .non H' I' g R'.sf R'.si (by rw [e2]; exact Dq.non)).1 rfl σ'
  | rt s =>
    have e : s = r := Option.some.inj h2
    subst e
    exact fun v H' I' g s1 s2 rr => (q v H' I' g s1 s2 rr).2
  | bk s => cases h2
  | ct s => cases h2
section
variable {P : Program} {w : World} {K : PySem.W.Frag} {mg : Str → Option Value} {base : Heap} {x : Str} {st : Stmt} {f : Addr} {fd : FuncData} {N prm : List Str} {k : Nat} {own : Rq}
theorem start_rs {n : Nat} {vs : List V} {ds : List PyData} {H I : Hp} (hN : N.length = n) (hl : ds.length ≤ n) (hi : Same I H) (d : DqAll I vs ds) : RS K H (dats n ds) (start N vs) H I (fun _ => none) := by
  subst hN
  have ln := d.len
  refine ⟨hi, Same.refl _, fun i a h => (nomatch h), ?_, fun i h => ?_, fun _ _ => rfl, fun i j a h => (nomatch h)⟩
  · unfold dats L2.start
    simp only [List.length_append, List.length_map, List.length_replicate]; omega
  · unfold dats L2.start
    by_cases c : i < ds.length
    · have c2 : i < vs.length := by omega
      refine ⟨some vs[i], ?_, ?_⟩
      · rw [List.getElem?_append_left (by rw [List.length_map]; exact c2), List.getElem?_map, List.getElem?_eq_getElem c2]; rfl
      · have e : slAt (ds.map Sl.dat ++ List.replicate (N.length - ds.length) .un) i = .dat ds[i] := slAt_get (by
          rw [List.getElem?_append_left (by rw [List.length_map]; exact c), List.getElem?_map, List.getElem?_eq_getElem c]; rfl)
        rw [e]
        obtain ⟨v, hv, hd⟩ := d.at (List.getElem?_eq_getElem c)
        rw [List.getElem?_eq_getElem c2] at hv
        cases hv
        exact ⟨rfl, _, rfl, hd⟩
    · have h2 : i < N.length := by
        unfold dats at h
        simp only [List.length_append, List.length_map, List.length_replicate] at h; omega
      refine ⟨none, ?_, ?_⟩
      · rw [List.getElem?_append_right (by rw [List.length_map]; omega), List.length_map, List.getElem?_replicate, if_pos (by omega)]
      · have e : slAt (ds.map Sl.dat ++ List.replicate (N.length - ds.length) .un) i = .un := slAt_get (by
          rw [List.getElem?_append_right (by rw [List.length_map]; omega), List.length_map, List.getElem?_replicate, if_pos (by omega)])
        rw [e]; rfl
theorem ctx_of {qual : Str} {sc : Scope} {f : Addr} {cd : Value} {A : Around} {out : List Env} {s : Shared} {H : Hp} {E : XK} (S : FnScope N prm sc) (gd : A.guards = some []) (rm : Room k (A.deeper (envOfC qual sc s.heap.objs.size f cd))) : Ctx (cxOf CX0 P w K mg base N qual sc f cd A out s H E) N sc none k :=
  ⟨rfl, rfl, S.kind, rfl, S.nd, gd, rm, PassesOwn.leaving, rfl⟩
/-- what a body's text must give, in any context of the def -/
abbrev AnyX (P : Program) (w : World) (K : PySem.W.Frag) (mg : Str → Option Value) (base : Heap) (N : List Str) (sc : Scope) (k : Nat) (g : Cx → Prop) : Prop :=
  ∀ X : Cx, X.prog = P → X.w = w → X.K = K → X.mg = mg → X.base = base → Ctx X N sc none k → g X
theorem ok_def {g : List PyData → PyData → Prop} {qual : Str} (F : Fun K x qual st f fd) (S : FnScope N prm (defScope st)) (ar : ∀ ds r, g ds r → ds.length = prm.length) (n : Nat) (hN : N.length = n) (hp : prm.length ≤ n)
    (body : AnyX P w K mg base N (defScope st) k fun X => ∀ ds r, g ds r → PSs X (defBody st) (tBody X.K (dats n ds) own r)) : FnG P w K mg base CX0 (k + 1) f fd prm (spD K own g) := by
  refine fnG F S (fun vs H Q E ⟨ds, r, I, h1, _, h2, _⟩ => by rw [← ar ds r h1]; exact h2.len) fun cd A out s H vs Q E gd rm ⟨ds, r, I, h1, hi, h2, q⟩ => ?_
  refine ⟨_, body _ rfl rfl rfl rfl rfl (ctx_of S gd rm) ds r h1, H, I, _, start_rs hN (by rw [ar ds r h1]; exact hp) hi h2, fun v H' I' g s1 s2 rr => ⟨fun e σ' => ?_, q v H' I' s1 g s2 rr⟩⟩
  subst e
  exact q .non H' I' s1 g s2 rr
theorem ok_rd {α ρ : Type} [Enc α] [Enc ρ] {m : List α → Option ρ} {qual : Str} {y : Str} (F : Fun K x qual st f fd) (S : FnScope N [y] (defScope st)) (n : Nat) (hN : N.length = n) (hp : 1 ≤ n)
    (body : AnyX P w K mg base N (defScope st) k fun X => ∀ l r, m l = some r → PSs X (defBody st) (tBody X.K (.rd (l.map enc) :: List.replicate (n - 1) .un) own (enc r))) : FnG P w K mg base CX0 (k + 1) f fd [y] (spR K own m) := by
  refine fnG F S (fun vs H Q E ⟨a, xs, l, r, I, h1, _⟩ => by rw [h1]; rfl) fun cd A out s H vs Q E gd rm ⟨a, xs, l, r, I, h1, hr, hi, hs, hd, q⟩ => ?_
  subst h1
  have R0 : RS K H (.rd (l.map enc) :: List.replicate (n - 1) .un) (start N [.ref a]) H I (fun _ => none) := by
    have R1 := start_rs (K := K) (N := N) (n := n) (H := H) (I := I) (vs := [.int 0]) (ds := [.int 0]) hN hp hi (.cons (.int 0) .nil)
    refine ⟨R1.si, R1.sf, R1.fo, ?_, fun i h => ?_, fun _ _ => rfl, R1.dis⟩
    · exact R1.len
    · cases i with
      | zero => exact ⟨_, rfl, rfl, a, xs, rfl, hs, hd⟩
      | succ i => exact R1.sl (i + 1) h
  refine ⟨_, body _ rfl rfl rfl rfl rfl (ctx_of S gd rm) l r hr, H, I, _, R0, fun v H' I' g s1 s2 rr => ⟨fun e σ' => ?_, q v H' I' s1 g s2 rr⟩⟩
  subst e
  exact q .non H' I' s1 g s2 rr
theorem cal_of {f : Addr} {qual : Str} {sp : Sp} (G : FnG P w K mg base CX0 k f fd prm sp) (F : Fun K x qual st f fd) (hm : mg x = some (.ref f)) (b : Binds K fd prm []) : Cal P w K mg base CX0 k x prm sp := ⟨f, fd, G, hm, F.kp, b⟩
theorem dq_ints {H : Hp} : ∀ ns : List Int, DqAll H (ns.map V.int) (ns.map enc)
  | [] => .nil
  | n :: r => .cons (.int n) (dq_ints r)
theorem law_sp {m : List Int → Option Bool} {n : Nat} (h : ∀ ns : List Int, ns.length ≤ n → m ns = some true) (K : PySem.W.Frag) (H : Hp) (a : Addr) (ns : List Int) (hl : ns.length ≤ n) (_ : Only H) (hS : SqL K H a (ns.map V.int)) : spR K .dd m [.ref a] H (fun v _ => v = .bl true) fun _ _ _ => False :=
  ⟨a, _, ns, true, H, rfl, h ns hl, Same.refl _, hS, dq_ints ns, fun v H' I' _ _ _ rr => by cases rr; rfl⟩
end
end Lay

set_option Elab.async false
set_option linter.all false
set_option maxRecDepth 100000
/-! LayA: own lists lent to an expression with a flat answer; sorted of any data. -/
namespace Lay
open PySem PySem.Spec PyProof.Rows L2
open Lay.Enc (enc)
def frzAll (G : List Sl) : List Sl := G.map frzS
theorem slAt_map : ∀ {G : List Sl} {i : Nat}, slAt (G.map frzS) i = frzS (slAt G i)
  | [], _ => rfl
  | _ :: _, 0 => rfl
  | _ :: r, i + 1 => slAt_map (G := r) (i := i)
class Flat (α : Type) [Enc α] : Prop where
  fl : ∀ (x : α) (H H' : Hp) (v : V), Dq H v (enc x) → Dq H' v (enc x)
instance : Flat Int := ⟨fun x H H' v d => by cases d; exact .int _⟩
instance : Flat Bool := ⟨fun x H H' v d => by cases d; exact .bl _⟩
instance : Flat Str := ⟨fun x H H' v d => by cases d; exact .str _⟩
instance : Flat Unit := ⟨fun x H H' v d => by cases d; exact .non⟩
instance {α : Type} [Enc α] [S : Flat α] : Flat (Option α) := ⟨fun x H H' v d => by
  cases x with
  | none => cases d; exact .non
  | some x => exact S.fl x H H' v d⟩
theorem flatAll {α : Type} [Enc α] [S : Flat α] {H H' : Hp} : ∀ {xs : List V} {l : List α}, DqAll H xs (l.map enc) → DqAll H' xs (l.map enc)
  | [], [], _ => .nil
  | _ :: _, _ :: _, .cons d r => .cons (S.fl _ _ _ _ d) (flatAll r)
open Classical in
theorem lend_rs {K : PySem.W.Frag} {F H I : Hp} {G : List Sl} {σ : L2.St} {ps : Nat → Option Addr} (R : RS K F G σ H I ps) : ∃ I2, Grow F I I2 ∧ RS K F (frzAll G) σ H I2 (fun _ => none) ∧ (∀ i a, ps i = some a → I2 a ≠ none) ∧
    ∀ H' I', Same I2 I' → RS K F (frzAll G) σ H' I' (fun _ => none) → RS K F G σ H' I ps := by
  let I2 : Hp := fun a => if ∃ i, ps i = some a then H a else I a
  have own : ∀ {i a}, ps i = some a → I2 a = H a := fun {i a} h => if_pos ⟨i, h⟩
  have s1 : Same I I2 := fun b u e => by
    by_cases c : ∃ i, ps i = some b
    · obtain ⟨i, h⟩ := c
      rw [(R.own_at h).1] at e; cases e
    · show (if _ then _ else _) = _
      rw [if_neg c]; exact e
  have s2 : Same I2 H := fun b u e => by
    by_cases c : ∃ i, ps i = some b
    · obtain ⟨i, h⟩ := c
      rw [own h] at e; exact e
    · have e2 : (if ∃ i, ps i = some b then H b else I b) = some u := e
      rw [if_neg c] at e2; exact R.si _ _ e2
  refine ⟨I2, ⟨s1, fun a h => ?_⟩, ⟨s2, R.sf, fun i a h => (nomatch h), by unfold frzAll; rw [List.length_map]; exact R.len, fun i hi => ?_, fun _ _ => rfl, fun i j a h => (nomatch h)⟩, fun i a h => ?_, fun H' I' s3 R' => ⟨(s1.trans s3).trans R'.si, R'.sf, R.fo, R.len, fun i hi => ?_, R.out, R.dis⟩⟩
  · by_cases c : ∃ i, ps i = some a
    · obtain ⟨i, hh⟩ := c; exact .inr (R.fo _ _ hh)
    · have e2 : I2 a = I a := if_neg c
      rw [e2] at h; exact .inl h
  · unfold frzAll at hi
    rw [List.length_map] at hi
    obtain ⟨v, k1, k2⟩ := R.sl i hi
    refine ⟨v, k1, ?_⟩
    unfold frzAll
    rw [slAt_map]
    cases e : slAt G i with
    | un => rfl
    | dat d => rw [e] at k2; obtain ⟨_, x, h1, h2⟩ := k2; exact ⟨rfl, x, h1, Dq_mono s1 _ _ h2⟩
    | rd ds => rw [e] at k2; obtain ⟨_, a, xs, h1, h2, h3⟩ := k2; exact ⟨rfl, a, xs, h1, Same.seq s1 h2, DqAll_mono s1 _ _ h3⟩
    | old d => rw [e] at k2; obtain ⟨_, x, h1, h2⟩ := k2; exact ⟨rfl, x, h1, Dq_mono (rgO_mono s1) _ _ h2⟩
    | nw d => rw [e] at k2; obtain ⟨_, x, h1, h2⟩ := k2; exact ⟨rfl, x, h1, Dq_mono (rgN_mono s1) _ _ h2⟩
    | own ds =>
      rw [e] at k2
      obtain ⟨a, xs, h1, h2, h3, h4, h5⟩ := k2
      exact ⟨rfl, _, h2, .lst (.inl ((own h1).trans h4)) (DqAll_mono s1 _ _ h5)⟩
  · obtain ⟨_, _, xs, e⟩ := R.own_at h
    rw [own h, e]; simp
  · obtain ⟨v, k1, k2⟩ := R.sl i hi
    refine ⟨v, k1, ?_⟩
    cases e : slAt G i with
    | un => rw [e] at k2; exact k2
    | dat d => rw [e] at k2; exact k2
    | rd ds => rw [e] at k2; exact k2
    | old ds => rw [e] at k2; exact k2
    | nw ds => rw [e] at k2; exact k2
    | own ds =>
      rw [e] at k2
      obtain ⟨a, xs, h1, h2, h3, h4, h5⟩ := k2
      exact ⟨a, xs, h1, h2, h3, R'.si _ _ (s3 _ _ ((own h1).trans h4)), h5⟩
section
variable {X : Cx} {G : List Sl} {α : Type} [Enc α] {e : Expr}
theorem ed_lend [S : Flat α] {o : Option α} (h : ED X (frzAll G) e o) : ED X G e o := fun x hx => (h x hx).imp fun σ H Q ⟨F, I, ps, R, q⟩ => by
  obtain ⟨I2, g, R2, _, back⟩ := lend_rs R
  exact ⟨F, I2, _, R2, fun v H' I' g' R' d => q v H' I Grow.refl (back H' I' g'.same R') (S.fl x _ _ _ d)⟩
theorem eb_lend {o : Option Bool} (h : EB X (frzAll G) e o) : EB X G e o := fun x hx => (h x hx).imp fun σ H Q ⟨F, I, ps, R, q⟩ => by
  obtain ⟨I2, g, R2, _, back⟩ := lend_rs R
  exact ⟨F, I2, _, R2, fun H' I' g' R' => q H' I Grow.refl (back H' I' g'.same R')⟩
theorem tO_lend [S : Flat α] {K : PySem.W.Frag} {l : List α} {σ : L2.St} {H : Hp} {Q : VK} (h : tO K G (l.map enc) σ H Q) : tO K (frzAll G) (l.map enc) σ H Q := by
  obtain ⟨F, I, ps, R, q⟩ := h
  obtain ⟨I2, g, R2, n2, back⟩ := lend_rs R
  refine ⟨F, I2, _, R2, fun p xs H' I' g' R' n hF hp hH d => q p xs H' I Grow.refl (back H' I' g'.same R') (g.same.free (g'.same.free n)) hF (fun i z => n2 i p z (g'.same.free n)) hH (flatAll d)⟩
theorem eo_lend [S : Flat α] {o : Option (List α)} (h : EO X (frzAll G) e o) : EO X G e o := fun x hx => (h x hx).imp fun σ H Q t => tO_lend t
theorem lc_lend [S : Flat α] {o : Option (List α)} (h : LC X (frzAll G) e o) : LC X G e o := fun l hl => by
  obtain ⟨t, h1, h2, h3⟩ := h l hl
  exact ⟨t, h1, h2, fun σ H Q w => h3 σ H Q (tO_lend w)⟩
end
/-! ### sorted of any data -/
/-- what sorted may be asked: items of one kind; tuples with an item -/
class SortT (α : Type) [Enc α] where
  ok : List α → Bool
  one : ∀ x y : α, PySem.W.alike (enc x) (enc y) = true
  srt : ∀ l, ok l = true → PySem.W.Sortable (l.map (enc : α → PyData))
theorem alikeAll_of {α : Type} [Enc α] (h : ∀ x y : α, PySem.W.alike (enc x) (enc y) = true) : ∀ l m : List α, PySem.W.alikeAll (l.map enc) (m.map enc) = true
  | [], _ => by simp [PySem.W.alikeAll]
  | _ :: _, [] => by simp [PySem.W.alikeAll]
  | x :: xs, y :: ys => by
    show PySem.W.alikeAll (enc x :: xs.map enc) (enc y :: ys.map enc) = true
    rw [PySem.W.alikeAll, alikeAll_of h xs ys, h x y]; rfl
instance : SortT Int := ⟨fun _ => true, fun x y => by simp [enc, PySem.W.alike], fun l _ => PySem.W.Sortable.others fun b => ⟨(nomatch ·), fun _ => (nomatch ·)⟩⟩
instance : SortT Bool := ⟨fun _ => true, fun x y => by simp [enc, PySem.W.alike], fun l _ => PySem.W.Sortable.others fun b => ⟨(nomatch ·), fun _ => (nomatch ·)⟩⟩
instance {α : Type} [Enc α] [S : SortT α] : SortT (List α) := ⟨fun _ => true, fun x y => by
  show PySem.W.alike (.list (x.map enc)) (.list (y.map enc)) = true
  rw [PySem.W.alike]; exact alikeAll_of S.one x y, fun l _ => PySem.W.Sortable.others fun b => ⟨(nomatch ·), fun _ => (nomatch ·)⟩⟩
instance {α : Type} [Enc α] [S : SortT α] : SortT (Tup α) := ⟨fun l => l.all fun t => !t.l.isEmpty, fun x y => by
  show PySem.W.alike (.tuple (x.l.map enc)) (.tuple (y.l.map enc)) = true
  rw [PySem.W.alike]; exact alikeAll_of S.one x.l y.l, fun l h => .inl fun d hd => by
    obtain ⟨t, ht, rfl⟩ := List.mem_map.mp hd
    have q := List.all_eq_true.mp h t ht
    cases e : t.l with
    | nil => rw [e] at q; cases q
    | cons x r => exact ⟨enc x, r.map enc, by show PyData.tuple (t.l.map enc) = _; rw [e]; rfl⟩⟩
instance {α β : Type} [Enc α] [Enc β] [S : SortT α] [T : SortT β] : SortT (T2 α β) := ⟨fun _ => true, fun x y => by
  show PySem.W.alike (.tuple [enc x.a, enc x.b]) (.tuple [enc y.a, enc y.b]) = true
  rw [PySem.W.alike, PySem.W.alikeAll, PySem.W.alikeAll, PySem.W.alikeAll, S.one, T.one]; rfl, fun l _ => PySem.W.Sortable.tuples fun b => ⟨_, _, rfl⟩⟩
instance {α β γ : Type} [Enc α] [Enc β] [Enc γ] [S : SortT α] [T : SortT β] [U : SortT γ] : SortT (T3 α β γ) := ⟨fun _ => true, fun x y => by
  show PySem.W.alike (.tuple [enc x.a, enc x.b, enc x.c]) (.tuple [enc y.a, enc y.b, enc y.c]) = true
  rw [PySem.W.alike, PySem.W.alikeAll, PySem.W.alikeAll, PySem.W.alikeAll, PySem.W.alikeAll, S.one, T.one, U.one]; rfl, fun l _ => PySem.W.Sortable.tuples fun b => ⟨_, _, rfl⟩⟩
def leD {α : Type} [Enc α] : α → α → Bool := PySem.W.dataLe false (enc : α → PyData)
def sortD {α : Type} [Enc α] [S : SortT α] (l : List α) : Option (List α) := if S.ok l = true ∧ l.length ≤ sizeLine then some (l.mergeSort leD) else none
def rSortedD (α : Type) [Enc α] [S : SortT α] (K : PySem.W.Frag) : List V → Hp → VK → Prop := fun vs H Q => ∃ (a : Addr) (xs : List V) (l : List α), vs = [.ref a] ∧ SqL K H a xs ∧ DpAll K H xs (l.map enc) ∧ S.ok l = true ∧ l.length ≤ sizeLine ∧
  ∀ (zs : List (V × α)) (p : Addr), zs.Perm (xs.zip l) → zs.map Prod.snd = l.mergeSort leD → H p = none → Q (.ref p) (upd H p (.lst (zs.map Prod.fst)))
section
variable {X : Cx} {α : Type} [Enc α] [S : SortT α] [T : Sh α]
theorem each_vals : ∀ {zs : List (V × α)} {us : List Value}, PySem.W.EachIs (fun u (z : V × α) => RelV z.1 u) us zs → Vals (zs.map Prod.fst) us
  | [], _, h => by cases h; exact .nil
  | z :: zs, _, h => by
    cases h with
    | cons h1 h2 => exact .cons h1 (each_vals h2)
theorem vals_each : ∀ {xs : List V} {l : List α} {us : List Value}, xs.length = l.length → Vals xs us → PySem.W.EachIs (fun u (z : V × α) => RelV z.1 u) us (xs.zip l)
  | [], [], _, _, h => by cases h; exact .nil
  | x :: xs, y :: l, _, e, h => by
    cases h with
    | cons h1 h2 => exact .cons h1 (vals_each (by simpa using e) h2)
theorem dpAll_len {K : PySem.W.Frag} {H : Hp} : ∀ {xs : List V} {ds : List PyData}, DpAll K H xs ds → xs.length = ds.length
  | _, _, .nil => rfl
  | _, _, .cons _ h => by simp [dpAll_len h]
theorem cr_sortedD (hu : X.A.units + 64 < cLine) (hd : T.dp ≤ 60) : CallR X (.builtin "sorted") (rSortedD α X.K) := by
  intro pins s σ H vs us Q I r h
  obtain ⟨a, xs, l, rfl, hs, hdp, hok, hL, q⟩ := h
  obtain ⟨its, rv, hl, hz⟩ := I.list hs
  rw [Vals.ref1 r]
  have el : xs.length = l.length := by rw [dpAll_len hdp, List.length_map]
  obtain ⟨as, rd⟩ := Dp.readsAll I _ _ _ hdp rv
  have e2 : (xs.zip l).map (fun z => (enc z.2 : PyData)) = l.map enc := by
    rw [show (fun z : V × α => (enc z.2 : PyData)) = enc ∘ Prod.snd from rfl, ← List.map_map, List.map_snd_zip (Nat.le_of_eq el.symm)]
  have lz : (xs.zip l).length = l.length := by rw [List.length_zip]; omega
  refine PySem.W.sorted_data (bs := xs.zip l) (enc := fun z => enc z.2) (R := fun u z => RelV z.1 u) hl.isList (vals_each el rv) (PySem.W.readsAll_each _ (by rw [e2]; exact rd)) (by
      rw [e2]; exact PySem.W.AllAlike.of S.one) (by rw [e2]; exact S.srt l hok) (by rw [lz]; exact hL) (fun b _ => ?_) fun out h1 h2 => ?_
  · have := T.dep b.2
    omega
  · have pm := List.mergeSort_perm (xs.zip l) (PySem.W.dataLe false fun z : V × α => (enc z.2 : PyData))
    have sn : ((xs.zip l).mergeSort (PySem.W.dataLe false fun z : V × α => (enc z.2 : PyData))).map Prod.snd = l.mergeSort leD := by
      have q := PySem.W.sort_maps (r := PySem.W.dataLe false fun z : V × α => (enc z.2 : PyData)) (s := leD) Prod.snd (l := xs.zip l) (fun a _ b _ => rfl)
      rw [List.map_snd_zip (Nat.le_of_eq el.symm)] at q
      exact q
    obtain ⟨ep, he'⟩ := PyProof.Rows.sortedAll_at s.heap its out.toArray
    have hlen : (((xs.zip l).mergeSort (PySem.W.dataLe false fun z : V × α => (enc z.2 : PyData))).map Prod.fst).length ≤ sizeLine := by
      rw [List.length_map, pm.length_eq, lz]; exact hL
    exact ⟨.ref _, upd H (s.heap.objs.size + 1) (.lst _), I.laid (t' := s.toks) (fun _ _ => PyProof.Rows.sortedAll_old) (Nat.le_succ _) ⟨hlen, out, ep, each_vals h2, he'⟩, rfl, q _ _ pm sn (I.hok.fresh (Nat.le_succ _))⟩
end
section
variable {X : Cx} {G : List Sl} {α : Type} [Enc α] [S : SortT α] [T : Sh α] {e : Expr} {pos p : Pos} {N : List Str} {sc : Scope} {fs : Option Scope} {k : Nat}
theorem dq_zip {I : Hp} : ∀ {xs : List V} {l : List α}, DqAll I xs (l.map enc) → ∀ z ∈ xs.zip l, Dq I z.1 (enc z.2)
  | [], [], _, z, h => by simp at h
  | x :: xs, y :: l, .cons d r, z, h => by
    rw [List.zip_cons_cons, List.mem_cons] at h
    rcases h with h | h
    · subst h; exact d
    · exact dq_zip r z h
theorem dq_of {I : Hp} : ∀ {zs : List (V × α)}, (∀ z ∈ zs, Dq I z.1 (enc z.2)) → DqAll I (zs.map Prod.fst) ((zs.map Prod.snd).map enc)
  | [], _ => .nil
  | z :: zs, h => .cons (h z (by simp)) (dq_of fun y hy => h y (by simp [hy]))
theorem eo_sortedD {ol : Option (List α)} (C : Ctx X N sc fs k) (hg : glbB sc "sorted" = true) (hm : X.mg "sorted" = none) (h : ER X G e ol) (hs : starEach [e] X.env = (false, eval e X.env) :: starEach [] X.env := by rfl) (hd : T.dp ≤ 60 := by decide) : EO X G (.Call (.Name "sorted" p) [e] [] pos) (ol.bind sortD) := fun z hz => by
  obtain ⟨l, h1, h2⟩ := bind_get hz
  obtain ⟨⟨hok, hL⟩, e1⟩ := ite_get h2
  refine (b1 (id := "sorted") C hg hm (by decide +kernel) (cr_sortedD (α := α) C.rm.units hd) (h l h1) (by decide) hs).imp (tR_bO fun F G σ H I ps ad xs Q R s d q => ?_)
  refine ⟨ad, xs, l, rfl, s, DqAll_dp _ _ (DqAll_mono R.si _ _ d), hok, hL, fun zs p hp hs hn => ?_⟩
  have dz := dq_of (fun z hz => dq_zip d z (hp.mem_iff.mp hz))
  rw [hs, e1] at dz
  exact q p _ hn dz
end
end Lay

set_option Elab.async false
set_option linter.all false
set_option maxRecDepth 100000
/-! LayM: plain facts of the mirrors' words. -/
namespace Lay
open PySem PySem.Spec PyProof.Rows L2
open Lay.Enc (enc)
@[simp] theorem lift1_none {α β : Type} (f : α → β) : lift1 f none = none := rfl
theorem sizeLine_val : sizeLine = 16777216 := by decide
/-! ### guards -/
theorem log2_lt64 {n : Nat} (h : n < 2 ^ 64) : n.log2 < 64 := by
  by_cases e : n = 0
  · subst e; decide
  · exact (Nat.log2_lt e).mpr h
theorem mulG_of {i j : Int} (hi : i.natAbs < 2 ^ 64) (hj : j.natAbs < 2 ^ 64) : mulG i j = some (i * j) := by
  have h1 := log2_lt64 hi
  have h2 := log2_lt64 hj
  exact if_pos (by omega)
theorem divG_of {i j : Int} (h : 0 < j) (h2 : j.natAbs < 2 ^ 64) : divG i j = some (i / j) := by
  have := log2_lt64 h2
  exact if_pos ⟨h, by omega⟩
theorem modG_of {i j : Int} (h : 0 < j) : modG i j = some (i % j) := if_pos h
theorem appG_of {α : Type} {l : List α} {x : α} (h : l.length < 16777216) : appG l x = some (l ++ [x]) := if_pos (by rw [sizeLine_val]; exact h)
theorem catG_of {α : Type} {l m : List α} (h : l.length + m.length ≤ 16777216) : catG l m = some (l ++ m) := if_pos (by rw [sizeLine_val]; exact h)
theorem szG_of {α : Type} {l : List α} (h : l.length ≤ 16777216) : szG l = some l := if_pos (by rw [sizeLine_val]; exact h)
theorem repG_of {α : Type} {x : α} {k : Int} (h : 0 ≤ k) (h2 : k ≤ 262144) : repG [x] k = some (List.replicate k.toNat x) := by
  unfold repG
  rw [if_pos ⟨⟨by simp, h2⟩, by omega⟩]
  congr 1
  generalize k.toNat = n
  induction n with
  | zero => rfl
  | succ n ih => rw [List.replicate_succ, List.flatten_cons, ih]; rfl
theorem rng1_of {j : Int} (h : 0 ≤ j) (h2 : j ≤ 16777216) : rng1 j = some (rngL 0 j.toNat) := if_pos (by rw [sizeLine_val]; omega)
theorem rng2_of {i j : Int} (h : 0 ≤ i) (hj : 0 ≤ j) (h1 : i ≤ 16777216) (h2 : j ≤ 16777216) : rng2 i j = some (rngL i (j - i).toNat) := if_pos (by rw [sizeLine_val]; omega)
theorem mem_rng {lo : Int} {n : Nat} {x : Int} : x ∈ rngL lo n ↔ lo ≤ x ∧ x < lo + n := by
  unfold rngL
  rw [List.mem_map]
  constructor
  · rintro ⟨i, hi, rfl⟩
    rw [List.mem_range] at hi
    omega
  · intro ⟨h1, h2⟩
    exact ⟨(x - lo).toNat, by rw [List.mem_range]; omega, by omega⟩
theorem rng_get {lo : Int} {n i : Nat} {x : Int} (h : (rngL lo n)[i]? = some x) : i < n ∧ x = lo + i := by
  unfold rngL at h
  rw [List.getElem?_map] at h
  by_cases c : i < n
  · rw [List.getElem?_range c] at h
    exact ⟨c, (Option.some.inj h).symm⟩
  · rw [List.getElem?_eq_none (by rw [List.length_range]; omega)] at h
    cases h
@[simp] theorem rng_len {lo : Int} {n : Nat} : (rngL lo n).length = n := by unfold rngL; simp
theorem atI_nat' {α : Type} {l : List α} {i : Int} (h : 0 ≤ i) (h2 : i < l.length) : ∃ x, atI l i = some x ∧ l[i.toNat]? = some x ∧ x ∈ l := by
  have h3 : i.toNat < l.length := by omega
  refine ⟨l[i.toNat], ?_, List.getElem?_eq_getElem h3, List.getElem_mem h3⟩
  unfold atI ixN
  rw [if_pos h, if_pos h2]
  exact List.getElem?_eq_getElem h3
theorem atI_eq {α : Type} {l : List α} {i : Int} (h : 0 ≤ i) (h2 : i < l.length) : atI l i = l[i.toNat]? := by
  unfold atI ixN
  rw [if_pos h, if_pos h2]; rfl
/-! ### loops -/
section
variable {S B R α β : Type}
theorem forL_inv {step : S → α → Option (Out S S R)} (I : S → Prop) : ∀ {l : List α} {s : S}, I s → (∀ s x, x ∈ l → I s → ∃ s', step s x = some (.nx s') ∧ I s') → ∃ s', forL (B := B) step s l = some (.nx s') ∧ I s'
  | [], s, h, _ => ⟨s, rfl, h⟩
  | x :: xs, s, h, hs => by
    obtain ⟨s1, e1, h1⟩ := hs s x (by simp) h
    obtain ⟨s2, e2, h2⟩ := forL_inv (l := xs) I h1 (fun s y hy => hs s y (by simp [hy]))
    exact ⟨s2, by unfold forL; rw [e1]; exact e2, h2⟩
theorem forL_invN {step : S → α → Option (Out S S R)} (I : Nat → S → Prop) : ∀ {l : List α} {s : S} {i : Nat}, I i s → (∀ i s x, x ∈ l → I i s → ∃ s', step s x = some (.nx s') ∧ I (i + 1) s') → ∃ s', forL (B := B) step s l = some (.nx s') ∧ I (i + l.length) s'
  | [], s, i, h, _ => ⟨s, rfl, h⟩
  | x :: xs, s, i, h, hs => by
    obtain ⟨s1, e1, h1⟩ := hs i s x (by simp) h
    obtain ⟨s2, e2, h2⟩ := forL_invN (l := xs) I h1 (fun i s y hy => hs i s y (by simp [hy]))
    refine ⟨s2, by unfold forL; rw [e1]; exact e2, ?_⟩
    rw [List.length_cons, Nat.add_comm xs.length, ← Nat.add_assoc]; exact h2
theorem forL_fold {step : S → α → Option (Out S S R)} (f : S → α → S) (I : S → Prop) : ∀ {l : List α} {s : S}, I s → (∀ s x, x ∈ l → I s → step s x = some (.nx (f s x)) ∧ I (f s x)) → forL (B := B) step s l = some (.nx (l.foldl f s)) ∧ I (l.foldl f s)
  | [], s, h, _ => ⟨rfl, h⟩
  | x :: xs, s, h, hs => by
    obtain ⟨e1, h1⟩ := hs s x (by simp) h
    obtain ⟨e2, h2⟩ := forL_fold (l := xs) f I h1 (fun s y hy => hs s y (by simp [hy]))
    exact ⟨by unfold forL; rw [e1]; exact e2, h2⟩
theorem forL_unit {step : Unit → α → Option (Out Unit Unit R)} : ∀ {l : List α}, (∀ x, x ∈ l → step () x = some (.nx ())) → forL (B := B) step () l = some (.nx ())
  | [], _ => rfl
  | x :: xs, hs => by
    unfold forL
    rw [hs x (by simp)]
    exact forL_unit fun y hy => hs y (by simp [hy])
theorem lcL_eq {c : α → Option Bool} {e : α → Option β} {p : α → Bool} {f : α → β} : ∀ {l : List α}, (∀ x, x ∈ l → c x = some (p x)) → (∀ x, x ∈ l → p x = true → e x = some (f x)) → lcL c e l = some ((l.filter p).map f)
  | [], _, _ => rfl
  | x :: xs, hc, he => by
    have ih := lcL_eq (l := xs) (fun y hy => hc y (by simp [hy])) (fun y hy => he y (by simp [hy]))
    unfold lcL
    rw [hc x (by simp), Option.bind_some, ih]
    cases q : p x with
    | true => rw [cond_true, he x (by simp) q, List.filter_cons_of_pos q]; rfl
    | false => rw [cond_false, List.filter_cons_of_neg (by rw [q]; simp)]
theorem lcL_map {e : α → Option β} {f : α → β} {l : List α} (he : ∀ x, x ∈ l → e x = some (f x)) : lcL (fun _ => some true) e l = some (l.map f) := by
  rw [lcL_eq (p := fun _ => true) (fun _ _ => rfl) fun x hx _ => he x hx, List.filter_eq_self.mpr fun _ _ => rfl]
theorem lcL_filter {c : α → Option Bool} {p : α → Bool} {l : List α} (hc : ∀ x, x ∈ l → c x = some (p x)) : lcL c (fun x => some x) l = some (l.filter p) := by
  have h := lcL_eq (f := id) hc (fun x hx _ => rfl : ∀ x, x ∈ l → p x = true → (fun x => some x) x = some (id x))
  rw [List.map_id] at h
  exact h
/-- two comprehensions that agree item by item -/
theorem lcL_congr {c c' : α → Option Bool} {e e' : α → Option β} : ∀ {l : List α}, (∀ x, x ∈ l → c x = c' x) → (∀ x, x ∈ l → e x = e' x) → lcL c e l = lcL c' e' l
  | [], _, _ => rfl
  | x :: xs, hc, he => by
    unfold lcL
    rw [hc x (by simp), he x (by simp), lcL_congr (fun y hy => hc y (by simp [hy])) (fun y hy => he y (by simp [hy]))]
theorem forL_congr {step step' : S → α → Option (Out S S R)} : ∀ {l : List α} {s : S}, (∀ s x, x ∈ l → step s x = step' s x) → forL (B := B) step s l = forL step' s l
  | [], _, _ => rfl
  | x :: xs, s, h => by
    unfold forL
    rw [h s x (by simp)]
    congr 1
    funext o
    cases o with
    | nx s' => exact forL_congr fun s y hy => h s y (by simp [hy])
    | ct s' => exact forL_congr fun s y hy => h s y (by simp [hy])
    | bk s' => rfl
    | rt r => rfl
end
/-! ### repr -/
class Rp (α : Type) [Enc α] where
  len : α → Nat
  sm : α → Prop
  ok : ∀ x, sm x → (enc x : PyData).showable = true ∧ (enc x : PyData).shown.length ≤ len x
theorem shown_int {i : Int} {k : Nat} (h : i.natAbs < 2 ^ k) (hk : 0 < k) : (PyData.shown (.int i)).length ≤ k + 1 := by
  have h10 : 2 ^ k ≤ 10 ^ k := Nat.pow_le_pow_left (by decide) k
  have := int_text_length_le10 (k := k) hk (Nat.lt_of_lt_of_le h h10)
  simp only [PyData.shown]
  show (Str.ofString (toString i)).length ≤ k + 1
  have e : (Str.ofString (toString i)).length = (toString i).length := PySem.ofString_length _
  omega
instance : Rp Int := ⟨fun i => i.natAbs.log2 + 3, fun i => i.natAbs.log2 < 1900, fun i h => ⟨by
  show decide (i.natAbs.log2 < 1920) = true
  exact decide_eq_true (by omega), by
  have h2 : i.natAbs < 2 ^ (i.natAbs.log2 + 1) := Nat.lt_log2_self
  have := shown_int h2 (by omega)
  show (PyData.shown (.int i)).length ≤ i.natAbs.log2 + 3
  omega⟩⟩
instance : Rp Bool := ⟨fun _ => 5, fun _ => True, fun b _ => by cases b <;> exact ⟨rfl, by decide⟩⟩
theorem rp_all {α : Type} [Enc α] [S : Rp α] : ∀ l : List α, (∀ x, x ∈ l → S.sm x) → PyData.showableAll (l.map enc) = true ∧ ((PyData.shownAll (l.map enc)).map (·.length)).sum + 2 * (PyData.shownAll (l.map enc)).length ≤ (l.map fun x => S.len x + 2).sum
  | [], _ => ⟨rfl, Nat.le_refl _⟩
  | x :: xs, h => by
    obtain ⟨h1, h2⟩ := rp_all xs fun y hy => h y (by simp [hy])
    obtain ⟨h3, h4⟩ := S.ok x (h x (by simp))
    refine ⟨?_, ?_⟩
    · show ((enc x : PyData).showable && PyData.showableAll (xs.map enc)) = true
      rw [h3, h1]; rfl
    · show ((((enc x : PyData).shown :: PyData.shownAll (xs.map enc)).map (·.length)).sum + 2 * ((enc x : PyData).shown :: PyData.shownAll (xs.map enc)).length) ≤ ((x :: xs).map fun x => S.len x + 2).sum
      simp only [List.map_cons, List.sum_cons, List.length_cons]
      omega
instance {α : Type} [Enc α] [S : Rp α] : Rp (List α) := ⟨fun l => (l.map fun x => S.len x + 2).sum + 3, fun l => ∀ x, x ∈ l → S.sm x, fun l h => by
  obtain ⟨h1, h2⟩ := rp_all l h
  refine ⟨h1, ?_⟩
  have := listText_len_le (PyData.shownAll (l.map enc))
  show (listText (PyData.shownAll (l.map enc))).length ≤ _
  omega⟩
instance {α : Type} [Enc α] [S : Rp α] : Rp (Tup α) := ⟨fun l => (l.l.map fun x => S.len x + 2).sum + 3, fun l => ∀ x, x ∈ l.l → S.sm x, fun l h => by
  obtain ⟨h1, h2⟩ := rp_all l.l h
  refine ⟨h1, ?_⟩
  have := tupleText_len_le (PyData.shownAll (l.l.map enc))
  show (tupleText (PyData.shownAll (l.l.map enc))).length ≤ _
  omega⟩
instance {α β : Type} [Enc α] [Enc β] [S : Rp α] [T : Rp β] : Rp (T2 α β) := ⟨fun t => S.len t.a + T.len t.b + 7, fun t => S.sm t.a ∧ T.sm t.b, fun t h => by
  obtain ⟨h1, h2⟩ := S.ok t.a h.1
  obtain ⟨h3, h4⟩ := T.ok t.b h.2
  refine ⟨?_, ?_⟩
  · show ((enc t.a : PyData).showable && ((enc t.b : PyData).showable && true)) = true
    rw [h1, h3]; rfl
  · have := tupleText_len_le [(enc t.a : PyData).shown, (enc t.b : PyData).shown]
    show (tupleText [(enc t.a : PyData).shown, (enc t.b : PyData).shown]).length ≤ _
    simp only [List.map_cons, List.map_nil, List.sum_cons, List.sum_nil, List.length_cons, List.length_nil] at this
    omega⟩
instance {α : Type} [Enc α] [S : Rp α] : Rp (Option α) := ⟨fun o => match o with | none => 4 | some x => S.len x, fun o => ∀ x, o = some x → S.sm x, fun o h => by
  cases o with
  | none => exact ⟨rfl, show 4 ≤ 4 from Nat.le_refl _⟩
  | some x => exact S.ok x (h x rfl)⟩
theorem repr_ok {α : Type} [Enc α] [S : Rp α] {x : α} (h : S.sm x) (h2 : S.len x ≤ 16777216) : reprD (enc x) = some (enc x : PyData).shown := by
  obtain ⟨h3, h4⟩ := S.ok x h
  exact if_pos ⟨h3, by rw [sizeLine_val]; omega⟩
theorem len_list {α : Type} [Enc α] [S : Rp α] (c : Nat) : ∀ (l : List α), (∀ x, x ∈ l → S.len x ≤ c) → Rp.len l ≤ l.length * (c + 2) + 3 := by
  intro l h
  show (l.map fun x => S.len x + 2).sum + 3 ≤ _
  have : (l.map fun x => S.len x + 2).sum ≤ l.length * (c + 2) := by
    induction l with
    | nil => simp
    | cons x xs ih =>
      have h1 := ih fun y hy => h y (by simp [hy])
      have h2 := h x (by simp)
      simp only [List.map_cons, List.sum_cons, List.length_cons, Nat.add_mul, Nat.one_mul]
      omega
  omega
/-! ### a mirror that ends well -/
def Ok {α : Type} (o : Option α) (P : α → Prop) : Prop := ∃ x, o = some x ∧ P x
section
variable {α β γ δ ε S S' B R : Type}
theorem ok_mono {o : Option α} {P Q : α → Prop} (h : Ok o P) (w : ∀ x, P x → Q x) : Ok o Q := let ⟨x, e, p⟩ := h; ⟨x, e, w x p⟩
theorem ok_some {x : α} {P : α → Prop} : Ok (some x) P ↔ P x := ⟨fun ⟨_, e, p⟩ => by cases e; exact p, fun p => ⟨x, rfl, p⟩⟩
theorem ok_none {P : α → Prop} : Ok (none : Option α) P ↔ False := ⟨fun ⟨_, e, _⟩ => (nomatch e), False.elim⟩
theorem ok_bind {o : Option α} {k : α → Option β} {P : β → Prop} : Ok (o.bind k) P ↔ Ok o fun x => Ok (k x) P :=
  ⟨fun ⟨y, e, p⟩ => let ⟨x, h1, h2⟩ := bind_get e; ⟨x, h1, y, h2, p⟩, fun ⟨x, h1, y, h2, p⟩ => ⟨y, by rw [h1]; exact h2, p⟩⟩
theorem ok_lift1 {f : α → β} {o : Option α} {P : β → Prop} : Ok (lift1 f o) P ↔ Ok o fun x => P (f x) := by unfold lift1; rw [ok_bind]; simp only [ok_some]
theorem ok_lift2 {f : α → β → γ} {a : Option α} {b : Option β} {P : γ → Prop} : Ok (lift2 f a b) P ↔ Ok a fun x => Ok b fun y => P (f x y) := by unfold lift2; simp only [ok_bind, ok_some]
theorem ok_lift3 {f : α → β → γ → δ} {a : Option α} {b : Option β} {c : Option γ} {P : δ → Prop} : Ok (lift3 f a b c) P ↔ Ok a fun x => Ok b fun y => Ok c fun z => P (f x y z) := by unfold lift3; simp only [ok_bind, ok_some]
theorem ok_lift4 {f : α → β → γ → δ → ε} {a : Option α} {b : Option β} {c : Option γ} {d : Option δ} {P : ε → Prop} : Ok (lift4 f a b c d) P ↔ Ok a fun x => Ok b fun y => Ok c fun z => Ok d fun w => P (f x y z w) := by unfold lift4; simp only [ok_bind, ok_some]
theorem ok_bind2 {f : α → β → Option γ} {a : Option α} {b : Option β} {P : γ → Prop} : Ok (bind2 f a b) P ↔ Ok a fun x => Ok b fun y => Ok (f x y) P := by unfold bind2; simp only [ok_bind]
theorem ok_app1 {m : α → Option β} {a : Option α} {P : β → Prop} : Ok (app1 m a) P ↔ Ok a fun x => Ok (m x) P := by unfold app1; simp only [ok_bind]
theorem ok_app2 {m : α → β → Option γ} {a : Option α} {b : Option β} {P : γ → Prop} : Ok (app2 m a b) P ↔ Ok a fun x => Ok b fun y => Ok (m x y) P := by unfold app2; simp only [ok_bind]
theorem ok_app3 {m : α → β → γ → Option δ} {a : Option α} {b : Option β} {c : Option γ} {P : δ → Prop} : Ok (app3 m a b c) P ↔ Ok a fun x => Ok b fun y => Ok c fun z => Ok (m x y z) P := by unfold app3; simp only [ok_bind]
theorem ok_app4 {m : α → β → γ → δ → Option ε} {a : Option α} {b : Option β} {c : Option γ} {d : Option δ} {P : ε → Prop} : Ok (app4 m a b c d) P ↔ Ok a fun x => Ok b fun y => Ok c fun z => Ok d fun w => Ok (m x y z w) P := by unfold app4; simp only [ok_bind]
theorem ok_bif {t : Bool} {a b : Option α} {P : α → Prop} : Ok (bif t then a else b) P ↔ (t = true → Ok a P) ∧ (t = false → Ok b P) := by cases t <;> simp
theorem ok_andG {a b : Option Bool} {P : Bool → Prop} : Ok (andG a b) P ↔ Ok a fun x => (x = true → Ok b P) ∧ (x = false → P false) := by unfold andG; simp only [ok_bind, ok_bif, ok_some]
theorem ok_orG {a b : Option Bool} {P : Bool → Prop} : Ok (orG a b) P ↔ Ok a fun x => (x = true → P true) ∧ (x = false → Ok b P) := by unfold orG; simp only [ok_bind, ok_bif, ok_some]
theorem ok_chain {f g : Int → Int → Bool} {a b c : Option Int} {P : Bool → Prop} : Ok (chainG f g a b c) P ↔ Ok a fun x => Ok b fun y => (f x y = true → Ok c fun z => P (g y z)) ∧ (f x y = false → P false) := by unfold chainG; simp only [ok_bind, ok_bif, ok_some]
/-- what follows a block -/
def BO (k : S → Option (Out S' B R)) (P : Out S' B R → Prop) : Out S B R → Prop
  | .nx s => Ok (k s) P
  | .bk b => P (.bk b)
  | .ct b => P (.ct b)
  | .rt r => P (.rt r)
theorem ok_bindOut {o : Option (Out S B R)} {k : S → Option (Out S' B R)} {P : Out S' B R → Prop} : Ok (bindOut o k) P ↔ Ok o (BO k P) := by
  unfold bindOut
  rw [ok_bind]
  constructor
  · rintro ⟨x, h, q⟩
    refine ⟨x, h, ?_⟩
    cases x with
    | nx s => exact q
    | bk s => exact (ok_some (x := Out.bk s) (P := P)).mp q
    | ct s => exact (ok_some (x := Out.ct s) (P := P)).mp q
    | rt s => exact (ok_some (x := Out.rt s) (P := P)).mp q
  · rintro ⟨x, h, q⟩
    refine ⟨x, h, ?_⟩
    cases x with
    | nx s => exact q
    | bk s => exact ok_some.mpr q
    | ct s => exact ok_some.mpr q
    | rt s => exact ok_some.mpr q
theorem bo_nx {k : S → Option (Out S' B R)} {P : Out S' B R → Prop} {s : S} : BO k P (.nx s) ↔ Ok (k s) P := Iff.rfl
theorem bo_rt {k : S → Option (Out S' B R)} {P : Out S' B R → Prop} {s : R} : BO k P (.rt s : Out S B R) ↔ P (.rt s) := Iff.rfl
theorem bo_bk {k : S → Option (Out S' B R)} {P : Out S' B R → Prop} {s : B} : BO k P (.bk s : Out S B R) ↔ P (.bk s) := Iff.rfl
theorem bo_ct {k : S → Option (Out S' B R)} {P : Out S' B R → Prop} {s : B} : BO k P (.ct s : Out S B R) ↔ P (.ct s) := Iff.rfl
def FO (d : Option R) (P : R → Prop) : Out Unit Unit R → Prop
  | .nx _ => Ok d P
  | .rt r => P r
  | _ => False
theorem ok_finO {d : Option R} {o : Option (Out Unit Unit R)} {P : R → Prop} : Ok (finO d o) P ↔ Ok o (FO d P) := by
  unfold finO
  rw [ok_bind]
  constructor
  · rintro ⟨x, h, q⟩
    refine ⟨x, h, ?_⟩
    cases x with
    | nx s => exact q
    | bk s => exact (ok_none (P := P)).mp q
    | ct s => exact (ok_none (P := P)).mp q
    | rt s => exact (ok_some (x := s) (P := P)).mp q
  · rintro ⟨x, h, q⟩
    refine ⟨x, h, ?_⟩
    cases x with
    | nx s => exact q
    | bk s => exact ok_none.mpr q
    | ct s => exact ok_none.mpr q
    | rt s => exact ok_some.mpr q
theorem fo_nx {d : Option R} {P : R → Prop} {s : Unit} : FO d P (.nx s) ↔ Ok d P := Iff.rfl
theorem fo_rt {d : Option R} {P : R → Prop} {s : R} : FO d P (.rt s) ↔ P s := Iff.rfl
/-- the block falls through with I -/
def Nx (I : S → Prop) : Out S B R → Prop
  | .nx s => I s
  | _ => False
theorem nx_nx {I : S → Prop} {s : S} : Nx I (.nx s : Out S B R) ↔ I s := Iff.rfl
theorem nx_rt {I : S → Prop} {s : R} : Nx I (.rt s : Out S B R) ↔ False := Iff.rfl
theorem ok_for {step : S → α → Option (Out S S R)} {P : Out S B R → Prop} (I : Nat → S → Prop) {l : List α} {s : S} (h0 : I 0 s) (hs : ∀ i s x, l[i]? = some x → I i s → Ok (step s x) (Nx (I (i + 1)))) (hk : ∀ s, I l.length s → P (.nx s)) : Ok (forL step s l) P := by
  have key : ∀ (m : List α) (i : Nat) (s : S), l.drop i = m → I i s → ∃ s', forL (B := B) step s m = some (.nx s') ∧ I (i + m.length) s' := by
    intro m
    induction m with
    | nil => exact fun i s _ h => ⟨s, rfl, h⟩
    | cons x m ih =>
      intro i s hm h
      have hx : l[i]? = some x := by
        rw [← List.head?_drop, hm]; rfl
      obtain ⟨o, e1, h1⟩ := hs i s x hx h
      cases o with
      | nx s1 =>
        obtain ⟨s2, e2, h2⟩ := ih (i + 1) s1 (by rw [← List.tail_drop, hm]; rfl) h1
        exact ⟨s2, by unfold forL; rw [e1]; exact e2, by rw [List.length_cons, Nat.add_comm m.length, ← Nat.add_assoc]; exact h2⟩
      | bk b => exact False.elim h1
      | ct b => exact False.elim h1
      | rt b => exact False.elim h1
  obtain ⟨s', e, h⟩ := key l 0 s rfl h0
  exact ⟨_, e, hk s' (by rw [Nat.zero_add] at h; exact h)⟩
theorem ok_while {c : S → Option Bool} {b : S → Option (Out S S R)} {P : Out S B R → Prop} (I : S → Prop) (μ : S → Nat) (hs : ∀ s, I s → Ok (c s) fun t => (t = true → Ok (b s) (Nx fun s' => I s' ∧ μ s' < μ s)) ∧ (t = false → P (.nx s))) :
    ∀ (n : Nat) (s : S), I s → μ s < n → Ok (whileF c b n s) P
  | 0, _, _, h => absurd h (Nat.not_lt_zero _)
  | n + 1, s, hI, hn => by
    unfold whileF
    rw [ok_bind]
    refine ok_mono (hs s hI) fun t ⟨h1, h2⟩ => ?_
    rw [ok_bif]
    refine ⟨fun e => ?_, fun e => ok_some.mpr (h2 e)⟩
    rw [ok_bind]
    refine ok_mono (h1 e) fun o ho => ?_
    cases o with
    | nx s' => exact ok_while I μ hs n s' ho.1 (by have := ho.2; omega)
    | bk b => exact False.elim ho
    | ct b => exact False.elim ho
    | rt b => exact False.elim ho
theorem ok_lc {c : α → Option Bool} {e : α → Option β} {P : List β → Prop} (p : α → Bool) (f : α → β) {l : List α} (hc : ∀ x, x ∈ l → c x = some (p x)) (he : ∀ x, x ∈ l → p x = true → e x = some (f x)) (h : P ((l.filter p).map f)) : Ok (lcL c e l) P := ⟨_, lcL_eq hc he, h⟩
theorem ok_map {e : α → Option β} {P : List β → Prop} (f : α → β) {l : List α} (he : ∀ x, x ∈ l → e x = some (f x)) (h : P (l.map f)) : Ok (lcL (fun _ => some true) e l) P := ⟨_, lcL_map he, h⟩
theorem ok_filter {c : α → Option Bool} {P : List α → Prop} (p : α → Bool) {l : List α} (hc : ∀ x, x ∈ l → c x = some (p x)) (h : P (l.filter p)) : Ok (lcL c (fun x => some x) l) P := ⟨_, lcL_filter hc, h⟩
theorem ok_iff {o : Option α} {v : α} : o = some v ↔ Ok o fun x => x = v := ⟨fun h => ⟨v, h, rfl⟩, fun ⟨_, e, h⟩ => h ▸ e⟩
theorem ok_of {o : Option α} {v : α} {P : α → Prop} (h : o = some v) (p : P v) : Ok o P := ⟨v, h, p⟩
/-- every item has a good value: then the list -/
theorem ok_all {e : α → Option β} {P : List β → Prop} (Q : α → β → Prop) : ∀ {l : List α}, (∀ x, x ∈ l → Ok (e x) (Q x)) → (∀ m : List β, m.length = l.length → (∀ (i : Nat) x y, l[i]? = some x → m[i]? = some y → Q x y) → P m) → Ok (lcL (fun _ => some true) e l) P := by
  intro l
  induction l generalizing P with
  | nil => exact fun _ h => ⟨[], rfl, h [] rfl fun i x y h => by simp at h⟩
  | cons x xs ih =>
    intro he h
    obtain ⟨y, e1, q1⟩ := he x (by simp)
    obtain ⟨m, e2, p⟩ := ih (P := fun m => P (y :: m)) (fun z hz => he z (by simp [hz])) fun m hm hq => h (y :: m) (by simp [hm]) fun i a b ha hb => by
      cases i with
      | zero => simp at ha hb; subst ha hb; exact q1
      | succ i => exact hq i a b (by simpa using ha) (by simpa using hb)
    refine ⟨y :: m, ?_, p⟩
    unfold lcL
    rw [Option.bind_some, cond_true, e1, Option.bind_some, e2]; rfl
def MulOk (i j : Int) : Prop := i.natAbs.log2 + j.natAbs.log2 < 1000000
theorem ok_mul {i j : Int} {P : Int → Prop} : Ok (mulG i j) P ↔ MulOk i j ∧ P (i * j) := by
  unfold mulG MulOk
  split <;> rename_i h
  · rw [ok_some]; simp [h]
  · rw [ok_none]; simp [h]
theorem mulOk {i j : Int} (hi : i.natAbs < 2 ^ 64) (hj : j.natAbs < 2 ^ 64) : MulOk i j := by
  have h1 := log2_lt64 hi
  have h2 := log2_lt64 hj
  unfold MulOk; omega
theorem ok_mod {i j : Int} {P : Int → Prop} : Ok (modG i j) P ↔ 0 < j ∧ P (i % j) := by
  unfold modG
  split <;> rename_i h
  · rw [ok_some]; simp [h]
  · rw [ok_none]; simp [h]
def DivOk (j : Int) : Prop := 0 < j ∧ j.natAbs.log2 < 9000
theorem divOk {j : Int} (h : 0 < j) (h2 : j.natAbs < 2 ^ 64) : DivOk j := ⟨h, by have := log2_lt64 h2; omega⟩
theorem ok_div {i j : Int} {P : Int → Prop} : Ok (divG i j) P ↔ DivOk j ∧ P (i / j) := by
  unfold divG DivOk
  split <;> rename_i h
  · rw [ok_some]; simp [h]
  · rw [ok_none]; simp [h]
theorem ok_appG {l : List α} {x : α} {P : List α → Prop} : Ok (appG l x) P ↔ l.length < 16777216 ∧ P (l ++ [x]) := by
  unfold appG
  rw [sizeLine_val]
  split <;> rename_i h
  · rw [ok_some]; simp [h]
  · rw [ok_none]; simp [h]
theorem ok_szG {l : List α} {P : List α → Prop} : Ok (szG l) P ↔ l.length ≤ 16777216 ∧ P l := by
  unfold szG
  rw [sizeLine_val]
  split <;> rename_i h
  · rw [ok_some]; simp [h]
  · rw [ok_none]; simp [h]
theorem ok_catG {l m : List α} {P : List α → Prop} : Ok (catG l m) P ↔ l.length + m.length ≤ 16777216 ∧ P (l ++ m) := by
  unfold catG
  rw [sizeLine_val]
  split <;> rename_i h
  · rw [ok_some]; simp [h]
  · rw [ok_none]; simp [h]
theorem ok_rng1 {j : Int} {P : List Int → Prop} (h : 0 ≤ j) (h2 : j ≤ 16777216) (p : P (rngL 0 j.toNat)) : Ok (rng1 j) P := ⟨_, rng1_of h h2, p⟩
theorem ok_atI {l : List α} {i : Int} {P : α → Prop} (h : 0 ≤ i) (h2 : i < l.length) (p : ∀ x, l[i.toNat]? = some x → x ∈ l → P x) : Ok (atI l i) P := by
  obtain ⟨x, h1, h3, h4⟩ := atI_nat' h h2
  exact ⟨x, h1, p x h3 h4⟩
end

section
variable {α β : Type}
theorem ok_allP {e : α → Option β} {P : List β → Prop} {l : List α} (Q : β → Prop) (he : ∀ x, x ∈ l → Ok (e x) Q) (h : ∀ m : List β, m.length = l.length → (∀ y, y ∈ m → Q y) → P m) : Ok (lcL (fun _ => some true) e l) P :=
  ok_all (fun _ y => Q y) he fun m hm hq => h m hm fun y hy => by
    obtain ⟨i, hi, e⟩ := List.mem_iff_getElem.mp hy
    exact hq i _ y (List.getElem?_eq_getElem (by omega)) (by rw [List.getElem?_eq_getElem hi, e])
theorem sum_bound {a b : Int} : ∀ {l : List Int}, (∀ w, w ∈ l → a ≤ w ∧ w ≤ b) → a * l.length ≤ l.sum ∧ l.sum ≤ b * l.length
  | [], _ => by simp
  | x :: xs, h => by
    obtain ⟨h1, h2⟩ := sum_bound (l := xs) fun w hw => h w (by simp [hw])
    obtain ⟨h3, h4⟩ := h x (by simp)
    simp only [List.sum_cons, List.length_cons, Int.natCast_add, Int.mul_add, Int.natCast_one, Int.mul_one]
    omega
theorem enumL_eq {l : List Int} : enumL l = (rngL 0 l.length).map fun k => T2.mk k (l.getD k.toNat 0) := by
  apply List.ext_getElem?
  intro i
  unfold enumL rngL
  rw [List.getElem?_zipWith, List.map_map, List.getElem?_map]
  by_cases c : i < l.length
  · rw [List.getElem?_range c, List.getElem?_eq_getElem c]
    simp [List.getElem?_eq_getElem c]
  · rw [List.getElem?_eq_none (by rw [List.length_range]; omega)]
    rfl
theorem maxL_ok {l : List Int} {P : Int → Prop} (h : l ≠ []) (hp : ∀ m, m ∈ l → (∀ x, x ∈ l → x ≤ m) → P m) : Ok (maxL l) P := by
  cases l with
  | nil => exact absurd rfl h
  | cons x xs =>
    have key : ∀ (ys : List Int) (m : Int), (ys.foldl (fun m y => if y > m then y else m) m = m ∨ ys.foldl (fun m y => if y > m then y else m) m ∈ ys) ∧ m ≤ ys.foldl (fun m y => if y > m then y else m) m ∧ ∀ y, y ∈ ys → y ≤ ys.foldl (fun m y => if y > m then y else m) m := by
      intro ys
      induction ys with
      | nil => exact fun m => ⟨.inl rfl, Int.le_refl _, fun y h => by simp at h⟩
      | cons y ys ih =>
        intro m
        obtain ⟨h1, h2, h3⟩ := ih (if y > m then y else m)
        rw [List.foldl_cons]
        refine ⟨?_, ?_, ?_⟩
        · rcases h1 with h1 | h1
          · rw [h1]
            split
            · exact .inr (by simp)
            · exact .inl rfl
          · exact .inr (by simp [h1])
        · have : m ≤ (if y > m then y else m) := by split <;> omega
          omega
        · intro z hz
          rw [List.mem_cons] at hz
          rcases hz with hz | hz
          · subst hz
            have : z ≤ (if z > m then z else m) := by split <;> omega
            omega
          · exact h3 z hz
    obtain ⟨h1, h2, h3⟩ := key xs x
    refine ⟨_, rfl, hp _ ?_ ?_⟩
    · rcases h1 with h1 | h1
      · rw [h1]; simp
      · simp [h1]
    · intro z hz
      rw [List.mem_cons] at hz
      rcases hz with hz | hz
      · subst hz; exact h2
      · exact h3 z hz
theorem ok_sortD [Enc α] [S : SortT α] {l : List α} {P : List α → Prop} (h : S.ok l = true) (h2 : l.length ≤ 16777216) (p : P (l.mergeSort leD)) : Ok (sortD l) P := ⟨_, if_pos ⟨h, by rw [sizeLine_val]; exact h2⟩, p⟩
theorem filter_sub [DecidableEq α] {l t : List α} (hn : l.Nodup) (h : t.Sublist l) : l.filter (fun x => decide (x ∈ t)) = t := by
  induction h with
  | slnil => rfl
  | @cons t l x h ih =>
    have hx := (List.nodup_cons.mp hn).1
    rw [List.filter_cons_of_neg (by simp; exact fun c => hx (h.subset c))]
    exact ih (List.nodup_cons.mp hn).2
  | @cons_cons t l x h ih =>
    have hx := (List.nodup_cons.mp hn).1
    rw [List.filter_cons_of_pos (by simp)]
    congr 1
    refine Eq.trans ?_ (ih (List.nodup_cons.mp hn).2)
    apply List.filter_congr
    intro y hy
    have : y ≠ x := fun c => hx (c ▸ hy)
    simp [this]
theorem rng_nodup {lo : Int} {n : Nat} : (rngL lo n).Nodup := by
  unfold rngL
  exact List.Pairwise.map _ (fun a b h c => h (by omega)) List.nodup_range
end
end Lay

set_option Elab.async false
set_option linter.all false
set_option maxRecDepth 100000
/-! LayB: a list comprehension with two clauses. -/
namespace Lay
open PySem PySem.Spec PyProof.Rows L2
open Lay.Enc (enc)
def lc2L {α β γ : Type} (oc : α → Option Bool) (oi : α → Option (List β)) (od : α → β → Option Bool) (oe : α → β → Option γ) : List α → Option (List γ)
  | [] => some []
  | x :: xs => (oc x).bind fun t => bif t then (oi x).bind fun m => (lcL (od x) (oe x) m).bind fun r => (lc2L oc oi od oe xs).bind fun s => some (r ++ s) else lc2L oc oi od oe xs
theorem lc2L_at {α β γ : Type} {oc : α → Option Bool} {oi : α → Option (List β)} {od : α → β → Option Bool} {oe : α → β → Option γ} {l : List α} {i : Nat} {x : α} {r : List γ} (h : l[i]? = some x) (h2 : lc2L oc oi od oe (l.drop i) = some r) :
    ∃ t, oc x = some t ∧ ((t = true ∧ ∃ m r1 r', oi x = some m ∧ lcL (od x) (oe x) m = some r1 ∧ r = r1 ++ r' ∧ lc2L oc oi od oe (l.drop (i + 1)) = some r') ∨ (t = false ∧ lc2L oc oi od oe (l.drop (i + 1)) = some r)) := by
  have hl : i < l.length := by
    by_cases c : i < l.length
    · exact c
    · rw [List.getElem?_eq_none (by omega)] at h; cases h
  have hx : l[i] = x := by rw [List.getElem?_eq_getElem hl] at h; exact Option.some.inj h
  rw [List.drop_eq_getElem_cons hl, hx] at h2
  unfold lc2L at h2
  obtain ⟨t, h3, h4⟩ := bind_get h2
  refine ⟨t, h3, ?_⟩
  cases t with
  | true =>
    rw [cond_true] at h4
    obtain ⟨m, h5, h4⟩ := bind_get h4
    obtain ⟨r1, h6, h4⟩ := bind_get h4
    obtain ⟨r', h7, h4⟩ := bind_get h4
    cases h4
    exact .inl ⟨rfl, m, r1, r', h5, h6, rfl, h7⟩
  | false => exact .inr ⟨rfl, h4⟩
/-- one item of an iterator, as it comes -/
theorem item_of {K : PySem.W.Frag} {F H4 H3 I1 I3 : Hp} {G : List Sl} {σ : L2.St} {ps : Nat → Option Addr} {x : V} {d : PyData} {D : Addr} {xs : List V} (R3 : RS K F G σ H3 I3 ps) (g : Same I1 I3) (n3 : I3 D = none) (hD3 : H3 D = some (.lst xs))
    (y4 : (H4 = H3 ∧ Dq I1 x d) ∨ ∃ T o, H3 T = none ∧ H4 = upd H3 T o ∧ Dq (upd I1 T o) x d) : ∃ I4, Grow F I3 I4 ∧ RS K F G σ H4 I4 ps ∧ Dq I4 x d ∧ I4 D = none ∧ H4 D = some (.lst xs) := by
  rcases y4 with ⟨e, d⟩ | ⟨T, o, n, e, d⟩
  · subst e; exact ⟨I3, Grow.refl, R3, Dq_mono g _ _ d, n3, hD3⟩
  · subst e
    have nT : D ≠ T := ne_of_none hD3 n
    refine ⟨upd I3 T o, R3.grow_new n, R3.new n, Dq_mono (fun b u q => ?_) _ _ d, by rw [upd_ne nT]; exact n3, by rw [upd_ne nT]; exact hD3⟩
    by_cases c : b = T
    · subst c; rw [upd_same] at q ⊢; exact q
    · rw [upd_ne c] at q ⊢; exact g _ _ q
section
variable {K : PySem.W.Frag} {F I' I'' H' : Hp} {G : List Sl} {σ : L2.St} {ps : Nat → Option Addr} {D : Addr} {xs : List V}
/-- within a turn the new list stands for others -/
theorem lc_in (hDF : F D = none) (hDp : ∀ i, ps i ≠ some D) (r : RS K F G σ H' I' ps) (n : I' D = none) (h : H' D = some (.lst xs)) : RS K (upd F D (.lst xs)) G σ H' I' ps := r.frame (fun b o z => by
  by_cases c : b = D
  · subst c; rw [upd_same] at z; cases z; exact h
  · rw [upd_ne c] at z; exact r.sf _ _ z) (fun i a ha => by rw [upd_ne (fun c : a = D => hDp i (by rw [← c]; exact ha))]; exact r.fo i a ha) (upd_iff n)
theorem lc_out (hDF : F D = none) (r : RS K (upd F D (.lst xs)) G σ H' I' ps) (n : I' D = none) (fo : ∀ i a, ps i = some a → F a = none) : RS K F G σ H' I' ps := r.frame ((same_upd hDF).trans r.sf) fo fun a z => (upd_iff n a z).symm
theorem lc_gr (hDF : F D = none) (g : Grow (upd F D (.lst xs)) I' I'') : Grow F I' I'' := ⟨g.same, fun a h => (g.out a h).imp_right (same_upd hDF).free⟩
theorem lc_keep (g : Grow (upd F D (.lst xs)) I' I'') (n : I' D = none) : I'' D = none := by
  cases z : I'' D with
  | none => rfl
  | some o =>
    rcases g.out D (by rw [z]; simp) with h | h
    · exact absurd n h
    · rw [upd_same] at h; cases h
theorem own_through {js vs : List Nat} {G' : List Sl} (hj : ∀ j ∈ js, j ∈ vs) (hf : ownFree G vs = true) (o5 : ∀ i, i ∉ js → slAt G' i = slAt (wipeG G vs) i) : ∀ (j : Nat) ds, slAt G j = .own ds → slAt G' j = .own ds ∧ j < G'.length := fun j ds h => by
  have nv : j ∉ vs := fun z => by
    have q := List.all_eq_true.mp hf j z
    rw [h] at q; cases q
  have e : slAt G' j = .own ds := by rw [o5 j (fun z => nv (hj j z)), wipeG_out nv]; exact h
  refine ⟨e, ?_⟩
  by_cases c : j < G'.length
  · exact c
  · rw [slAt_out (by omega)] at e; cases e
end
section
variable {X : Cx} {G : List Sl} {N : List Str} {sc : Scope} {fs : Option Scope} {k : Nat} {α β γ : Type} [Enc α] [Enc β] [Enc γ] {elt tg iter tg1 iter1 : Expr} {ifs ifs1 : List Expr} {scope : Scope} {pos : Pos} {g g1 : L2.TG} {js js1 : List Nat} {f : α → List Sl → List Sl} {f1 : β → List Sl → List Sl}
theorem lc2_mk {own : List (Str × Nat)} {vs1 : List Nat} {ol : Option (List α)} {oc : α → Option Bool} {oi : α → Option (List β)} {od : α → β → Option Bool} {oe : α → β → Option γ} (C : Ctx X N sc fs k) (hi : IT X G tg iter ol) (ok : blkC N sc scope own = true)
    (hg : ∀ s H Ca cl fp, PG (X.blk s H scope (compEnvC scope cl Ca X.env) fp) tg g) (ht : Tgt X.K g js f) (hj : ∀ j ∈ js, j ∈ own.map (·.2)) (hf : ownFree G (own.map (·.2)) = true)
    (hc : ∀ s H Ca cl fp x, ETs (X.blk s H scope (compEnvC scope cl Ca X.env) fp) (f x (wipeG G (own.map (·.2)))) ifs (oc x))
    (hi1 : ∀ s H Ca cl fp x, IT (X.blk s H scope (compEnvC scope cl Ca X.env) fp) (f x (wipeG G (own.map (·.2)))) tg1 iter1 (oi x))
    (hg1 : ∀ s H Ca cl fp, PG (X.blk s H scope (compEnvC scope cl Ca X.env) fp) tg1 g1) (ht1 : Tgt X.K g1 js1 f1) (hj1 : ∀ j ∈ js1, j ∈ vs1) (hv1 : ∀ j ∈ vs1, j ∈ own.map (·.2)) (hf1 : ∀ x, ownFree (f x (wipeG G (own.map (·.2)))) vs1 = true)
    (hd : ∀ s H Ca cl fp x y, ETs (X.blk s H scope (compEnvC scope cl Ca X.env) fp) (f1 y (wipeG (f x (wipeG G (own.map (·.2)))) vs1)) ifs1 (od x y))
    (he : ∀ s H Ca cl fp x y, ED (X.blk s H scope (compEnvC scope cl Ca X.env) fp) (f1 y (wipeG (f x (wipeG G (own.map (·.2)))) vs1)) elt (oe x y))
    (hs : ∀ x, foldedSetIterable iter X.env x = pure x := by intro _; rfl) (hs1 : ∀ env x, foldedSetIterable iter1 env x = pure x := by intro _ _; rfl) :
    LC X G (.ListComp elt [⟨tg, iter, ifs, 0⟩, ⟨tg1, iter1, ifs1, 0⟩] scope pos) (ol.bind fun l => (lc2L oc oi od oe l).bind szG) := fun r hr => by
  obtain ⟨l, h1, h0⟩ := bind_get hr
  obtain ⟨r0, h2, h3⟩ := bind_get h0
  obtain ⟨hsz, e0⟩ := ite_get h3
  subst e0
  obtain ⟨vs, hvs⟩ : ∃ vs, own.map (·.2) = vs := ⟨_, rfl⟩
  rw [hvs] at hj hf
  simp only [hvs] at hc he hi1 hd hv1 hf1
  let te : TE := fun σ H Q => ∃ x y z, oe x y = some z ∧ tD X.K (f1 y (wipeG (f x (wipeG G vs)) vs1)) (enc z) σ H Q
  let tt : TT := fun σ H Q => ∃ x b, oc x = some b ∧ tB X.K (f x (wipeG G vs)) b σ H Q
  let tt1 : TT := fun σ H Q => ∃ x y b, od x y = some b ∧ tB X.K (f1 y (wipeG (f x (wipeG G vs)) vs1)) b σ H Q
  let wi1 : TI := fun σ H R => ∃ x m, oi x = some m ∧ tI X.K (f x (wipeG G vs)) (m.map enc) σ H R
  have pe : ∀ s H Ca cl fp, PE (X.blk s H scope (compEnvC scope cl Ca X.env) fp) elt te := fun s H Ca cl fp => ⟨fun pins st σ H' Q I ⟨x, y, z, e, q⟩ => (he s H Ca cl fp x y z e).run pins st σ H' Q I q⟩
  have pt : ∀ s H Ca cl fp, PTs (X.blk s H scope (compEnvC scope cl Ca X.env) fp) ifs tt := fun s H Ca cl fp => ⟨fun pins st σ H' Q I ⟨x, b, e, q⟩ => (hc s H Ca cl fp x b e).run pins st σ H' Q I q⟩
  have pt1 : ∀ s H Ca cl fp, PTs (X.blk s H scope (compEnvC scope cl Ca X.env) fp) ifs1 tt1 := fun s H Ca cl fp => ⟨fun pins st σ H' Q I ⟨x, y, b, e, q⟩ => (hd s H Ca cl fp x y b e).run pins st σ H' Q I q⟩
  have pi1 : ∀ s H Ca cl fp, PI (X.blk s H scope (compEnvC scope cl Ca X.env) fp) tg1 iter1 wi1 := fun s H Ca cl fp => ⟨fun pins st σ H' Q I ⟨x, m, e, q⟩ => (hi1 s H Ca cl fp x m e).run pins st σ H' Q I q⟩
  have nd : X.N.Nodup := by rw [C.n]; exact C.nd
  have bk : BlkOk X.N X.env.scope scope own := by rw [C.n, C.s]; exact blkOk_by ok
  have hv : ∀ j ∈ vs1, j ∈ own.map (·.2) := by rw [hvs]; exact hv1
  refine ⟨_, pe_lc2 C.calm nd (hi l h1) bk hv hg pt pi1 hg1 pt1 pe hs hs1, fun i y py sp a b c => ps_setLc2 C.calm nd a b c (hi l h1) bk hv hg pt pi1 hg1 pt1 pe hs hs1, fun σ H Q ⟨F, I, ps, R, q⟩ => ?_⟩
  rw [hvs]
  refine ⟨F, I, ps, R, fun J H1 I1 gr1 R1 wl ll D hD => ?_⟩
  have hD1 : I1 D = none := R1.si.free hD
  have hDF : F D = none := R1.sf.free hD
  have hDp : ∀ i, ps i ≠ some D := fun i c => by obtain ⟨_, _, xs, z⟩ := R1.own_at c; rw [hD] at z; cases z
  refine ⟨fun i m H => m = l.length - i ∧ i ≤ l.length ∧ ∃ I' xs done rst, Grow F I1 I' ∧ RS X.K F G σ H I' ps ∧ I' D = none ∧ H D = some (.lst xs) ∧ DqAll I' xs (done.map enc) ∧ lc2L oc oi od oe (l.drop i) = some rst ∧ r0 = done ++ rst,
    ⟨_, rfl, Nat.zero_le _, I1, [], [], r0, Grow.refl, R1.newOwn hD, hD1, upd_same, .nil, h2, rfl⟩, ?_⟩
  rintro i m H3 ⟨rfl, hil, I3, xs, done, rst, gr3, R3, n3, hD3, d3, hr3, er⟩
  have sI : Same I1 H3 := gr3.same.trans R3.si
  by_cases hlt : i < l.length
  · have hx : l[i]? = some l[i] := List.getElem?_eq_getElem hlt
    obtain ⟨t, ht1', ht2⟩ := lc2L_at hx hr3
    obtain ⟨go, yl⟩ := wl.go i (enc l[i]) H3 sI (by rw [List.getElem?_map, hx]; rfl)
    refine .inr ⟨go, fun H' => ∃ I' xs done rst, Grow F I1 I' ∧ RS X.K F G σ H' I' ps ∧ I' D = none ∧ H' D = some (.lst xs) ∧ DqAll I' xs (done.map enc) ∧ lc2L oc oi od oe (l.drop (i + 1)) = some rst ∧ r0 = done ++ rst,
      fun H' hN => ⟨l.length - (i + 1), by omega, rfl, hlt, hN⟩, fun x H4 y4 => ?_⟩
    generalize l[i] = x0 at *
    obtain ⟨I4, g4, R4, d4, n4, hD4⟩ := item_of R3 gr3.same n3 hD3 (yl x H4 y4)
    have hpv := ownFree_ps R4 hf
    have Rw := (lc_in hDF hDp R4 n4 hD4).wiped vs hpv
    refine ht.go x0 _ _ _ H4 I4 ps x _ Rw (fun j h => hpv j (hj j h)) d4 fun σ5 R5 w5 o5 => ⟨(w5 vs hj).trans wipe_wipe, ?_⟩
    have hG := own_through hj hf o5
    refine ⟨x0, t, ht1', upd F D (.lst xs), I4, ps, R5, fun H6 I6 g6 R6 => ?_⟩
    have hD6 : H6 D = some (.lst xs) := R6.sf _ _ upd_same
    rcases ht2 with ⟨rfl, m, r1, r', hm, hr1, er2, hr4⟩ | ⟨rfl, hr4⟩
    · refine iteT ⟨x0, m, hm, upd F D (.lst xs), I6, ps, R6, fun J1 H7 I7 g7 R7 wl1 ll1 => ?_⟩
      have hD7 : H7 D = some (.lst xs) := R7.sf _ _ upd_same
      have n7 : I7 D = none := lc_keep (g6.trans g7) n4
      have R7' := lc_out hDF R7 n7 R4.fo
      have g47 := lc_gr hDF (g6.trans g7)
      refine ⟨fun j k H => k = m.length - j ∧ j ≤ m.length ∧ ∃ I' xs done rst, Grow F I7 I' ∧ RS X.K F (f x0 (wipeG G vs)) σ5 H I' ps ∧ I' D = none ∧ H D = some (.lst xs) ∧ DqAll I' xs (done.map enc) ∧ lcL (od x0) (oe x0) (m.drop j) = some rst ∧ r0 = done ++ rst ++ r',
        ⟨_, rfl, Nat.zero_le _, I7, xs, done, r1, Grow.refl, R7', n7, hD7, DqAll_mono (g4.trans g47).same _ _ d3, hr1, by rw [er, er2, List.append_assoc]⟩, ?_⟩
      rintro j k' H8 ⟨rfl, hjl, I8, ys, done8, rst8, gr8, R8, n8, hD8, d8, hr8, er8⟩
      have sI8 : Same I7 H8 := gr8.same.trans R8.si
      by_cases hlt8 : j < m.length
      · have hy : m[j]? = some m[j] := List.getElem?_eq_getElem hlt8
        obtain ⟨b, hb1, hb2⟩ := lcL_at hy hr8
        obtain ⟨go8, yl8⟩ := wl1.go j (enc m[j]) H8 sI8 (by rw [List.getElem?_map, hy]; rfl)
        refine .inr ⟨go8, fun H' => ∃ I' xs done rst, Grow F I7 I' ∧ RS X.K F (f x0 (wipeG G vs)) σ5 H' I' ps ∧ I' D = none ∧ H' D = some (.lst xs) ∧ DqAll I' xs (done.map enc) ∧ lcL (od x0) (oe x0) (m.drop (j + 1)) = some rst ∧ r0 = done ++ rst ++ r',
          fun H' hN => ⟨m.length - (j + 1), by omega, rfl, hlt8, hN⟩, fun y H9 y9 => ?_⟩
        generalize m[j] = y0 at *
        obtain ⟨I9, g9, R9, d9, n9, hD9⟩ := item_of R8 gr8.same n8 hD8 (yl8 y H9 y9)
        have hpv9 := ownFree_ps R9 (hf1 x0)
        have Rw9 := (lc_in hDF hDp R9 n9 hD9).wiped vs1 hpv9
        refine ht1.go y0 _ _ _ H9 I9 ps y _ Rw9 (fun j h => hpv9 j (hj1 j h)) d9 fun σA RA wA oA => ⟨(wA vs1 hj1).trans wipe_wipe, ?_⟩
        have hGA := own_through hj1 (hf1 x0) oA
        refine ⟨x0, y0, b, hb1, upd F D (.lst ys), I9, ps, RA, fun HB IB gB RB => ?_⟩
        rcases hb2 with ⟨rfl, z, r8', hz, er9, hr9⟩ | ⟨rfl, hr9⟩
        · refine iteT ⟨x0, y0, z, hz, upd F D (.lst ys), IB, ps, RB, fun v HC IC gC RC dC => ?_⟩
          have g9C := lc_gr hDF (gB.trans gC)
          have hDC : HC D = some (.lst ys) := RC.sf _ _ upd_same
          have nC : IC D = none := lc_keep (gB.trans gC) n9
          have R10 := (R9.back RC (same_upd hDF) (gB.trans gC).same hGA).wr (o := .lst (ys ++ [v])) nC hDF hDp
          have ly : ys.length = done8.length := by rw [d8.len, List.length_map]
          have lr : r0.length = done8.length + 1 + r8'.length + r'.length := by rw [er8, er9]; simp [List.length_append]; omega
          refine ⟨ys, hDC, by omega, IC, ys ++ [v], done8 ++ [z], r8', gr8.trans (g9.trans g9C), R10, nC, upd_same, ?_, hr9, by rw [er8, er9]; simp⟩
          rw [List.map_append]
          exact (DqAll_mono (g9.trans g9C).same _ _ d8).app (.cons dC .nil)
        · have hDB : HB D = some (.lst ys) := RB.sf _ _ upd_same
          exact iteF ⟨IB, ys, done8, rst8, gr8.trans (g9.trans (lc_gr hDF gB)), R9.back RB (same_upd hDF) gB.same hGA, lc_keep gB n9, hDB, DqAll_mono (g9.trans (lc_gr hDF gB)).same _ _ d8, hr9, er8⟩
      · have e : j = m.length := by omega
        subst e
        rw [List.drop_length] at hr8
        cases hr8
        rw [List.append_nil] at er8
        have wst := wl1.st H8 sI8
        rw [List.length_map] at wst
        exact .inl ⟨wst, I8, ys, done8, r', gr3.trans (g4.trans (g47.trans gr8)), R4.back R8 (Same.refl _) (g47.trans gr8).same hG, n8, hD8, d8, hr4, er8⟩
    · exact iteF ⟨I6, xs, done, rst, gr3.trans (g4.trans (lc_gr hDF g6)), R4.back R6 (same_upd hDF) g6.same hG, lc_keep g6 n4, hD6, DqAll_mono (g4.trans (lc_gr hDF g6)).same _ _ d3, hr4, er⟩
  · have e : i = l.length := by omega
    subst e
    rw [List.drop_length] at hr3
    cases hr3
    rw [List.append_nil] at er
    subst er
    have wst := wl.st H3 sI
    rw [List.length_map] at wst
    exact .inl ⟨wst, q D xs H3 I3 (gr1.trans gr3) R3 n3 hDF hDp hD3 d3⟩
end
end Lay

set_option Elab.async false
set_option linter.all false
set_option maxRecDepth 100000
/-! LayY: zip of three, lists and tuples in any mix. -/
namespace Lay
open PySem PySem.Spec PyProof.Rows L2
open Lay.Enc (enc)
/-- the three at a, c, e, item by item, in new tuples -/
def Itz3 (K : PySem.W.Frag) (ba bc be : Bool) (a c e : Addr) : It where
  go i H := ∃ (xs ys zs : List V) (x y z : V), SqB K ba H a xs ∧ SqB K bc H c ys ∧ SqB K be H e zs ∧ xs[i]? = some x ∧ ys[i]? = some y ∧ zs[i]? = some z
  yld i H v H' := ∃ T x y z, v = .ref T ∧ H T = none ∧ H' = upd H T (.tup [x, y, z]) ∧ (∀ xs, SqB K ba H a xs → xs[i]? = some x) ∧ (∀ ys, SqB K bc H c ys → ys[i]? = some y) ∧ ∀ zs, SqB K be H e zs → zs[i]? = some z
  stop i H := ∃ xs ys zs : List V, SqB K ba H a xs ∧ SqB K bc H c ys ∧ SqB K be H e zs ∧ i ≤ xs.length ∧ i ≤ ys.length ∧ i ≤ zs.length ∧ (i = xs.length ∨ i = ys.length ∨ i = zs.length)
abbrev zipF3 (n : Nat) : List Addr := [n + 5, n + 3, n + 4, n, n + 1, n + 2]
def zipS3 (n : Nat) (ba bc be : Bool) (a c e : Addr) (i : Nat) (h : Heap) : Prop :=
  IsZip h (n + 5) (n + 3) (n + 4) .none ∧ IsTupOf3 h (n + 3) (.ref n) (.ref (n + 1)) (.ref (n + 2)) ∧ (∃ u v w, IsTupOf3 h (n + 4) u v w) ∧ IterB ba h n a i ∧ IterB bc h (n + 1) c i ∧ IterB be h (n + 2) e i
theorem turn_zip3 {P : Program} {w : World} {K : PySem.W.Frag} {es : List Expr} {kk : Nat} {tp : Pos} {ba bc be : Bool} {a c e n : Addr} (ha : a < n) (hc : c < n) (he : e < n) :
    Turn P w K (.Tuple es kk tp) (Itz3 K ba bc be a c e) (zipF3 n) (n + 5) (zipS3 n ba bc be a c e) := by
  have one : ∀ {x : Addr}, x < n → ∀ b ∈ [x], b < n := fun h b hb => by rw [List.mem_singleton.mp hb]; exact h
  have sep : ZipSep3 (n + 5) (n + 3) (n + 4) n (n + 1) (n + 2) [n, a] [n + 1, c] [n + 2, e] := zip_sep3 (N := n) (fp1 := [a]) (fp2 := [c]) (fp3 := [e]) (one ha) (one hc) (one he)
  have six : ∀ {b : Addr}, b ∈ zipF3 n → b = n + 5 ∨ b = n + 3 ∨ b = n + 4 ∨ b = n ∨ b = n + 1 ∨ b = n + 2 := fun h => by simpa [zipF3] using h
  refine { mem := by simp [zipF3], obj := ?_, keep := ?_, item := ?_, done := ?_, self := ?_ }
  · rintro i h ⟨z1, z2, ⟨u, v, q, z3⟩, z4, z5, z6⟩ b hb
    rcases six hb with r | r | r | r | r | r <;> subst r
    · exact ⟨_, z1, fun _ z => nomatch z⟩
    · exact ⟨_, z2, fun _ z => nomatch z⟩
    · exact ⟨_, z3, fun _ z => nomatch z⟩
    · exact z4.obj
    · exact z5.obj
    · exact z6.obj
  · rintro i h h' ⟨z1, z2, ⟨u, v, q, z3⟩, z4, z5, z6⟩ kp
    exact ⟨kp _ (by simp [zipF3]) _ z1, kp _ (by simp [zipF3]) _ z2, ⟨u, v, q, kp _ (by simp [zipF3]) _ z3⟩, z4.at (kp _ (by simp [zipF3])), z5.at (kp _ (by simp [zipF3])), z6.at (kp _ (by simp [zipF3]))⟩
  · intro X e1 e2 e3 calm i pins s σ H E I hf st hg
    subst e1 e2 e3
    obtain ⟨z1, z2, ⟨u, v, q, z3⟩, z4, z5, z6⟩ := st
    obtain ⟨xs, ys, zs, x, y, z, qa, qc, qe, hx, hy, hz⟩ := hg
    obtain ⟨ia, ra, pa⟩ := sqB_items I qa
    obtain ⟨ic, rc, pc⟩ := sqB_items I qc
    obtain ⟨ie, re, pe⟩ := sqB_items I qe
    have hd : X.A.in1.handled = none := I.ok.hd calm
    have la : i < ia.toArray.size := by rw [List.size_toArray, ← ra.length]; exact (List.getElem?_eq_some_iff.mp hx).1
    have lc : i < ic.toArray.size := by rw [List.size_toArray, ← rc.length]; exact (List.getElem?_eq_some_iff.mp hy).1
    have le : i < ie.toArray.size := by rw [List.size_toArray, ← re.length]; exact (List.getElem?_eq_some_iff.mp hz).1
    refine wpAny_pyNext_zipD3_item sep (draws_b hd ba n a (Nat.ne_of_lt ha) ia.toArray) (draws_b hd bc (n + 1) c (Nat.ne_of_lt (Nat.lt_succ_of_lt hc)) ic.toArray) (draws_b hd be (n + 2) e (Nat.ne_of_lt (Nat.lt_succ_of_lt (Nat.lt_succ_of_lt he))) ie.toArray) z1 z2 z3 ⟨z4, pa⟩ ⟨z5, pc⟩ ⟨z6, pe⟩ la lc le
      fun u1 u2 u3 h1 tk p1 p2 p3 y1 y2 y4 y5 y6 hT hsz kp => ?_
    have zlt : n + 5 < s.heap.objs.size := Heap.lt_size z1
    refine ⟨_, rfl, wpAny_letOwnedTupleGo_zip (s := { s with heap := h1, toks := tk }) y1 fun h2 y1' sb => ?_⟩
    obtain ⟨w1, hw1, r1⟩ := ra.get hx
    obtain ⟨w2, hw2, r2⟩ := rc.get hy
    obtain ⟨w3, hw3, r3⟩ := re.get hz
    have q1 : u1 = w1 := by
      have := p1; simp only [List.getElem?_toArray] at this; rw [hw1] at this; exact (Option.some.inj this).symm
    have q2 : u2 = w2 := by
      have := p2; simp only [List.getElem?_toArray] at this; rw [hw2] at this; exact (Option.some.inj this).symm
    have q3 : u3 = w3 := by
      have := p3; simp only [List.getElem?_toArray] at this; rw [hw3] at this; exact (Option.some.inj this).symm
    subst q1 q2 q3
    have hT2 : h2.get? s.heap.objs.size = some { cls := .type "tuple", data := .seq #[u1, u2, u3] } := (sb.2 _ (Nat.ne_of_gt zlt)).trans hT
    have ok : ObjOk X.prog X.w (upd H s.heap.objs.size (.tup [x, y, z])) h2 s.heap.objs.size (.tup [x, y, z]) := ⟨small_line (by show 3 ≤ 8; decide), [u1, u2, u3], .cons r1 (.cons r2 (.cons r3 .nil)), ⟨_, hT2, rfl, _, rfl⟩⟩
    have kp2 : ∀ b o, b ∉ zipF3 n → s.heap.get? b = some o → h2.get? b = some o := fun b o hb e => by
      simp only [zipF3, List.mem_cons, List.not_mem_nil, or_false, not_or] at hb
      exact (sb.2 b hb.1).trans (kp b o hb.1 hb.2.2.1 hb.2.2.2.1 hb.2.2.2.2.1 hb.2.2.2.2.2 e)
    have I1 : Inv X pins σ (upd H s.heap.objs.size (.tup [x, y, z])) { s with heap := h2, toks := tk } := I.turnedNew (t' := tk) (ch := zipF3 n) kp2 hf (Nat.le_refl _) ok
    refine ⟨.ref s.heap.objs.size, _, I1, rfl, ⟨_, x, y, z, rfl, I.hok.fresh (Nat.le_refl _), rfl, fun l hl => ?_, fun l hl => ?_, fun l hl => ?_⟩, ⟨y1', ?_, ⟨u1, u2, u3, ?_⟩, ?_, ?_, ?_⟩, fun b hb => ?_⟩
    · rw [sqB_inj I hl qa]; exact hx
    · rw [sqB_inj I hl qc]; exact hy
    · rw [sqB_inj I hl qe]; exact hz
    · exact (sb.2 _ sep.TIz).trans (kp _ _ sep.TIz sep.TITO sep.TIi1 sep.TIi2 sep.TIi3 z2)
    · exact (sb.2 _ sep.TOz).trans y2
    · exact y4.1.at fun o e => (sb.2 _ sep.zi1.symm).trans e
    · exact y5.1.at fun o e => (sb.2 _ sep.zi2.symm).trans e
    · exact y6.1.at fun o e => (sb.2 _ sep.zi3.symm).trans e
    · have lt : b < s.heap.objs.size := by
        rcases six hb with r | r | r | r | r | r <;> subst r
        · exact zlt
        · exact Heap.lt_size z2
        · exact Heap.lt_size z3
        · obtain ⟨o, e, _⟩ := z4.obj; exact Heap.lt_size e
        · obtain ⟨o, e, _⟩ := z5.obj; exact Heap.lt_size e
        · obtain ⟨o, e, _⟩ := z6.obj; exact Heap.lt_size e
      rw [upd_ne (Nat.ne_of_lt lt)]
      exact (hf b hb).1
  · intro X e1 e2 e3 calm i pins s σ H E I hf st hg
    subst e1 e2 e3
    obtain ⟨z1, z2, ⟨u, v, q, z3⟩, z4, z5, z6⟩ := st
    obtain ⟨xs, ys, zs, qa, qc, qe, l1, l2, l3, hend⟩ := hg
    obtain ⟨ia, ra, pa⟩ := sqB_items I qa
    obtain ⟨ic, rc, pc⟩ := sqB_items I qc
    obtain ⟨ie, re, pe⟩ := sqB_items I qe
    have hd : X.A.in1.handled = none := I.ok.hd calm
    have ea : ia.toArray.size = xs.length := by rw [List.size_toArray, ra.length]
    have ec : ic.toArray.size = ys.length := by rw [List.size_toArray, rc.length]
    have ee : ie.toArray.size = zs.length := by rw [List.size_toArray, re.length]
    refine wpAny_pyNext_zipD3_end sep (draws_b hd ba n a (Nat.ne_of_lt ha) ia.toArray) (draws_b hd bc (n + 1) c (Nat.ne_of_lt (Nat.lt_succ_of_lt hc)) ic.toArray) (draws_b hd be (n + 2) e (Nat.ne_of_lt (Nat.lt_succ_of_lt (Nat.lt_succ_of_lt he))) ie.toArray) z1 z2 z3 ⟨z4, pa⟩ ⟨z5, pc⟩ ⟨z6, pe⟩ (by omega) (by omega) (by omega) (by rw [ea, ec, ee]; exact hend)
      fun h1 tk kp => ⟨rfl, I.turnedL (t' := tk) (ch := zipF3 n) (fun b o hb e => ?_) hf⟩
    simp only [zipF3, List.mem_cons, List.not_mem_nil, or_false, not_or] at hb
    exact kp b o hb.1 hb.2.2.1 hb.2.2.2.1 hb.2.2.2.2.1 hb.2.2.2.2.2 e
  · exact fun A i s Q E st h => wpAny_pyIter_zip st.1 h
def iZip3 (K : PySem.W.Frag) (ba bc be : Bool) (ta : TA) : TI := fun σ H R => ta σ H fun vs H1 => ∃ a c e xs ys zs, vs = [.ref a, .ref c, .ref e] ∧ SqB K ba H1 a xs ∧ SqB K bc H1 c ys ∧ SqB K be H1 e zs ∧ R (Itz3 K ba bc be a c e) H1
theorem vals3 {a b c : V} {us : List Value} (h : Vals [a, b, c] us) : ∃ u v w, us = [u, v, w] ∧ RelV a u ∧ RelV b v ∧ RelV c w := by
  cases h with
  | cons h1 h2 => cases h2 with
    | cons h2 h3 => cases h3 with
      | cons h3 h4 => cases h4; exact ⟨_, _, _, rfl, h1, h2, h3⟩
theorem pi_zip3 {X : Cx} {e e2 e3 : Expr} {ta : TA} {p pos tp : Pos} {es : List Expr} {kk : Nat} (ba bc be : Bool) (gl : Gl X "zip") (hm : X.mg "zip" = none) (hA : PA X [e, e2, e3] ta)
    (s1 : starEach [e, e2, e3] X.env = (false, eval e X.env) :: starEach [e2, e3] X.env) (s2 : (backTo pos (starEach [e2, e3] X.env)).any (·.1) = false) : PI X (.Tuple es kk tp) (.Call (.Name "zip" p) [e, e2, e3] [] pos) (iZip3 X.K ba bc be ta) := ⟨fun pins s σ H R I h => by
  refine Call_ (ld_blt I gl hm PyProof.Rows.boot_zip (PyProof.Rows.callWith_type1 (thn (hA.run pos pins s σ H _ I h) fun us st q => ?_) s1 s2))
  obtain ⟨vs, H1, I1, rv, a, c, d, xs, ys, zs, ev, qa, qc, qd, q⟩ := q
  subst ev
  obtain ⟨u1, u2, u3, eu, r1, r2, r3⟩ := vals3 rv
  subst eu
  have r1 : u1 = .ref a := r1
  have r2 : u2 = .ref c := r2
  have r3 : u3 = .ref d := r3
  subst r1 r2 r3
  obtain ⟨ia, ra, pa⟩ := sqB_items I1 qa
  obtain ⟨ic, rc, pc⟩ := sqB_items I1 qc
  obtain ⟨id', rd, pd⟩ := sqB_items I1 qd
  obtain ⟨o1, B1, w1⟩ := begins_b ba a ia.toArray
  obtain ⟨o2, B2, w2⟩ := begins_b bc c ic.toArray
  obtain ⟨o3, B3, w3⟩ := begins_b be d id'.toArray
  refine zip_begins3 B1 B2 B3 pa pc pd fun h' z1 z2 z3 z4 z5 z6 hz kp => wpAny_pyIter_zip z1 ?_
  exact ⟨_, zipF3 st.heap.objs.size, _, _, H1, rfl, I1.kept (t' := st.toks) kp, turn_zip3 (objB_lt pa) (objB_lt pc) (objB_lt pd), ⟨z1, z2, ⟨_, _, _, z3⟩, w1 _ _ z4, w2 _ _ z5, w3 _ _ z6⟩, fun b hb => by
    have le : st.heap.objs.size ≤ b := by
      simp only [zipF3, List.mem_cons, List.not_mem_nil, or_false] at hb
      rcases hb with e | e | e | e | e | e <;> (rw [e]; first | exact Nat.le_refl _ | exact Nat.le_add_right _ _)
    exact I1.fpOk le (I1.hok.fresh le), q⟩⟩
def zipL3 {α β γ : Type} (l : List α) (m : List β) (n : List γ) : List (T3 α β γ) := (l.zip (m.zip n)).map fun p => ⟨p.1, p.2.1, p.2.2⟩
theorem it_zip3 {X : Cx} {G : List Sl} {σ τ υ α β γ : Type} [Enc α] [Enc β] [Enc γ] [Enc σ] [Enc τ] [Enc υ] [S : SeqD σ α] [T : SeqD τ β] [U : SeqD υ γ] {e e2 e3 : Expr} {N : List Str} {sc : Scope} {fs : Option Scope} {k : Nat} {p pos tpos : Pos} {elts : List Expr} {kk : Nat} {o : Option σ} {o2 : Option τ} {o3 : Option υ}
    (C : Ctx X N sc fs k) (hg : glbB sc "zip" = true) (hm : X.mg "zip" = none) (h : ED X G e o) (h' : ED X G e2 o2) (h'' : ED X G e3 o3)
    (hs : starEach [e, e2, e3] X.env = (false, eval e X.env) :: starEach [e2, e3] X.env := by rfl) (hs1 : starEach [e2, e3] X.env = (false, eval e2 X.env) :: starEach [e3] X.env := by rfl) (hs2 : starEach [e3] X.env = [(false, eval e3 X.env)] := by rfl) (hpl : (backTo pos (starEach [e2, e3] X.env)).any (·.1) = false := by rfl) :
    IT X G (.Tuple elts kk tpos) (.Call (.Name "zip" p) [e, e2, e3] [] pos) (lift3 (fun x y z => zipL3 (S.ls x) (T.ls y) (U.ls z)) o o2 o3) := fun l hl => by
  obtain ⟨t, h1, hl⟩ := bind_get hl
  obtain ⟨u, h2, hl⟩ := bind_get hl
  obtain ⟨v, h3, hl⟩ := bind_get hl
  cases hl
  have pa : PA X [e, e2, e3] (tA X.K G [enc t, enc u, enc v]) := ad_cons h (ad_cons h' (ad_cons h'' ad_nil hs2) hs1) hs _ (by rw [h1, h2, h3]; rfl)
  refine (pi_len (pi_zip3 S.kd T.kd U.kd (glbB_gl C.s hg).1 hm pa hs hpl) fun σ H R R' w ⟨F, I, ps, r, q⟩ => ⟨F, I, ps, r, fun v H' I' g r' d => by obtain ⟨a, b, c, xs, ys, zs, e, z1, z2, z3, q⟩ := q v H' I' g r' d; exact ⟨a, b, c, xs, ys, zs, e, z1, z2, z3, w _ _ q⟩⟩).imp
    fun σ H R ⟨F, I, ps, r, q⟩ => ⟨F, I, ps, r, fun vs H' I' g r' d => ?_⟩
  cases d with
  | cons d1 d2 =>
    cases d2 with
    | cons d2 d3 =>
      cases d3 with
      | cons d3 d4 =>
        cases d4
        obtain ⟨a1, xs, e1, k1, k2⟩ := SeqD.sq (K := X.K) d1
        obtain ⟨a2, ys, e2, k3, k4⟩ := SeqD.sq (K := X.K) d2
        obtain ⟨a3, zs, e3, k5, k6⟩ := SeqD.sq (K := X.K) d3
        subst e1 e2 e3
        have lx : xs.length = (S.ls t).length := by rw [k2.len, List.length_map]
        have ly : ys.length = (T.ls u).length := by rw [k4.len, List.length_map]
        have lz : zs.length = (U.ls v).length := by rw [k6.len, List.length_map]
        have ln : (zipL3 (S.ls t) (T.ls u) (U.ls v)).length = min (S.ls t).length (min (T.ls u).length (U.ls v).length) := by unfold zipL3; rw [List.length_map, List.length_zip, List.length_zip]
        refine ⟨_, _, _, _, _, _, rfl, k1 _ r'.si, k3 _ r'.si, k5 _ r'.si, fun lo => q _ _ I' g r' ⟨fun i d H s hd => ?_, fun H s => ?_⟩ ?_⟩
        · have hi : i < min (S.ls t).length (min (T.ls u).length (U.ls v).length) := by
            have := (List.getElem?_eq_some_iff.mp hd).1
            rw [List.length_map, ln] at this; exact this
          have hx : (S.ls t)[i]? = some ((S.ls t)[i]'(by omega)) := List.getElem?_eq_getElem (by omega)
          have hy : (T.ls u)[i]? = some ((T.ls u)[i]'(by omega)) := List.getElem?_eq_getElem (by omega)
          have hz : (U.ls v)[i]? = some ((U.ls v)[i]'(by omega)) := List.getElem?_eq_getElem (by omega)
          generalize ((S.ls t)[i]'(by omega)) = x0 at hx
          generalize ((T.ls u)[i]'(by omega)) = y0 at hy
          generalize ((U.ls v)[i]'(by omega)) = z0 at hz
          have e0 : (zipL3 (S.ls t) (T.ls u) (U.ls v))[i]? = some ⟨x0, y0, z0⟩ := by
            unfold zipL3
            have ez : ((T.ls u).zip (U.ls v))[i]? = some (y0, z0) := List.getElem?_zip_eq_some.mpr ⟨hy, hz⟩
            have ex : ((S.ls t).zip ((T.ls u).zip (U.ls v)))[i]? = some (x0, (y0, z0)) := List.getElem?_zip_eq_some.mpr ⟨hx, ez⟩
            rw [List.getElem?_map, ex]
            rfl
          rw [List.getElem?_map, e0] at hd
          have hd := Option.some.inj hd
          subst hd
          obtain ⟨v1, hv, dv⟩ := k2.at (show ((S.ls t).map enc)[i]? = some (enc x0) by rw [List.getElem?_map, hx]; rfl)
          obtain ⟨w1, hw, dw⟩ := k4.at (show ((T.ls u).map enc)[i]? = some (enc y0) by rw [List.getElem?_map, hy]; rfl)
          obtain ⟨z1, hzz, dz⟩ := k6.at (show ((U.ls v).map enc)[i]? = some (enc z0) by rw [List.getElem?_map, hz]; rfl)
          refine ⟨⟨_, _, _, v1, w1, z1, k1 _ s, k3 _ s, k5 _ s, hv, hw, hzz⟩, fun x H' y => ?_⟩
          obtain ⟨T', b1, b2, b3, f1, f2, f3, f4, f5, f6⟩ := y
          have f4 := f4 _ (k1 _ s)
          have f5 := f5 _ (k3 _ s)
          have f6 := f6 _ (k5 _ s)
          rw [hv] at f4; cases f4
          rw [hw] at f5; cases f5
          rw [hzz] at f6; cases f6
          subst f1
          have m := same_upd (o := HO.tup [v1, w1, z1]) (s.free f2)
          exact .inr ⟨T', _, f2, f3, .tup (.inl upd_same) (.cons (Dq_mono m _ _ dv) (.cons (Dq_mono m _ _ dw) (.cons (Dq_mono m _ _ dz) .nil)))⟩
        · rw [List.length_map, ln]
          exact ⟨_, _, _, k1 _ s, k3 _ s, k5 _ s, by omega, by omega, by omega, by omega⟩
        · rw [List.length_map, ln]
          have : xs.length ≤ sizeLine := by
            have := k1 _ r'.si
            cases hk : S.kd with
            | true => rw [hk] at this; exact (lo _ _).2 this
            | false => rw [hk] at this; exact (lo _ _).1 this
          omega
end Lay
namespace Lay
open PySem PySem.Spec PyProof.Rows L2
open Lay.Enc (enc)
/-! ### pairs that are stored in order: constants, cells -/
theorem sw_const {t1 t2 a b : Expr} {kt k2 : Nat} {pt pt2 : Pos} {env : Env} (h : [a, b].all (foldedForSure 8) = true) : swappedStores [.Tuple [t1, t2] kt pt] (.Tuple [a, b] k2 pt2) env = pure none := by
  unfold swappedStores
  simp only []
  split
  · rfl
  · split
    · rfl
    · split
      · rfl
      · first | rfl | rw [if_pos h]
theorem sw_cellP {X : Cx} {N : List Str} {sc : Scope} {fs : Option Scope} {k : Nat} {x y : Str} {a b : Expr} {px py pt pt2 : Pos} {kt k2 : Nat} (C : Ctx X N sc fs k) (h : (sc.names.lookup x = some .cell || sc.names.lookup y = some .cell) = true) :
    swappedStores [.Tuple [.Name x px, .Name y py] kt pt] (.Tuple [a, b] k2 pt2) X.env = pure none := by
  have h' : X.env.kindOf x = some .cell ∨ X.env.kindOf y = some .cell := by
    have e1 : X.env.kindOf x = sc.names.lookup x := by rw [← C.s]; rfl
    have e2 : X.env.kindOf y = sc.names.lookup y := by rw [← C.s]; rfl
    rw [e1, e2]
    simpa using h
  unfold swappedStores
  simp only []
  split
  · rfl
  · split
    · rfl
    · rw [if_pos]
      have nc : (some NameKind.cell == some NameKind.local) = false := by decide
      rcases h' with h' | h'
      · simp only [List.filterMap_cons, List.filterMap_nil, h', nc, Bool.false_and]
        simp only [Bool.false_eq_true, if_false, List.length_cons, List.length_nil]
        split <;> simp
      · simp only [List.filterMap_cons, List.filterMap_nil, h', nc, Bool.false_and]
        simp only [Bool.false_eq_true, if_false, List.length_cons, List.length_nil]
        split <;> simp
end Lay

set_option Elab.async false
set_option linter.all false
set_option maxRecDepth 100000
/-! LayF: fractions in lowest terms. -/
namespace Lay
open PySem PySem.Spec PyProof.Rows L2
open Lay.Enc (enc)
/-! ### fractions -/
abbrev Q := T2 Int Int
def frac (n d : Int) : Q := ⟨n / gcdI n d, d / gcdI n d⟩
theorem gcd_pos {n d : Int} (h : 0 < d) : 0 < gcdI n d := by
  unfold gcdI
  have : 0 < Nat.gcd n.natAbs d.natAbs := Nat.gcd_pos_of_pos_right _ (by omega)
  omega
theorem gcd_dvd {n d : Int} : (∃ a, n = gcdI n d * a) ∧ ∃ b, d = gcdI n d * b := by
  unfold gcdI
  exact ⟨Int.dvd_def .. ▸ Int.ofNat_dvd_left.mpr (Nat.gcd_dvd_left _ _), Int.dvd_def .. ▸ Int.ofNat_dvd_left.mpr (Nat.gcd_dvd_right _ _)⟩
theorem gcd_scale {n d c : Int} (h : 0 < c) : gcdI (n * c) (d * c) = gcdI n d * c := by
  unfold gcdI
  rw [Int.natAbs_mul, Int.natAbs_mul, Nat.gcd_mul_right, Int.natCast_mul]
  congr 1
  omega
theorem frac_scale {n d c : Int} (h : 0 < c) : frac (n * c) (d * c) = frac n d := by
  unfold frac
  rw [gcd_scale h, Int.mul_ediv_mul_of_pos_left _ _ h, Int.mul_ediv_mul_of_pos_left _ _ h]
theorem frac_eq {n d n' d' : Int} (h : 0 < d) (h' : 0 < d') (e : n * d' = n' * d) : frac n d = frac n' d' := by
  rw [← frac_scale (n := n) (d := d) h', ← frac_scale (n := n') (d := d') h, e, Int.mul_comm d d']
theorem frac_facts {n d : Int} (h : 0 < d) : 0 < (frac n d).b ∧ (frac n d).b ≤ d ∧ (frac n d).a * d = n * (frac n d).b ∧ (frac n d).a.natAbs ≤ n.natAbs := by
  obtain ⟨⟨a, ha⟩, ⟨b, hb⟩⟩ := gcd_dvd (n := n) (d := d)
  have g := gcd_pos (n := n) h
  have e1 : (frac n d).a = a := by
    show n / gcdI n d = a
    conv => lhs; rw [ha]
    have : gcdI (gcdI n d * a) d = gcdI n d := by rw [← ha]
    rw [this, Int.mul_ediv_cancel_left _ (by omega)]
  have e2 : (frac n d).b = b := by
    show d / gcdI n d = b
    conv => lhs; rw [hb]
    have : gcdI n (gcdI n d * b) = gcdI n d := by rw [← hb]
    rw [this, Int.mul_ediv_cancel_left _ (by omega)]
  rw [e1, e2]
  generalize gcdI n d = G at *
  have hb0 : 0 < b := by
    apply Int.pos_of_mul_pos_left (b := G) (by rw [Int.mul_comm, ← hb]; exact h) (by omega) <;> skip
  refine ⟨hb0, ?_, ?_, ?_⟩
  · rw [hb]
    have := Int.mul_le_mul_of_nonneg_right (show 1 ≤ G by omega) (show 0 ≤ b by omega)
    omega
  · rw [ha, hb]
    simp only [Int.mul_assoc, Int.mul_comm, Int.mul_left_comm]
  · rw [ha, Int.natAbs_mul]
    exact Nat.le_mul_of_pos_left _ (by omega)
theorem gcd_le {n d : Int} (h : 0 < d) : gcdI n d ≤ d := by
  unfold gcdI
  have := Nat.gcd_le_right n.natAbs (n := d.natAbs) (by omega)
  omega
/-- small enough for all guards -/
def Sm (q : Q) : Prop := q.a.natAbs < 2 ^ 30 ∧ 0 < q.b ∧ q.b < 2 ^ 30
theorem sm_frac {x d : Int} (h : 0 < d) (h2 : d < 2 ^ 30) (hx : x.natAbs < 2 ^ 30) : Sm (frac x d) := by
  obtain ⟨h1, h3, h4, h5⟩ := frac_facts (n := x) h
  exact ⟨by omega, h1, by omega⟩
theorem sm_mul {p q : Q} (hp : Sm p) (hq : Sm q) : MulOk p.a q.b ∧ MulOk q.a p.b ∧ MulOk p.b q.b ∧ MulOk p.a q.a ∧ MulOk q.b p.b ∧ MulOk p.b q.a := by
  obtain ⟨a1, a2, a3⟩ := hp
  obtain ⟨b1, b2, b3⟩ := hq
  refine ⟨mulOk ?_ ?_, mulOk ?_ ?_, mulOk ?_ ?_, mulOk ?_ ?_, mulOk ?_ ?_, mulOk ?_ ?_⟩ <;> omega
theorem sm_prod {p q : Q} (hp : Sm p) (hq : Sm q) : 0 < p.b * q.b ∧ p.b * q.b < 2 ^ 60 := by
  obtain ⟨a1, a2, a3⟩ := hp
  obtain ⟨b1, b2, b3⟩ := hq
  refine ⟨Int.mul_pos a2 b2, ?_⟩
  have h1 := Int.mul_le_mul (show p.b ≤ 2 ^ 30 - 1 by omega) (show q.b ≤ 2 ^ 30 - 1 by omega) (by omega) (by decide)
  have : ((2 : Int) ^ 30 - 1) * (2 ^ 30 - 1) < 2 ^ 60 := by decide
  omega
theorem frac_b_pos {x d : Int} (h : 0 < d) : 0 < (frac x d).b := (frac_facts h).1
theorem frac_add {x y d : Int} (h : 0 < d) : frac ((frac x d).a * (frac y d).b + (frac y d).a * (frac x d).b) ((frac x d).b * (frac y d).b) = frac (x + y) d := by
  obtain ⟨h1, _, h3, _⟩ := frac_facts (n := x) h
  obtain ⟨h4, _, h6, _⟩ := frac_facts (n := y) h
  refine frac_eq (Int.mul_pos h1 h4) h ?_
  generalize (frac x d).a = a at *
  generalize (frac x d).b = b at *
  generalize (frac y d).a = c at *
  generalize (frac y d).b = e at *
  rw [Int.add_mul, Int.add_mul, Int.mul_right_comm a, h3, Int.mul_right_comm c, h6, Int.mul_right_comm x, Int.mul_assoc x, Int.mul_assoc y, Int.mul_comm e b]
theorem frac_sub {x y d : Int} (h : 0 < d) : frac ((frac x d).a * (frac y d).b - (frac y d).a * (frac x d).b) ((frac x d).b * (frac y d).b) = frac (x - y) d := by
  obtain ⟨h1, _, h3, _⟩ := frac_facts (n := x) h
  obtain ⟨h4, _, h6, _⟩ := frac_facts (n := y) h
  refine frac_eq (Int.mul_pos h1 h4) h ?_
  generalize (frac x d).a = a at *
  generalize (frac x d).b = b at *
  generalize (frac y d).a = c at *
  generalize (frac y d).b = e at *
  rw [Int.sub_mul, Int.sub_mul, Int.mul_right_comm a, h3, Int.mul_right_comm c, h6, Int.mul_right_comm x, Int.mul_assoc x, Int.mul_assoc y, Int.mul_comm e b]
theorem frac_mul {x y d e : Int} (h : 0 < d) (h' : 0 < e) : frac ((frac x d).a * (frac y e).a) ((frac x d).b * (frac y e).b) = frac (x * y) (d * e) := by
  obtain ⟨h1, _, h3, _⟩ := frac_facts (n := x) h
  obtain ⟨h4, _, h6, _⟩ := frac_facts (n := y) h'
  refine frac_eq (Int.mul_pos h1 h4) (Int.mul_pos h h') ?_
  generalize (frac x d).a = a at *
  generalize (frac x d).b = b at *
  generalize (frac y e).a = c at *
  generalize (frac y e).b = f at *
  calc a * c * (d * e) = (a * d) * (c * e) := by simp only [Int.mul_assoc, Int.mul_comm, Int.mul_left_comm]
    _ = (x * b) * (y * f) := by rw [h3, h6]
    _ = x * y * (b * f) := by simp only [Int.mul_assoc, Int.mul_comm, Int.mul_left_comm]
theorem frac_lt {x y d e : Int} (h : 0 < d) (h' : 0 < e) : ((frac x d).a * (frac y e).b < (frac y e).a * (frac x d).b) ↔ x * e < y * d := by
  obtain ⟨h1, _, h3, _⟩ := frac_facts (n := x) h
  obtain ⟨h4, _, h6, _⟩ := frac_facts (n := y) h'
  generalize (frac x d).a = a at *
  generalize (frac x d).b = b at *
  generalize (frac y e).a = c at *
  generalize (frac y e).b = f at *
  have de := Int.mul_pos h h'
  have bf := Int.mul_pos h1 h4
  have k1 : a * f * (d * e) < c * b * (d * e) ↔ a * f < c * b := Int.mul_lt_mul_right de
  have k2 : x * e * (b * f) < y * d * (b * f) ↔ x * e < y * d := Int.mul_lt_mul_right bf
  have e1 : a * f * (d * e) = x * e * (b * f) := by
    calc a * f * (d * e) = (a * d) * (f * e) := by simp only [Int.mul_assoc, Int.mul_comm, Int.mul_left_comm]
      _ = (x * b) * (f * e) := by rw [h3]
      _ = x * e * (b * f) := by simp only [Int.mul_assoc, Int.mul_comm, Int.mul_left_comm]
  have e2 : c * b * (d * e) = y * d * (b * f) := by
    calc c * b * (d * e) = (c * e) * (b * d) := by simp only [Int.mul_assoc, Int.mul_comm, Int.mul_left_comm]
      _ = (y * f) * (b * d) := by rw [h6]
      _ = y * d * (b * f) := by simp only [Int.mul_assoc, Int.mul_comm, Int.mul_left_comm]
  rw [← k1, ← k2, e1, e2]
theorem frac_lt_same {x y d : Int} (h : 0 < d) : ((frac x d).a * (frac y d).b < (frac y d).a * (frac x d).b) ↔ x < y := by
  rw [frac_lt h h]; exact Int.mul_lt_mul_right h
theorem frac_whole (n : Int) : frac n 1 = ⟨n, 1⟩ := by
  unfold frac gcdI
  simp
theorem whole_eq {n d : Int} (h : 0 < d) : (⟨n, 1⟩ : Q) = frac (n * d) d := by
  rw [← frac_whole]
  exact frac_eq (by decide) h (by rw [Int.mul_one])
theorem frac_gcd {x d : Int} (h : 0 < d) : gcdI (frac x d).a (frac x d).b = 1 := by
  obtain ⟨⟨a, ha⟩, ⟨b, hb⟩⟩ := gcd_dvd (n := x) (d := d)
  have g := gcd_pos (n := x) h
  obtain ⟨f1, f2, f3, f4⟩ := frac_facts (n := x) h
  have s := gcd_scale (n := (frac x d).a) (d := (frac x d).b) g
  have e1 : (frac x d).a * gcdI x d = x := by
    show x / gcdI x d * gcdI x d = x
    exact Int.ediv_mul_cancel ⟨a, ha⟩
  have e2 : (frac x d).b * gcdI x d = d := by
    show d / gcdI x d * gcdI x d = d
    exact Int.ediv_mul_cancel ⟨b, hb⟩
  rw [e1, e2] at s
  have : 1 * gcdI x d = gcdI (frac x d).a (frac x d).b * gcdI x d := by rw [Int.one_mul]; exact s
  exact (Int.eq_of_mul_eq_mul_right (by omega) this).symm
theorem frac_nonneg {x d : Int} (h : 0 < d) : 0 ≤ (frac x d).a ↔ 0 ≤ x := by
  obtain ⟨f1, f2, f3, f4⟩ := frac_facts (n := x) h
  constructor
  · intro q
    have : 0 ≤ (frac x d).a * d := Int.mul_nonneg q (by omega)
    rw [f3] at this
    by_cases c : 0 ≤ x
    · exact c
    · have : x * (frac x d).b < 0 := Int.mul_neg_of_neg_of_pos (by omega) f1
      omega
  · intro q
    by_cases c : 0 ≤ (frac x d).a
    · exact c
    · have : (frac x d).a * d < 0 := Int.mul_neg_of_neg_of_pos (by omega) h
      have : 0 ≤ x * (frac x d).b := Int.mul_nonneg q (by omega)
      omega
theorem frac_le_one {x d : Int} (h : 0 < d) : (frac x d).a ≤ (frac x d).b ↔ x ≤ d := by
  have k := frac_lt (x := d) (y := x) (d := d) (e := d) h h
  have e1 : frac d d = ⟨1, 1⟩ := by rw [← frac_whole]; exact frac_eq h (by decide) (by omega)
  rw [e1] at k
  have k2 : d * d < x * d ↔ d < x := Int.mul_lt_mul_right h
  rw [k2] at k
  simp only [Int.one_mul, Int.mul_one] at k
  omega
end Lay

set_option Elab.async false
set_option linter.all false
set_option maxRecDepth 100000
/-! LayN: more plain facts: two-clause comprehensions, enumerations, dot products, boxes of tuples. -/
namespace Lay
open PySem PySem.Spec PyProof.Rows L2
open Lay.Enc (enc)
section
variable {α β γ : Type}
theorem lc2L_map {oi : α → Option (List β)} {oe : α → β → Option γ} {I : α → List β} {f : α → β → γ} : ∀ {l : List α}, (∀ x, x ∈ l → oi x = some (I x)) → (∀ x, x ∈ l → ∀ y, y ∈ I x → oe x y = some (f x y)) →
    lc2L (fun _ => some true) oi (fun _ _ => some true) oe l = some (l.flatMap fun x => (I x).map (f x))
  | [], _, _ => rfl
  | x :: xs, h1, h2 => by
    have ih := lc2L_map (l := xs) (fun y hy => h1 y (by simp [hy])) (fun y hy => h2 y (by simp [hy]))
    unfold lc2L
    rw [Option.bind_some, cond_true, h1 x (by simp), Option.bind_some, lcL_map (fun y hy => h2 x (by simp) y hy), Option.bind_some, ih]
    rfl
theorem ok_lc2 {oi : α → Option (List β)} {oe : α → β → Option γ} {P : List γ → Prop} (I : α → List β) (f : α → β → γ) {l : List α} (h1 : ∀ x, x ∈ l → oi x = some (I x)) (h2 : ∀ x, x ∈ l → ∀ y, y ∈ I x → oe x y = some (f x y)) (p : P (l.flatMap fun x => (I x).map (f x))) :
    Ok (lc2L (fun _ => some true) oi (fun _ _ => some true) oe l) P := ⟨_, lc2L_map h1 h2, p⟩
theorem enum_at {l : List α} {i : Nat} {y : T2 Int α} (h : (enumL l)[i]? = some y) : y.a = i ∧ l[i]? = some y.b := by
  unfold enumL at h
  rw [List.getElem?_zipWith] at h
  by_cases c : i < l.length
  · rw [List.getElem?_range c, List.getElem?_eq_getElem c] at h
    cases h
    exact ⟨rfl, List.getElem?_eq_getElem c⟩
  · rw [List.getElem?_eq_none (by rw [List.length_range]; omega)] at h
    cases h
theorem enum_len {l : List α} : (enumL l).length = l.length := by
  unfold enumL
  rw [List.length_zipWith, List.length_range, Nat.min_self]
theorem enum_mem {l : List α} {y : T2 Int α} (h : y ∈ enumL l) : y.b ∈ l ∧ 0 ≤ y.a ∧ y.a < l.length := by
  obtain ⟨i, hi, e⟩ := List.mem_iff_getElem.mp h
  have h' : (enumL l)[i]? = some y := by rw [List.getElem?_eq_getElem hi, e]
  obtain ⟨a, b⟩ := enum_at h'
  rw [enum_len] at hi
  exact ⟨List.mem_of_getElem? b, by omega, by omega⟩
theorem ok_app5 {δ ε ζ : Type} {m : α → β → γ → δ → ε → Option ζ} {a : Option α} {b : Option β} {c : Option γ} {d : Option δ} {e : Option ε} {P : ζ → Prop} : Ok (app5 m a b c d e) P ↔ Ok a fun x => Ok b fun y => Ok c fun z => Ok d fun w => Ok e fun v => Ok (m x y z w v) P := by unfold app5; simp only [ok_bind]
/-- a loop that only looks -/
theorem ok_look {R B : Type} {step : Unit → α → Option (Out Unit Unit R)} {P : Out Unit B R → Prop} {l : List α} (hs : ∀ x, x ∈ l → Ok (step () x) (Nx fun _ => True)) (hk : P (.nx ())) : Ok (forL step () l) P :=
  ok_for (fun _ _ => True) trivial (fun i s x hx _ => hs x (List.mem_of_getElem? hx)) fun s _ => hk
end
/-! ### sums of products -/
def dot (r t : List Int) : Int := (List.zipWith (· * ·) r t).sum
theorem dot_by {r t : List Int} (h : r.length = t.length) : ((rngL 0 r.length).map fun k => r.getD k.toNat 0 * t.getD k.toNat 0).sum = dot r t := by
  unfold dot
  congr 1
  apply List.ext_getElem?
  intro i
  unfold rngL
  rw [List.map_map, List.getElem?_map, List.getElem?_zipWith]
  by_cases c : i < r.length
  · have c2 : i < t.length := by omega
    rw [List.getElem?_range c, List.getElem?_eq_getElem c, List.getElem?_eq_getElem c2]
    simp [c, c2]
  · rw [List.getElem?_eq_none (by rw [List.length_range]; omega), List.getElem?_eq_none (by omega)]
    rfl
theorem zip_dot {r t : List Int} : ((zipL r t).map fun p => p.a * p.b).sum = dot r t := by
  unfold dot zipL
  congr 1
  rw [List.map_zipWith]
theorem zip_mem {α β : Type} {l : List α} {m : List β} {p : T2 α β} (h : p ∈ zipL l m) : p.a ∈ l ∧ p.b ∈ m := by
  unfold zipL at h
  obtain ⟨i, hi, e⟩ := List.mem_iff_getElem.mp h
  rw [List.length_zipWith] at hi
  rw [List.getElem_zipWith] at e
  subst e
  exact ⟨List.getElem_mem _, List.getElem_mem _⟩
theorem dot_bound {A B : Nat} : ∀ {r t : List Int}, (∀ x, x ∈ r → x.natAbs ≤ A) → (∀ x, x ∈ t → x.natAbs ≤ B) → (dot r t).natAbs ≤ r.length * (A * B)
  | [], _, _, _ => by simp [dot]
  | _ :: _, [], _, _ => by simp [dot]
  | x :: r, y :: t, h1, h2 => by
    have ih := dot_bound (A := A) (B := B) (r := r) (t := t) (fun z hz => h1 z (by simp [hz])) (fun z hz => h2 z (by simp [hz]))
    have hx := h1 x (by simp)
    have hy := h2 y (by simp)
    have hm : (x * y).natAbs ≤ A * B := by rw [Int.natAbs_mul]; exact Nat.mul_le_mul hx hy
    have e : dot (x :: r) (y :: t) = x * y + dot r t := by unfold dot; simp
    rw [e, List.length_cons, Nat.add_mul, Nat.one_mul]
    omega
/-! ### all tuples below tops -/
def boxStep (f : List (Tup Int)) (top : Int) : List (Tup Int) := f.flatMap fun t => (rngL 0 (top + 1).toNat).map fun x => ⟨t.l ++ [x]⟩
def box (tops : List Int) : List (Tup Int) := tops.foldl boxStep [⟨[]⟩]
theorem box_take {l : List Int} {i : Nat} {x : Int} (h : l[i]? = some x) : box (l.take (i + 1)) = boxStep (box (l.take i)) x := by
  unfold box
  rw [List.take_add_one, h, List.foldl_append]
  rfl
def inBox : List Int → List Int → Prop
  | [], [] => True
  | x :: xs, t :: ts => 0 ≤ x ∧ x ≤ t ∧ inBox xs ts
  | _, _ => False
theorem inBox_len : ∀ {xs ts : List Int}, inBox xs ts → xs.length = ts.length
  | [], [], _ => rfl
  | _ :: _, _ :: _, h => by simp [inBox_len h.2.2]
  | [], _ :: _, h => h.elim
  | _ :: _, [], h => h.elim
theorem inBox_snoc : ∀ {xs ts : List Int} {x t : Int}, inBox (xs ++ [x]) (ts ++ [t]) ↔ inBox xs ts ∧ 0 ≤ x ∧ x ≤ t
  | [], [], x, t => by simp [inBox]
  | a :: xs, b :: ts, x, t => by
    show (0 ≤ a ∧ a ≤ b ∧ inBox (xs ++ [x]) (ts ++ [t])) ↔ (0 ≤ a ∧ a ≤ b ∧ inBox xs ts) ∧ 0 ≤ x ∧ x ≤ t
    rw [inBox_snoc]
    constructor
    · rintro ⟨h1, h2, h3, h4⟩; exact ⟨⟨h1, h2, h3⟩, h4⟩
    · rintro ⟨⟨h1, h2, h3⟩, h4⟩; exact ⟨h1, h2, h3, h4⟩
  | [], b :: ts, x, t => by
    cases ts with
    | nil => simp [inBox]
    | cons c ts => simp [inBox]
  | a :: xs, [], x, t => by
    cases xs with
    | nil => simp [inBox]
    | cons c ts => simp [inBox]
theorem inBox_mem {T : Int} : ∀ {xs ts : List Int}, inBox xs ts → (∀ t, t ∈ ts → t ≤ T) → ∀ x, x ∈ xs → 0 ≤ x ∧ x ≤ T
  | [], _, _, _, x, h => by simp at h
  | a :: xs, [], h, _, _, _ => h.elim
  | a :: xs, b :: ts, h, ht, x, hx => by
    rw [List.mem_cons] at hx
    rcases hx with rfl | hx
    · have := ht b (by simp); exact ⟨h.1, by have := h.2.1; omega⟩
    · exact inBox_mem h.2.2 (fun t h => ht t (by simp [h])) x hx
theorem mem_box : ∀ (n : Nat) (ts : List Int), ts.length = n → (∀ t, t ∈ ts → 0 ≤ t) → ∀ (xs : Tup Int), xs ∈ box ts ↔ inBox xs.l ts := by
  intro n
  induction n with
  | zero =>
    intro ts hl _ xs
    have : ts = [] := List.eq_nil_of_length_eq_zero hl
    subst this
    obtain ⟨l⟩ := xs
    cases l with
    | nil => simp [box, inBox]
    | cons a l => simp [box, inBox]
  | succ n ih =>
    intro ts hl h0 xs
    have hne : ts ≠ [] := by intro c; subst c; simp at hl
    rw [← List.dropLast_concat_getLast hne]
    have hd : ts.dropLast.length = n := by rw [List.length_dropLast]; omega
    have h1 : ∀ t, t ∈ ts.dropLast → 0 ≤ t := fun t ht => h0 t ((List.dropLast_sublist ts).subset ht)
    have hg : 0 ≤ ts.getLast hne := h0 _ (List.getLast_mem hne)
    have ih := ih ts.dropLast hd h1
    generalize ts.dropLast = ds at *
    generalize ts.getLast hne = t at *
    have e : box (ds ++ [t]) = boxStep (box ds) t := by unfold box; rw [List.foldl_append]; rfl
    rw [e]
    unfold boxStep
    rw [List.mem_flatMap]
    constructor
    · rintro ⟨u, hu, hx⟩
      obtain ⟨x, hx1, rfl⟩ := List.mem_map.mp hx
      have hx2 := mem_rng.mp hx1
      exact inBox_snoc.mpr ⟨(ih u).mp hu, by omega, by omega⟩
    · intro h
      obtain ⟨l⟩ := xs
      have hl : l.length = ds.length + 1 := by have := inBox_len h; simpa using this
      have hn : l ≠ [] := by intro c; subst c; simp at hl
      rw [← List.dropLast_concat_getLast hn] at h ⊢
      obtain ⟨a, b, c⟩ := inBox_snoc.mp h
      exact ⟨⟨l.dropLast⟩, (ih ⟨l.dropLast⟩).mpr a, List.mem_map.mpr ⟨l.getLast hn, mem_rng.mpr ⟨b, by omega⟩, rfl⟩⟩
theorem box_len {T : Nat} : ∀ (n : Nat) (ts : List Int), ts.length = n → (∀ t, t ∈ ts → 0 ≤ t ∧ t ≤ T) → (box ts).length ≤ (T + 1) ^ n := by
  intro n
  induction n with
  | zero =>
    intro ts hl _
    have : ts = [] := List.eq_nil_of_length_eq_zero hl
    subst this
    exact Nat.le_refl _
  | succ n ih =>
    intro ts hl h0
    have hne : ts ≠ [] := by intro c; subst c; simp at hl
    rw [← List.dropLast_concat_getLast hne]
    have ih := ih ts.dropLast (by rw [List.length_dropLast]; omega) fun t ht => h0 t ((List.dropLast_sublist ts).subset ht)
    have hg := h0 _ (List.getLast_mem hne)
    generalize ts.dropLast = ds at *
    generalize ts.getLast hne = t at *
    have e : box (ds ++ [t]) = boxStep (box ds) t := by unfold box; rw [List.foldl_append]; rfl
    rw [e]
    unfold boxStep
    rw [List.length_flatMap]
    have key : ∀ l : List (Tup Int), (l.map fun u => ((rngL 0 (t + 1).toNat).map fun x => (⟨u.l ++ [x]⟩ : Tup Int)).length).sum ≤ l.length * (T + 1) := by
      intro l
      induction l with
      | nil => simp
      | cons u l ih2 =>
        rw [List.map_cons, List.sum_cons, List.length_cons, List.length_map, rng_len, Nat.add_mul, Nat.one_mul]
        omega
    refine Nat.le_trans (key _) ?_
    rw [Nat.pow_succ]
    exact Nat.mul_le_mul_right _ ih
instance {α β γ : Type} [Enc α] [Enc β] [Enc γ] [S : Rp α] [T : Rp β] [U : Rp γ] : Rp (T3 α β γ) := ⟨fun t => S.len t.a + T.len t.b + U.len t.c + 9, fun t => S.sm t.a ∧ T.sm t.b ∧ U.sm t.c, fun t h => by
  obtain ⟨h1, h2⟩ := S.ok t.a h.1
  obtain ⟨h3, h4⟩ := T.ok t.b h.2.1
  obtain ⟨h5, h6⟩ := U.ok t.c h.2.2
  refine ⟨?_, ?_⟩
  · show ((enc t.a : PyData).showable && ((enc t.b : PyData).showable && ((enc t.c : PyData).showable && true))) = true
    rw [h1, h3, h5]; rfl
  · have := tupleText_len_le [(enc t.a : PyData).shown, (enc t.b : PyData).shown, (enc t.c : PyData).shown]
    show (tupleText [(enc t.a : PyData).shown, (enc t.b : PyData).shown, (enc t.c : PyData).shown]).length ≤ _
    simp only [List.map_cons, List.map_nil, List.sum_cons, List.sum_nil, List.length_cons, List.length_nil] at this
    omega⟩
instance {α β γ δ : Type} [Enc α] [Enc β] [Enc γ] [Enc δ] [S : Rp α] [T : Rp β] [U : Rp γ] [V : Rp δ] : Rp (T4 α β γ δ) := ⟨fun t => S.len t.a + T.len t.b + U.len t.c + V.len t.d + 11, fun t => S.sm t.a ∧ T.sm t.b ∧ U.sm t.c ∧ V.sm t.d, fun t h => by
  obtain ⟨h1, h2⟩ := S.ok t.a h.1
  obtain ⟨h3, h4⟩ := T.ok t.b h.2.1
  obtain ⟨h5, h6⟩ := U.ok t.c h.2.2.1
  obtain ⟨h7, h8⟩ := V.ok t.d h.2.2.2
  refine ⟨?_, ?_⟩
  · show ((enc t.a : PyData).showable && ((enc t.b : PyData).showable && ((enc t.c : PyData).showable && ((enc t.d : PyData).showable && true)))) = true
    rw [h1, h3, h5, h7]; rfl
  · have := tupleText_len_le [(enc t.a : PyData).shown, (enc t.b : PyData).shown, (enc t.c : PyData).shown, (enc t.d : PyData).shown]
    show (tupleText [(enc t.a : PyData).shown, (enc t.b : PyData).shown, (enc t.c : PyData).shown, (enc t.d : PyData).shown]).length ≤ _
    simp only [List.map_cons, List.map_nil, List.sum_cons, List.sum_nil, List.length_cons, List.length_nil] at this
    omega⟩
/-- how long a text of data may be, with all in it small -/
def RB {α : Type} [Enc α] [S : Rp α] (x : α) (n : Nat) : Prop := S.sm x ∧ S.len x ≤ n
theorem rb_repr {α : Type} [Enc α] [S : Rp α] {x : α} {n : Nat} (h : RB x n) (hn : n ≤ 16777216) : reprD (enc x) = some (enc x : PyData).shown := repr_ok h.1 (Nat.le_trans h.2 hn)
theorem rb_bits {i : Int} {k : Nat} (h : i.natAbs < 2 ^ k) (hk : k < 1900) : RB i (k + 3) := by
  have : i.natAbs.log2 ≤ k := by
    by_cases c : i.natAbs = 0
    · rw [c]; simp
    · exact Nat.le_of_lt ((Nat.log2_lt c).mpr h)
  exact ⟨show i.natAbs.log2 < 1900 by omega, show i.natAbs.log2 + 3 ≤ k + 3 by omega⟩
theorem rb_int {i : Int} (h : i.natAbs < 2 ^ 30) : RB i 33 := rb_bits h (by decide)
theorem rb_list {α : Type} [Enc α] [S : Rp α] {l : List α} {c n : Nat} (hl : l.length ≤ n) (h : ∀ x, x ∈ l → RB x c) : RB l (n * (c + 2) + 3) := by
  refine ⟨fun x hx => (h x hx).1, ?_⟩
  have h1 := len_list (α := α) c l fun x hx => (h x hx).2
  have h2 := Nat.mul_le_mul_right (c + 2) hl
  omega
theorem rb_tup {α : Type} [Enc α] [S : Rp α] {l : Tup α} {c n : Nat} (hl : l.l.length ≤ n) (h : ∀ x, x ∈ l.l → RB x c) : RB l (n * (c + 2) + 3) := rb_list (l := l.l) hl h
theorem rb_t2 {α β : Type} [Enc α] [Enc β] [S : Rp α] [T : Rp β] {t : T2 α β} {m n : Nat} (h1 : RB t.a m) (h2 : RB t.b n) : RB t (m + n + 7) := ⟨⟨h1.1, h2.1⟩, by
  have a := h1.2
  have b := h2.2
  show S.len t.a + T.len t.b + 7 ≤ _
  omega⟩
theorem rb_t3 {α β γ : Type} [Enc α] [Enc β] [Enc γ] [S : Rp α] [T : Rp β] [U : Rp γ] {t : T3 α β γ} {m n o : Nat} (h1 : RB t.a m) (h2 : RB t.b n) (h3 : RB t.c o) : RB t (m + n + o + 9) := ⟨⟨h1.1, h2.1, h3.1⟩, by
  have a := h1.2
  have b := h2.2
  have c := h3.2
  show S.len t.a + T.len t.b + U.len t.c + 9 ≤ _
  omega⟩
theorem rb_t4 {α β γ δ : Type} [Enc α] [Enc β] [Enc γ] [Enc δ] [S : Rp α] [T : Rp β] [U : Rp γ] [V : Rp δ] {t : T4 α β γ δ} {m n o p : Nat} (h1 : RB t.a m) (h2 : RB t.b n) (h3 : RB t.c o) (h4 : RB t.d p) : RB t (m + n + o + p + 11) := ⟨⟨h1.1, h2.1, h3.1, h4.1⟩, by
  have a := h1.2
  have b := h2.2
  have c := h3.2
  have d := h4.2
  show S.len t.a + T.len t.b + U.len t.c + V.len t.d + 11 ≤ _
  omega⟩
theorem rb_opt {α : Type} [Enc α] [S : Rp α] {o : Option α} {n : Nat} (hn : 4 ≤ n) (h : ∀ x, o = some x → RB x n) : RB o n := ⟨fun x hx => (h x hx).1, by
  cases o with
  | none => exact hn
  | some x => exact (h x rfl).2⟩
end Lay

set_option Elab.async false
set_option linter.all false
set_option maxRecDepth 100000
/-! LayW: data whose lists are new; what is spoilt by a store. -/
namespace Lay
open PySem PySem.Spec PyProof.Rows L2
open Lay.Enc (enc)

/-! ### new lists -/
theorem rgN_tup {F I : Hp} {a : Addr} {xs : List V} (h : Rd I a (.tup xs)) : Rd (rgN F I) a (.tup xs) := by
  rcases h with h | ⟨o, h⟩
  · refine .inl ?_; unfold rgN; rw [h]
  · refine .inr ⟨o, ?_⟩; unfold rgN; rw [h]
theorem rgN_lst {F I : Hp} {a : Addr} {xs : List V} (h : Rd (rgN F I) a (.lst xs)) : I a = some (.lst xs) ∧ F a = none := by
  rcases h with h | ⟨o, h⟩
  · refine ⟨rgN_le _ _ h, ?_⟩
    have h2 := rgN_le _ _ h
    unfold rgN at h
    rw [h2] at h
    cases e : F a with
    | none => rfl
    | some u => rw [e] at h; cases h
  · have h2 := rgN_le _ _ h
    unfold rgN at h
    rw [h2] at h
    cases h
theorem rgN_new {F I : Hp} {p : Addr} {xs : List V} (hF : F p = none) : rgN F (upd I p (.lst xs)) p = some (.lst xs) := by
  unfold rgN; rw [upd_same, hF]
/-- no list within -/
class LF (α : Type) [Enc α] : Prop where
  mv : ∀ (x : α) (I J : Hp) (v : V), (∀ a xs, Rd I a (.tup xs) → Rd J a (.tup xs)) → Dq I v (enc x) → Dq J v (enc x)
theorem LF.lf {α : Type} [Enc α] [S : LF α] (x : α) (F I : Hp) (v : V) (d : Dq I v (enc x)) : Dq (rgN F I) v (enc x) := S.mv x I _ v (fun _ _ => rgN_tup) d
instance : LF Int := ⟨fun x I J v t d => by cases d; exact .int _⟩
instance : LF Bool := ⟨fun x I J v t d => by cases d; exact .bl _⟩
instance : LF Str := ⟨fun x I J v t d => by cases d; exact .str _⟩
instance : LF Unit := ⟨fun x I J v t d => by cases d; exact .non⟩
instance {α : Type} [Enc α] [S : LF α] : LF (Option α) := ⟨fun x I J v t d => by
  cases x with
  | none => cases d; exact .non
  | some x => exact S.mv x I J v t d⟩
theorem mvAll {α : Type} [Enc α] [S : LF α] {I J : Hp} (t : ∀ a xs, Rd I a (.tup xs) → Rd J a (.tup xs)) : ∀ {xs : List V} {l : List α}, DqAll I xs (l.map enc) → DqAll J xs (l.map enc)
  | [], [], _ => .nil
  | _ :: _, _ :: _, .cons d r => .cons (S.mv _ _ _ _ t d) (mvAll t r)
theorem lfAll {α : Type} [Enc α] [S : LF α] {F I : Hp} {xs : List V} {l : List α} (h : DqAll I xs (l.map enc)) : DqAll (rgN F I) xs (l.map enc) := mvAll (fun _ _ => rgN_tup) h
instance {α : Type} [Enc α] [S : LF α] : LF (Tup α) := ⟨fun x I J v t d => by
  cases d with | tup h1 h2 => exact .tup (t _ _ h1) (mvAll t h2)⟩
instance {α β : Type} [Enc α] [Enc β] [S : LF α] [T : LF β] : LF (T2 α β) := ⟨fun x I J v t d => by
  cases d with | tup h1 h2 => cases h2 with | cons a h2 => cases h2 with | cons b h2 => cases h2; exact .tup (t _ _ h1) (.cons (S.mv _ _ _ _ t a) (.cons (T.mv _ _ _ _ t b) .nil))⟩
instance {α β γ : Type} [Enc α] [Enc β] [Enc γ] [S : LF α] [T : LF β] [U : LF γ] : LF (T3 α β γ) := ⟨fun x I J v t d => by
  cases d with | tup h1 h2 => cases h2 with | cons a h2 => cases h2 with | cons b h2 => cases h2 with | cons c h2 => cases h2; exact .tup (t _ _ h1) (.cons (S.mv _ _ _ _ t a) (.cons (T.mv _ _ _ _ t b) (.cons (U.mv _ _ _ _ t c) .nil)))⟩
instance {α β γ δ : Type} [Enc α] [Enc β] [Enc γ] [Enc δ] [S : LF α] [T : LF β] [U : LF γ] [W : LF δ] : LF (T4 α β γ δ) := ⟨fun x I J v t d => by
  cases d with | tup h1 h2 => cases h2 with | cons a h2 => cases h2 with | cons b h2 => cases h2 with | cons c h2 => cases h2 with | cons e h2 => cases h2; exact .tup (t _ _ h1) (.cons (S.mv _ _ _ _ t a) (.cons (T.mv _ _ _ _ t b) (.cons (U.mv _ _ _ _ t c) (.cons (W.mv _ _ _ _ t e) .nil))))⟩

/-- data whose lists are new -/
def tN (K : PySem.W.Frag) (G : List Sl) (d : PyData) : TE := fun σ H Q => ∃ F I ps, RS K F G σ H I ps ∧ ∀ v H' I', Grow F I I' → RS K F G σ H' I' ps → Dq (rgN F I') v d → Q v H'
/-- a new list of such -/
def tON (K : PySem.W.Frag) (G : List Sl) (ds : List PyData) : TE := fun σ H Q => ∃ F I ps, RS K F G σ H I ps ∧ ∀ p xs H' I', Grow F I I' → RS K F G σ H' I' ps → I' p = none → F p = none → (∀ i, ps i ≠ some p) → H' p = some (.lst xs) → DqAll (rgN F I') xs ds → Q (.ref p) H'
def tAN (K : PySem.W.Frag) (G : List Sl) (ds : List PyData) : TA := fun σ H Q => ∃ F I ps, RS K F G σ H I ps ∧ ∀ vs H' I', Grow F I I' → RS K F G σ H' I' ps → DqAll (rgN F I') vs ds → Q vs H'
def EN (X : Cx) (G : List Sl) {α : Type} [Enc α] (e : Expr) (o : Option α) : Prop := ∀ x, o = some x → PE X e (tN X.K G (enc x))
def EON (X : Cx) (G : List Sl) {α : Type} [Enc α] (e : Expr) (o : Option (List α)) : Prop := ∀ l, o = some l → PE X e (tON X.K G (l.map enc))
def AN (X : Cx) (G : List Sl) (es : List Expr) (o : Option (List PyData)) : Prop := ∀ ds, o = some ds → PA X es (tAN X.K G ds)
def ALN (X : Cx) (G : List Sl) {α : Type} [Enc α] (es : List Expr) (o : Option (List α)) : Prop := ∀ l, o = some l → PA X es (tAN X.K G (l.map enc))
section
variable {X : Cx} {G : List Sl} {α β γ δ : Type} [Enc α] [Enc β] [Enc γ] [Enc δ] {e a b : Expr} {es : List Expr} {pos p : Pos}
theorem en_free [S : LF α] {o : Option α} (h : ED X G e o) : EN X G e o := fun x hx => (h x hx).imp fun σ H Q ⟨F, I, ps, R, q⟩ => ⟨F, I, ps, R, fun v H' I' g R' d => q v H' I' g R' (S.lf _ _ _ _ d)⟩
theorem ed_of_en {o : Option α} (h : EN X G e o) : ED X G e o := fun x hx => (h x hx).imp fun σ H Q ⟨F, I, ps, R, q⟩ => ⟨F, I, ps, R, fun v H' I' g R' d => q v H' I' g R' (Dq_mono rgN_le _ _ d)⟩
theorem eo_of_eon {o : Option (List α)} (h : EON X G e o) : EO X G e o := fun x hx => (h x hx).imp fun σ H Q ⟨F, I, ps, R, q⟩ => ⟨F, I, ps, R, fun p xs H' I' g R' n1 n2 n3 hH d => q p xs H' I' g R' n1 n2 n3 hH (DqAll_mono rgN_le _ _ d)⟩
theorem eon_free [S : LF α] {o : Option (List α)} (h : EO X G e o) : EON X G e o := fun x hx => (h x hx).imp fun σ H Q ⟨F, I, ps, R, q⟩ => ⟨F, I, ps, R, fun p xs H' I' g R' n1 n2 n3 hH d => q p xs H' I' g R' n1 n2 n3 hH (lfAll d)⟩
theorem en_of_eon {o : Option (List α)} (h : EON X G e o) : EN X G e o := fun l hl => (h l hl).imp fun σ H Q ⟨F, I, ps, R, q⟩ => ⟨F, I, ps, R, fun p xs H' I' g R' hI hF hp hH d => by
  obtain ⟨g', R'', d'⟩ := frz_new g R' hI hF hp hH (DqAll_mono rgN_le _ _ d)
  exact q _ _ _ g' R'' (.lst (.inl (rgN_new hF)) (DqAll_mono (rgN_mono (same_upd hI)) _ _ d))⟩
theorem en_coe {o : Option α} (c : α → β) (hc : ∀ x, enc (c x) = enc x) (h : EN X G e o) : EN X G e (lift1 c o) := fun y hy => by
  obtain ⟨x, h1, h2⟩ := lift1_get hy
  rw [← h2, hc]; exact h x h1
theorem en_coeP {o : Option α} (c : α → Option β) (hc : ∀ x y, c x = some y → enc y = enc x) (h : EN X G e o) : EN X G e (o.bind c) := fun y hy => by
  obtain ⟨x, h1, h2⟩ := bind_get hy
  rw [hc x y h2]; exact h x h1
theorem en_some {o : Option α} (h : EN X G e o) : EN X G e (lift1 (some : α → Option α) o) := en_coe _ (fun _ => rfl) h
theorem en_get {o : Option (Option α)} (h : EN X G e o) : EN X G e (o.bind id) := en_coeP _ (fun x y h => by have h : x = some y := h; subst h; rfl) h
theorem en_none {j : Nat} {pos : Pos} : EN X G (.Constant .none j pos) (some (none : Option α)) := fun y hy => by
  cases hy; exact pe_non.imp fun σ H Q ⟨F, I, ps, R, q⟩ => q _ H I Grow.refl R .non
/-- the slot's data -/
theorem ed_slot {N : List Str} {sc : Scope} {fs : Option Scope} {k i : Nat} {x : Str} {d : PyData} {t : TE} (C : Ctx X N sc fs k) (hv : visB N sc i x = true)
    (h : ∀ σ H Q, t σ H Q → ∃ F I ps, RS X.K F G σ H I ps ∧ ∃ v, σ[i]? = some (some v) ∧ Q v H) : PE X (.Name x pos) t := by
  unfold visB at hv
  simp only [Bool.and_eq_true, decide_eq_true_eq, Bool.not_eq_true'] at hv
  obtain ⟨⟨⟨h1, h2⟩, h3⟩, h4⟩ := hv
  have hvis : Vis X.env.scope x := by
    rw [C.s]; unfold Vis
    split at h2 <;> simp_all
  refine (pe_var (by rw [C.n]; exact h1) hvis h3 h4).imp fun σ H Q q => ?_
  obtain ⟨F, I, ps, R, v, e, q⟩ := h σ H Q q
  exact ⟨v, e, q⟩
theorem slot_lt {s : Sl} {i : Nat} (hs : slAt G i = s) (hn : s ≠ .un) : i < G.length := by
  by_cases c : i < G.length
  · exact c
  · rw [slAt_out (by omega)] at hs; exact absurd hs.symm hn
theorem en_var {N : List Str} {sc : Scope} {fs : Option Scope} {k i : Nat} {x : Str} {v : α} (C : Ctx X N sc fs k) (hv : visB N sc i x = true) (hs : slAt G i = .nw (enc v)) : EN X G (.Name x pos) (some v) := fun y hy => by
  cases hy
  refine ed_slot (d := enc v) (G := G) C hv fun σ H Q ⟨F, I, ps, R, q⟩ => ?_
  obtain ⟨w, k1, k2⟩ := R.sl i (slot_lt hs (by simp))
  rw [hs] at k2
  obtain ⟨_, z, e, d⟩ := k2
  subst e
  exact ⟨F, I, ps, R, z, k1, q z H I Grow.refl R d⟩
theorem ed_varN {N : List Str} {sc : Scope} {fs : Option Scope} {k i : Nat} {x : Str} {v : α} (C : Ctx X N sc fs k) (hv : visB N sc i x = true) (hs : slAt G i = .nw (enc v)) : ED X G (.Name x pos) (some v) := ed_of_en (en_var C hv hs)
theorem ed_varO {N : List Str} {sc : Scope} {fs : Option Scope} {k i : Nat} {x : Str} {v : α} (C : Ctx X N sc fs k) (hv : visB N sc i x = true) (hs : slAt G i = .old (enc v)) : ED X G (.Name x pos) (some v) := fun y hy => by
  cases hy
  refine ed_slot (d := enc v) (G := G) C hv fun σ H Q ⟨F, I, ps, R, q⟩ => ?_
  obtain ⟨w, k1, k2⟩ := R.sl i (slot_lt hs (by simp))
  rw [hs] at k2
  obtain ⟨_, z, e, d⟩ := k2
  subst e
  exact ⟨F, I, ps, R, z, k1, q z H I Grow.refl R (Dq_mono rgO_le _ _ d)⟩

/-! ### displays -/
theorem an_nil : AN X G [] (some []) := fun ds h => by
  cases h
  exact pa_nil.imp fun σ H Q ⟨F, I, ps, R, q⟩ => q _ _ _ Grow.refl R .nil
theorem an_cons {o : Option α} {ods : Option (List PyData)} (h : EN X G e o) (hr : AN X G es ods) (hs : starEach (e :: es) X.env = (false, eval e X.env) :: starEach es X.env := by rfl) :
    AN X G (e :: es) (lift2 (fun x ds => enc x :: ds) o ods) := fun ds hd => by
  obtain ⟨x, ds', h1, h2, h3⟩ := lift2_get hd
  subst h3
  exact (pa_cons (h x h1) (hr ds' h2) hs).imp fun σ H Q ⟨F, I, ps, R, q⟩ => ⟨F, I, ps, R, fun v H1 I1 g1 R1 d1 => ⟨F, I1, ps, R1, fun vs H2 I2 g2 R2 d2 => q _ _ _ (g1.trans g2) R2 (.cons (Dq_mono (rgN_mono g2.same) _ _ d1) d2)⟩⟩
theorem aln_nil : ALN X G [] (some ([] : List α)) := fun l h => by
  cases h
  exact pa_nil.imp fun σ H Q ⟨F, I, ps, R, q⟩ => q _ _ _ Grow.refl R .nil
theorem aln_cons {o : Option α} {ol : Option (List α)} (h : EN X G e o) (hr : ALN X G es ol) (hs : starEach (e :: es) X.env = (false, eval e X.env) :: starEach es X.env := by rfl) :
    ALN X G (e :: es) (lift2 List.cons o ol) := fun l hl => by
  obtain ⟨x, l', h1, h2, h3⟩ := lift2_get hl
  subst h3
  exact (pa_cons (h x h1) (hr l' h2) hs).imp fun σ H Q ⟨F, I, ps, R, q⟩ => ⟨F, I, ps, R, fun v H1 I1 g1 R1 d1 => ⟨F, I1, ps, R1, fun vs H2 I2 g2 R2 d2 => q _ _ _ (g1.trans g2) R2 (.cons (Dq_mono (rgN_mono g2.same) _ _ d1) d2)⟩⟩
theorem aln_star {o ol : Option (List α)} (h : EN X G e o) (hr : ALN X G es ol) (hs : starEach (.Starred e p :: es) X.env = (true, eval e X.env) :: starEach es X.env := by rfl) :
    ALN X G (.Starred e p :: es) (lift2 (· ++ ·) o ol) := fun l hl => by
  obtain ⟨x, l', h1, h2, h3⟩ := lift2_get hl
  subst h3
  refine (StX.pa_star (h x h1) (hr l' h2) hs).imp fun σ H Q ⟨F, I, ps, R, q⟩ => ⟨F, I, ps, R, fun v H1 I1 g1 R1 d1 => ?_⟩
  cases d1 with
  | lst k1 k2 => exact ⟨_, _, rfl, .inr (.inl (rd_mono (rgN_le.trans R1.si) k1)), F, I1, ps, R1, fun vs H2 I2 g2 R2 d2 => q _ _ _ (g1.trans g2) R2 (by rw [List.map_append]; exact (DqAll_mono (rgN_mono g2.same) _ _ k2).app d2)⟩
theorem eon_list {ol : Option (List α)} (h : ALN X G es ol) : EON X G (.List es pos) (ol.bind szG) := fun l hl => by
  obtain ⟨x, h1, h2⟩ := bind_get hl
  obtain ⟨hz, e⟩ := ite_get h2
  subst e
  exact (pe_lst (h x h1)).imp fun σ H Q ⟨F, I, ps, R, q⟩ => ⟨F, I, ps, R, fun vs H1 I1 g1 R1 d => ⟨by rw [d.len, List.length_map]; exact hz, fun p hp =>
    q p vs _ I1 g1 (R1.newOwn hp) (R1.si.free hp) (R1.sf.free hp) (fun i c => by obtain ⟨_, _, _, z⟩ := R1.own_at c; rw [hp] at z; cases z) upd_same d⟩⟩
theorem tupN_of {k : Nat} {ds : List PyData} {r : PyData} (h : PA X es (tAN X.K G ds)) (hz : ds.length ≤ sizeLine) (hr : r = .tuple ds) : PE X (.Tuple es k pos) (tN X.K G r) := by
  subst hr
  refine (pe_tup h).imp fun σ H Q ⟨F, I, ps, R, q⟩ => ⟨F, I, ps, R, fun vs H1 I1 g1 R1 d => ⟨by rw [d.len]; exact hz, fun p hp => ?_⟩⟩
  have s := R1.grow_new (o := .tup vs) hp
  exact q (.ref p) _ _ (g1.trans s) (R1.new hp) (.tup (rgN_tup (.inl upd_same)) (DqAll_mono (rgN_mono s.same) _ _ d))
theorem en_t2 {e1 e2 : Expr} {k : Nat} {oa : Option α} {ob : Option β} (ha : EN X G e1 oa) (hb : EN X G e2 ob) (s1 : starEach [e1, e2] X.env = (false, eval e1 X.env) :: starEach [e2] X.env := by rfl) (s2 : starEach [e2] X.env = [(false, eval e2 X.env)] := by rfl) :
    EN X G (.Tuple [e1, e2] k pos) (lift2 T2.mk oa ob) := fun t ht => by
  obtain ⟨x, y, h1, h2, h3⟩ := lift2_get ht
  subst h3
  exact tupN_of (an_cons ha (an_cons hb an_nil s2) s1 _ (by rw [h1, h2]; rfl)) (small_line (by show 2 ≤ 8; decide)) rfl
theorem en_t3 {e1 e2 e3 : Expr} {k : Nat} {oa : Option α} {ob : Option β} {oc : Option γ} (ha : EN X G e1 oa) (hb : EN X G e2 ob) (hc : EN X G e3 oc)
    (s1 : starEach [e1, e2, e3] X.env = (false, eval e1 X.env) :: starEach [e2, e3] X.env := by rfl) (s2 : starEach [e2, e3] X.env = (false, eval e2 X.env) :: starEach [e3] X.env := by rfl) (s3 : starEach [e3] X.env = [(false, eval e3 X.env)] := by rfl) :
    EN X G (.Tuple [e1, e2, e3] k pos) (lift3 T3.mk oa ob oc) := fun t ht => by
  obtain ⟨x, h1, ht⟩ := bind_get ht
  obtain ⟨y, h2, ht⟩ := bind_get ht
  obtain ⟨z, h3, ht⟩ := bind_get ht
  cases ht
  exact tupN_of (an_cons ha (an_cons hb (an_cons hc an_nil s3) s2) s1 _ (by rw [h1, h2, h3]; rfl)) (small_line (by show 3 ≤ 8; decide)) rfl
theorem en_t4 {e1 e2 e3 e4 : Expr} {k : Nat} {oa : Option α} {ob : Option β} {oc : Option γ} {od : Option δ} (ha : EN X G e1 oa) (hb : EN X G e2 ob) (hc : EN X G e3 oc) (hd : EN X G e4 od)
    (s1 : starEach [e1, e2, e3, e4] X.env = (false, eval e1 X.env) :: starEach [e2, e3, e4] X.env := by rfl) (s2 : starEach [e2, e3, e4] X.env = (false, eval e2 X.env) :: starEach [e3, e4] X.env := by rfl) (s3 : starEach [e3, e4] X.env = (false, eval e3 X.env) :: starEach [e4] X.env := by rfl) (s4 : starEach [e4] X.env = [(false, eval e4 X.env)] := by rfl) :
    EN X G (.Tuple [e1, e2, e3, e4] k pos) (lift4 T4.mk oa ob oc od) := fun t ht => by
  obtain ⟨x, h1, ht⟩ := bind_get ht
  obtain ⟨y, h2, ht⟩ := bind_get ht
  obtain ⟨z, h3, ht⟩ := bind_get ht
  obtain ⟨w, h4, ht⟩ := bind_get ht
  cases ht
  exact tupN_of (an_cons ha (an_cons hb (an_cons hc (an_cons hd an_nil s4) s3) s2) s1 _ (by rw [h1, h2, h3, h4]; rfl)) (small_line (by show 4 ≤ 8; decide)) rfl

/-! ### items -/
theorem tN_op {K : PySem.W.Frag} {r : R2} {d1 d2 d : PyData} (h : ∀ (F : Hp) (G : List Sl) (σ : L2.St) (H I : Hp) (ps : Nat → Option Addr) (v w : V) (Q : VK), RS K F G σ H I ps → Dq (rgN F I) v d1 → Dq I w d2 → (∀ u H' I', Grow F I I' → RS K F G σ H' I' ps → Dq (rgN F I') u d → Q u H') → r v w H Q) (σ : L2.St) (H : Hp) (Q : VK) (t : tN K G d σ H Q) : tOp r (tN K G d1) (tD K G d2) σ H Q := by
  obtain ⟨F, I, ps, R, q⟩ := t
  refine ⟨F, I, ps, R, fun v H1 I1 g1 R1 dv => ⟨F, I1, ps, R1, fun w H2 I2 g2 R2 dw => ?_⟩⟩
  exact h F G σ H2 I2 ps v w Q R2 (Dq_mono (rgN_mono g2.same) _ _ dv) dw fun u H3 I3 g3 R3 du => q u H3 I3 (g1.trans (g2.trans g3)) R3 du
theorem en_ix {ol : Option (List α)} {oi : Option Int} (ha : EN X G a ol) (hb : ED X G b oi) (hs : PlainIx b := by intro _ _; rfl) : EN X G (.Subscript a b pos) (bind2 atI ol oi) := fun z hz => by
  obtain ⟨l, i, h1, h2, h3⟩ := bind2_get hz
  refine (pe_ix ix_list (ha l h1) (hb i h2) hs).imp (tN_op ?_)
  intro F G σ H I ps v w Q R hv hw q
  cases hw
  cases hv with
  | lst k1 k2 =>
    obtain ⟨u, hu, du⟩ := k2.atI (atI_map h3)
    exact ⟨_, _, i, u, rfl, rfl, .inl (rd_mono (rgN_le.trans R.si) k1), hu, q u H I Grow.refl R du⟩
theorem en_proj {o : Option α} {i : Int} {j : Nat} {p : Pos} {f : α → β} (ha : EN X G a o) (hf : ∀ x, ∃ ds, enc x = .tuple ds ∧ atI ds i = some (enc (f x))) : EN X G (.Subscript a (.Constant (.int i) j p) pos) (lift1 f o) := fun z hz => by
  obtain ⟨x, h1, h2⟩ := lift1_get hz
  subst h2
  obtain ⟨ds, e1, e2⟩ := hf x
  refine (pe_ix ix_tup (ha x h1) (ed_num (G := G) i rfl) (fun _ _ => rfl)).imp (tN_op ?_)
  intro F G σ H I ps v w Q R hv hw q
  rw [e1] at hv
  cases hw
  cases hv with
  | tup k1 k2 =>
    obtain ⟨u, hu, du⟩ := k2.atI e2
    exact ⟨_, _, i, u, rfl, rfl, .inl (rd_mono (rgN_le.trans R.si) k1), hu, q u H I Grow.refl R du⟩
theorem en_20 {o : Option (T2 α β)} {j : Nat} {p : Pos} (h : EN X G a o) : EN X G (.Subscript a (.Constant (.int 0) j p) pos) (lift1 T2.a o) := en_proj h fun x => ⟨_, rfl, rfl⟩
theorem en_21 {o : Option (T2 α β)} {j : Nat} {p : Pos} (h : EN X G a o) : EN X G (.Subscript a (.Constant (.int 1) j p) pos) (lift1 T2.b o) := en_proj h fun x => ⟨_, rfl, rfl⟩
theorem en_30 {o : Option (T3 α β γ)} {j : Nat} {p : Pos} (h : EN X G a o) : EN X G (.Subscript a (.Constant (.int 0) j p) pos) (lift1 T3.a o) := en_proj h fun x => ⟨_, rfl, rfl⟩
theorem en_31 {o : Option (T3 α β γ)} {j : Nat} {p : Pos} (h : EN X G a o) : EN X G (.Subscript a (.Constant (.int 1) j p) pos) (lift1 T3.b o) := en_proj h fun x => ⟨_, rfl, rfl⟩
theorem en_32 {o : Option (T3 α β γ)} {j : Nat} {p : Pos} (h : EN X G a o) : EN X G (.Subscript a (.Constant (.int 2) j p) pos) (lift1 T3.c o) := en_proj h fun x => ⟨_, rfl, rfl⟩
theorem en_40 {o : Option (T4 α β γ δ)} {j : Nat} {p : Pos} (h : EN X G a o) : EN X G (.Subscript a (.Constant (.int 0) j p) pos) (lift1 T4.a o) := en_proj h fun x => ⟨_, rfl, rfl⟩
theorem en_41 {o : Option (T4 α β γ δ)} {j : Nat} {p : Pos} (h : EN X G a o) : EN X G (.Subscript a (.Constant (.int 1) j p) pos) (lift1 T4.b o) := en_proj h fun x => ⟨_, rfl, rfl⟩
theorem en_42 {o : Option (T4 α β γ δ)} {j : Nat} {p : Pos} (h : EN X G a o) : EN X G (.Subscript a (.Constant (.int 2) j p) pos) (lift1 T4.c o) := en_proj h fun x => ⟨_, rfl, rfl⟩
theorem en_43 {o : Option (T4 α β γ δ)} {j : Nat} {p : Pos} (h : EN X G a o) : EN X G (.Subscript a (.Constant (.int 3) j p) pos) (lift1 T4.d o) := en_proj h fun x => ⟨_, rfl, rfl⟩
theorem en_if {t : Expr} {oc : Option Bool} {oa ob : Option α} (hc : EB X G t oc) (ha : EN X G a oa) (hb : EN X G b ob) : EN X G (.IfExp t a b pos) (oc.bind fun c => bif c then oa else ob) := fun k hk => by
  obtain ⟨x, h1, hk⟩ := bind_get hk
  cases x with
  | true => exact (pe_ifExp (hc _ h1) (ha k hk) pe_never).imp fun σ H Q ⟨F, I, ps, R, q⟩ => ⟨F, I, ps, R, fun H' I' g R' => iteT (⟨F, I', ps, R', fun v H2 I2 g2 R2 d => q _ _ _ (g.trans g2) R2 d⟩)⟩
  | false => exact (pe_ifExp (hc _ h1) pe_never (hb k hk)).imp fun σ H Q ⟨F, I, ps, R, q⟩ => ⟨F, I, ps, R, fun H' I' g R' => iteF (⟨F, I', ps, R', fun v H2 I2 g2 R2 d => q _ _ _ (g.trans g2) R2 d⟩)⟩

/-! ### calls -/
theorem rgN_sub {F H I : Hp} (s : Same F H) : Same (rgN H I) (rgN F I) := fun a u h => by
  have h' := rgN_le _ _ h
  unfold rgN at h ⊢
  rw [h'] at h ⊢
  cases u with
  | lst xs =>
    cases e : H a with
    | none => rw [s.free e]
    | some w => rw [e] at h; cases h
  | frz o u => cases u <;> first | exact h | cases h
  | _ => exact h
section
variable {N : List Str} {sc : Scope} {fs : Option Scope} {k j : Nat} {x : Str} {prm : List Str} {g : List PyData → PyData → Prop} {ods : Option (List PyData)}
theorem en_call {o : Option α} (C : Ctx X N sc fs k) (c : Cal X.prog X.w X.K X.mg X.base CX0 j x prm (spD X.K .nw g)) (hj : j ≤ k) (hg : glbB sc x = true) (ha : AD X G (e :: es) ods) (ho : ∀ r, o = some r → ∃ ds, ods = some ds ∧ g ds (enc r))
    (he : starEach (e :: es) X.env = (false, eval e X.env) :: starEach es X.env := by rfl) (hp : (backTo pos (starEach es X.env)).any (·.1) = false := by rfl) : EN X G (.Call (.Name x p) (e :: es) [] pos) o := fun r hr => by
  obtain ⟨ds, h1, h2⟩ := ho r hr
  refine (pe_callG (c.up hj) C.gd C.rm C.s hg (pass0 (X := X)) (ha ds h1) he hp).imp fun σ H Q ⟨F, I, ps, R, q⟩ => ⟨F, I, ps, R, fun vs H1 I1 g1 R1 d => ⟨ds, _, I1, h2, R1.si, d, fun v H' I' s g' si rr => ?_⟩⟩
  obtain ⟨g2, R2⟩ := R1.called s g' si
  exact q v H' I' (g1.trans g2) R2 (Dq_mono (rgN_sub R1.sf) _ _ rr)
/-- a list of the caller's own, of data without lists -/
theorem eon_call [LF α] {o : Option (List α)} (C : Ctx X N sc fs k) (c : Cal X.prog X.w X.K X.mg X.base CX0 j x prm (spD X.K .ow g)) (hj : j ≤ k) (hg : glbB sc x = true) (ha : AD X G (e :: es) ods) (ho : ∀ r, o = some r → ∃ ds, ods = some ds ∧ g ds (enc r))
    (he : starEach (e :: es) X.env = (false, eval e X.env) :: starEach es X.env := by rfl) (hp : (backTo pos (starEach es X.env)).any (·.1) = false := by rfl) : EON X G (.Call (.Name x p) (e :: es) [] pos) o := eon_free (eo_call C c hj hg ha ho he hp)
end
/-- l + m -/
theorem eon_cat {oa ob : Option (List α)} (ha : EN X G a oa) (hb : EN X G b ob) : EON X G (.BinOp a .Add b pos) (bind2 catG oa ob) := fun z hz => by
  obtain ⟨l, m, h1, h2, h3⟩ := bind2_get hz
  obtain ⟨hc, h3⟩ := ite_get h3
  subst h3
  refine (pe_op op_catR (ha l h1) (hb m h2)).imp fun σ H Q ⟨F, I, ps, R, q⟩ => ⟨F, I, ps, R, fun v H1 I1 g1 R1 d1 => ⟨F, I1, ps, R1, fun w H2 I2 g2 R2 d2 => ?_⟩⟩
  have d1 := Dq_mono (rgN_mono g2.same) _ _ d1
  cases d1 with
  | lst k1 k2 =>
    cases d2 with
    | lst l1 l2 =>
      refine ⟨_, _, _, _, rfl, rfl, rd_mono (rgN_le.trans R2.si) k1, rd_mono (rgN_le.trans R2.si) l1, by rw [k2.len, l2.len, List.length_map, List.length_map]; exact hc, fun p hp => ?_⟩
      exact q p _ _ I2 (g1.trans g2) (R2.newOwn hp) (R2.si.free hp) (R2.sf.free hp) (fun i c => by obtain ⟨_, _, _, z⟩ := R2.own_at c; rw [hp] at z; cases z) upd_same (by rw [List.map_append]; exact k2.app l2)
end
end Lay

set_option Elab.async false
set_option linter.all false
set_option maxRecDepth 100000
/-! LayV: comprehensions and loops over data whose lists are new; stores that spoil it. -/
namespace Lay
open PySem PySem.Spec PyProof.Rows L2
open Lay.Enc (enc)
section
variable {K : PySem.W.Frag} {F : Hp} {G : List Sl} {σ : L2.St} {H H' I I' : Hp} {ps : Nat → Option Addr}
theorem RS.setNw (R : RS K F G σ H I ps) {i : Nat} {v : V} {d : PyData} (h : Dq (rgN F I) v d) : RS K F (G.set i (.nw d)) (σ.set i (some v)) H I (psDel ps i) where
  si := R.si
  sf := R.sf
  fo := fun j a h => by
    unfold psDel at h; split at h
    · cases h
    · exact R.fo j a h
  len := by simp [R.len]
  sl := fun j hj => by
    rw [List.length_set] at hj
    obtain ⟨w, h1, h2⟩ := R.sl j hj
    by_cases e : j = i
    · subst e
      refine ⟨some v, List.getElem?_set_self (by rw [← R.len]; exact hj), ?_⟩
      rw [slAt_set_self hj]
      exact ⟨if_pos rfl, v, rfl, h⟩
    · refine ⟨w, by rw [List.getElem?_set_ne (Ne.symm e)]; exact h1, ?_⟩
      rw [slAt_set_ne (Ne.symm e), show psDel ps i j = ps j from if_neg e]
      exact h2
  out := fun j hj => by
    unfold psDel; split
    · rfl
    · exact R.out j (by simpa using hj)
  dis := fun j l a h1 h2 => by
    unfold psDel at h1 h2
    split at h1
    · cases h1
    · split at h2
      · cases h2
      · exact R.dis j l a h1 h2
theorem RS.setOld (R : RS K F G σ H I ps) {i : Nat} {v : V} {d : PyData} (h : Dq (rgO F I) v d) : RS K F (G.set i (.old d)) (σ.set i (some v)) H I (psDel ps i) where
  si := R.si
  sf := R.sf
  fo := fun j a h => by
    unfold psDel at h; split at h
    · cases h
    · exact R.fo j a h
  len := by simp [R.len]
  sl := fun j hj => by
    rw [List.length_set] at hj
    obtain ⟨w, h1, h2⟩ := R.sl j hj
    by_cases e : j = i
    · subst e
      refine ⟨some v, List.getElem?_set_self (by rw [← R.len]; exact hj), ?_⟩
      rw [slAt_set_self hj]
      exact ⟨if_pos rfl, v, rfl, h⟩
    · refine ⟨w, by rw [List.getElem?_set_ne (Ne.symm e)]; exact h1, ?_⟩
      rw [slAt_set_ne (Ne.symm e), show psDel ps i j = ps j from if_neg e]
      exact h2
  out := fun j hj => by
    unfold psDel; split
    · rfl
    · exact R.out j (by simpa using hj)
  dis := fun j l a h1 h2 => by
    unfold psDel at h1 h2
    split at h1
    · cases h1
    · split at h2
      · cases h2
      · exact R.dis j l a h1 h2
end
/-- a comprehension of data whose lists are new -/
def LCN (X : Cx) (G : List Sl) (e : Expr) {α : Type} [Enc α] (o : Option (List α)) : Prop := ∀ l, o = some l → ∃ t : TE, PE X e t ∧
  (∀ (i : Nat) (y : Str) (py sp : Pos), X.N[i]? = some y → X.env.scope.names.lookup y = some .local → swapsWith e (some (.Name y py)) sp.line X.env = pure true → PS X (.Assign [.Name y py] e sp) (tAsg t (gName i))) ∧
  ∀ σ H Q, tON X.K G (l.map enc) σ H Q → t σ H Q
section
variable {X : Cx} {G : List Sl} {N : List Str} {sc : Scope} {fs : Option Scope} {k : Nat} {α β : Type} [Enc α] [Enc β] {elt tg iter : Expr} {ifs : List Expr} {scope : Scope} {pos : Pos} {g : L2.TG} {js : List Nat} {f : α → List Sl → List Sl}
theorem lcN_mk {own : List (Str × Nat)} {ol : Option (List α)} {oc : α → Option Bool} {oe : α → Option β} (C : Ctx X N sc fs k) (hi : IT X G tg iter ol) (ok : blkC N sc scope own = true)
    (hg : ∀ s H Ca cl fp, PG (X.blk s H scope (compEnvC scope cl Ca X.env) fp) tg g) (ht : Tgt X.K g js f) (hj : ∀ j ∈ js, j ∈ own.map (·.2)) (hf : ownFree G (own.map (·.2)) = true)
    (hc : ∀ s H Ca cl fp x, ETs (X.blk s H scope (compEnvC scope cl Ca X.env) fp) (f x (wipeG G (own.map (·.2)))) ifs (oc x))
    (he : ∀ s H Ca cl fp x, EN (X.blk s H scope (compEnvC scope cl Ca X.env) fp) (f x (wipeG G (own.map (·.2)))) elt (oe x)) (hs : ∀ x, foldedSetIterable iter X.env x = pure x := by intro _; rfl) :
    LCN X G (.ListComp elt [⟨tg, iter, ifs, 0⟩] scope pos) (ol.bind (lcL oc oe)) := fun r hr => by
  obtain ⟨l, h1, h2⟩ := bind_get hr
  obtain ⟨vs, hvs⟩ : ∃ vs, own.map (·.2) = vs := ⟨_, rfl⟩
  rw [hvs] at hj hf
  simp only [hvs] at hc he
  let te : TE := fun σ H Q => ∃ x y, oe x = some y ∧ tN X.K (f x (wipeG G vs)) (enc y) σ H Q
  let tt : TT := fun σ H Q => ∃ x b, oc x = some b ∧ tB X.K (f x (wipeG G vs)) b σ H Q
  have pe : ∀ s H Ca cl fp, PE (X.blk s H scope (compEnvC scope cl Ca X.env) fp) elt te := fun s H Ca cl fp => ⟨fun pins st σ H' Q I ⟨x, y, e, q⟩ => (he s H Ca cl fp x y e).run pins st σ H' Q I q⟩
  have pt : ∀ s H Ca cl fp, PTs (X.blk s H scope (compEnvC scope cl Ca X.env) fp) ifs tt := fun s H Ca cl fp => ⟨fun pins st σ H' Q I ⟨x, b, e, q⟩ => (hc s H Ca cl fp x b e).run pins st σ H' Q I q⟩
  have nd : X.N.Nodup := by rw [C.n]; exact C.nd
  have bk : BlkOk X.N X.env.scope scope own := by rw [C.n, C.s]; exact blkOk_by ok
  refine ⟨_, pe_lc C.calm nd (hi l h1) bk hg pt pe hs, fun i y py sp a b c => ps_setLc C.calm nd a b c (hi l h1) bk hg pt pe hs, fun σ H Q ⟨F, I, ps, R, q⟩ => ?_⟩
  rw [hvs]
  refine ⟨F, I, ps, R, fun J H1 I1 gr1 R1 wl ll D hD => ?_⟩
  have ll : l.length ≤ sizeLine := by rw [List.length_map] at ll; exact ll
  have hD1 : I1 D = none := R1.si.free hD
  have hDF : F D = none := R1.sf.free hD
  have hDp : ∀ i, ps i ≠ some D := fun i c => by obtain ⟨_, _, xs, z⟩ := R1.own_at c; rw [hD] at z; cases z
  -- the state between turns: the list made so far at D, the rest to be made
  refine ⟨fun i m H => m = l.length - i ∧ i ≤ l.length ∧ ∃ I' xs done rst, Grow F I1 I' ∧ RS X.K F G σ H I' ps ∧ I' D = none ∧ H D = some (.lst xs) ∧ DqAll (rgN F I') xs (done.map enc) ∧ done.length ≤ i ∧ lcL oc oe (l.drop i) = some rst ∧ r = done ++ rst,
    ⟨_, rfl, Nat.zero_le _, I1, [], [], r, Grow.refl, R1.newOwn hD, hD1, upd_same, .nil, Nat.le_refl _, h2, rfl⟩, ?_⟩
  rintro i m H3 ⟨rfl, hil, I3, xs, done, rst, gr3, R3, n3, hD3, d3, hlen, hr3, er⟩
  have sI : Same I1 H3 := gr3.same.trans R3.si
  by_cases hlt : i < l.length
  · have hx : l[i]? = some l[i] := List.getElem?_eq_getElem hlt
    obtain ⟨t, ht1, ht2⟩ := lcL_at hx hr3
    obtain ⟨go, yl⟩ := wl.go i (enc l[i]) H3 sI (by rw [List.getElem?_map, hx]; rfl)
    refine .inr ⟨go, fun H' => ∃ I' xs done rst, Grow F I1 I' ∧ RS X.K F G σ H' I' ps ∧ I' D = none ∧ H' D = some (.lst xs) ∧ DqAll (rgN F I') xs (done.map enc) ∧ done.length ≤ i + 1 ∧ lcL oc oe (l.drop (i + 1)) = some rst ∧ r = done ++ rst,
      fun H' hN => ⟨l.length - (i + 1), by omega, rfl, hlt, hN⟩, fun x H4 y4 => ?_⟩
    have item : ∃ I4, Grow F I3 I4 ∧ RS X.K F G σ H4 I4 ps ∧ Dq I4 x (enc l[i]) ∧ I4 D = none ∧ H4 D = some (.lst xs) := by
      rcases yl x H4 y4 with ⟨e, d⟩ | ⟨T, o, n, e, d⟩
      · subst e; exact ⟨I3, Grow.refl, R3, Dq_mono gr3.same _ _ d, n3, hD3⟩
      · subst e
        have nT : D ≠ T := ne_of_none hD3 n
        refine ⟨upd I3 T o, R3.grow_new n, R3.new n, Dq_mono (fun b u q => ?_) _ _ d, by rw [upd_ne nT]; exact n3, by rw [upd_ne nT]; exact hD3⟩
        by_cases c : b = T
        · subst c; rw [upd_same] at q ⊢; exact q
        · rw [upd_ne c] at q ⊢; exact gr3.same _ _ q
    obtain ⟨I4, g4, R4, d4, n4, hD4⟩ := item
    -- within the turn the new list stands for others
    have inner : ∀ {H' I'}, RS X.K F G σ H' I' ps → I' D = none → H' D = some (.lst xs) → RS X.K (upd F D (.lst xs)) G σ H' I' ps := fun {H' I'} r n h => r.frame (fun b o z => by
      by_cases c : b = D
      · subst c; rw [upd_same] at z; cases z; exact h
      · rw [upd_ne c] at z; exact r.sf _ _ z) (fun i a ha => by rw [upd_ne (fun c : a = D => hDp i (by rw [← c]; exact ha))]; exact r.fo i a ha) (upd_iff n)
    have sF : Same F (upd F D (.lst xs)) := same_upd hDF
    have outer : ∀ {I' I''}, Grow (upd F D (.lst xs)) I' I'' → Grow F I' I'' := fun {I' I''} g => ⟨g.same, fun a h => (g.out a h).imp_right sF.free⟩
    have keepD : ∀ {I' I''}, Grow (upd F D (.lst xs)) I' I'' → I' D = none → I'' D = none := fun {I' I''} g n => by
      cases z : I'' D with
      | none => rfl
      | some o =>
        rcases g.out D (by rw [z]; simp) with h | h
        · exact absurd n h
        · rw [upd_same] at h; cases h
    have hpv := ownFree_ps R4 hf
    have Rw := (inner R4 n4 hD4).wiped vs hpv
    refine ht.go l[i] _ _ _ H4 I4 ps x _ Rw (fun j h => hpv j (hj j h)) d4 fun σ5 R5 w5 o5 => ⟨(w5 vs hj).trans wipe_wipe, ?_⟩
    -- what stands of the outer state behind
    have hG : ∀ (j : Nat) ds, slAt G j = .own ds → slAt (f (l[i]'hlt) (wipeG G vs)) j = .own ds ∧ j < (f (l[i]'hlt) (wipeG G vs)).length := fun j ds h => by
      have nv : j ∉ vs := fun z => by
        have q := List.all_eq_true.mp hf j z
        rw [h] at q; cases q
      have e : slAt (f (l[i]'hlt) (wipeG G vs)) j = .own ds := by rw [o5 j (fun z => nv (hj j z)), wipeG_out nv]; exact h
      refine ⟨e, ?_⟩
      by_cases c : j < (f (l[i]'hlt) (wipeG G vs)).length
      · exact c
      · rw [slAt_out (by omega)] at e; cases e
    refine ⟨l[i], t, ht1, upd F D (.lst xs), I4, ps, R5, fun H6 I6 g6 R6 => ?_⟩
    rcases ht2 with ⟨rfl, y, r', hy, er2, hr4⟩ | ⟨rfl, hr4⟩
    · refine iteT ⟨l[i], y, hy, upd F D (.lst xs), I6, ps, R6, fun v H7 I7 g7 R7 d7 => ?_⟩
      have g47 := outer (g6.trans g7)
      have hD7 : H7 D = some (.lst xs) := R7.sf _ _ upd_same
      have n7 : I7 D = none := keepD (g6.trans g7) n4
      have R8 := (R4.back R7 sF (g6.trans g7).same hG).wr (o := .lst (xs ++ [v])) n7 hDF hDp
      have lx : xs.length = done.length := by rw [d3.len, List.length_map]
      refine ⟨xs, hD7, by omega, I7, xs ++ [v], done ++ [y], r', gr3.trans (g4.trans g47), R8, n7, upd_same, ?_, by rw [List.length_append]; show done.length + 1 ≤ i + 1; omega, hr4, by rw [er, er2, List.append_assoc]; rfl⟩
      rw [List.map_append]
      exact (DqAll_mono (rgN_mono (g4.trans g47).same) _ _ d3).app (.cons (by rw [rgN_same (upd_iff n7)] at d7; exact d7) .nil)
    · have hD6 : H6 D = some (.lst xs) := R6.sf _ _ upd_same
      exact iteF ⟨I6, xs, done, rst, gr3.trans (g4.trans (outer g6)), R4.back R6 sF g6.same hG, keepD g6 n4, hD6, DqAll_mono (rgN_mono (g4.trans (outer g6)).same) _ _ d3, by omega, hr4, er⟩
  · have e : i = l.length := by omega
    subst e
    rw [List.drop_length] at hr3
    cases hr3
    rw [List.append_nil] at er
    subst er
    have wst := wl.st H3 sI
    rw [List.length_map] at wst
    exact .inl ⟨wst, q D xs H3 I3 (gr1.trans gr3) R3 n3 hDF hDp hD3 d3⟩
theorem eon_lc {e : Expr} {o : Option (List α)} (h : LCN X G e o) : EON X G e o := fun l hl => let ⟨t, p, _, w⟩ := h l hl; p.imp w
theorem lc_of_lcn {e : Expr} {o : Option (List α)} (h : LCN X G e o) : LC X G e o := fun l hl => let ⟨t, p, s, w⟩ := h l hl; ⟨t, p, s, fun σ H Q ⟨F, I, ps, R, q⟩ => w σ H Q ⟨F, I, ps, R, fun p xs H' I' g R' n1 n2 n3 hH d => q p xs H' I' g R' n1 n2 n3 hH (DqAll_mono rgN_le _ _ d)⟩⟩
end
/-! ### walks over lists of such -/
structure WlkN (K : PySem.W.Frag) (J : It) (I : Hp) (ds : List PyData) : Prop where
  go : ∀ (i : Nat) (d : PyData) (H : Hp), Same I H → ds[i]? = some d → J.go i H ∧ ∀ x H', J.yld i H x H' → H' = H ∧ Dq I x d
  st : ∀ (H : Hp), Same I H → J.stop ds.length H
def tIN (K : PySem.W.Frag) (G : List Sl) (ds : List PyData) (σ : L2.St) (H : Hp) (R : It → Hp → Prop) : Prop :=
  ∃ F I ps, RS K F G σ H I ps ∧ ∀ J H' I', Grow F I I' → RS K F G σ H' I' ps → WlkN K J (rgN F I') ds → ds.length ≤ sizeLine → R J H'
def ITN (X : Cx) (G : List Sl) (tg iter : Expr) {α : Type} [Enc α] (o : Option (List α)) : Prop := ∀ l, o = some l → PI X tg iter (tIN X.K G (l.map enc))
structure TgtN (K : PySem.W.Frag) (g : L2.TG) (js : List Nat) {α : Type} [Enc α] (f : α → List Sl → List Sl) : Prop where
  go : ∀ (x : α) (G : List Sl) (F : Hp) (σ : L2.St) (H I : Hp) (ps : Nat → Option Addr) (v : V) (Q : L2.St → Hp → Prop), RS K F G σ H I ps → (∀ j ∈ js, ps j = none) → Dq (rgN F I) v (enc x) →
    (∀ σ', RS K F (f x G) σ' H I ps → (∀ vs, (∀ j ∈ js, j ∈ vs) → wipe σ' vs = wipe σ vs) → (∀ i, i ∉ js → slAt (f x G) i = slAt G i) → Q σ' H) → g v σ H Q
def fNameN {α : Type} [Enc α] (i : Nat) : α → List Sl → List Sl := fun x G => G.set i (.nw (enc x))
theorem tgt_nameN {K : PySem.W.Frag} {α : Type} [Enc α] {i : Nat} : TgtN K (gName i) [i] (fNameN (α := α) i) := ⟨fun x G F σ H I ps v Q R hp d q => by
  have R1 := R.setNw (i := i) d
  rw [psDel_none (hp i (by simp))] at R1
  exact q _ R1 (fun vs h => wipe_set (h i (by simp))) fun j hj => slAt_set_ne fun e => hj (by simp [e])⟩
section
variable {X : Cx} {G : List Sl} {α : Type} [Enc α] {tg e : Expr}
theorem wlkN_list {K : PySem.W.Frag} {I : Hp} {a : Addr} {xs : List V} {ds : List PyData} (h1 : Rd I a (.lst xs)) (h2 : DqAll I xs ds) : WlkN K (Itl K a) I ds := by
  refine ⟨fun i d H s hd => ?_, fun H s => ⟨xs, (.inl (rd_mono s h1)), by rw [h2.len]; exact Nat.le_refl _⟩⟩
  obtain ⟨v, hv, dv⟩ := h2.at hd
  refine ⟨⟨xs, v, (.inl (rd_mono s h1)), hv⟩, fun x H' y => ?_⟩
  obtain ⟨e, y⟩ := y
  subst e
  have e2 := y xs (.inl (rd_mono s h1))
  rw [hv] at e2; cases e2
  exact ⟨rfl, dv⟩
theorem it_listN {o : Option (List α)} (h : EN X G e o) : ITN X G tg e o := fun l hl =>
  (pi_len (pi_list (h l hl)) fun σ H R R' w ⟨F, I, ps, r, q⟩ => ⟨F, I, ps, r, fun v H' I' g r' d => by obtain ⟨a, e, z, q⟩ := q v H' I' g r' d; exact ⟨a, e, z, w _ _ q⟩⟩).imp
  fun σ H R ⟨F, I, ps, r, q⟩ => ⟨F, I, ps, r, fun v H' I' g r' d => by
    cases d with
    | lst h1 h2 =>
      have h3 := rd_mono (rgN_le.trans r'.si) h1
      exact ⟨_, rfl, ⟨_, (.inl h3)⟩, fun lo => q _ _ I' g r' (wlkN_list h1 h2) (by rw [← h2.len]; exact (lo _ _).1 (.inl h3))⟩⟩
end
section
variable {X : Cx} {G : List Sl} {S S1 B R : Type} [Enc R] {P : S → List Sl} {P1 : S1 → List Sl} {PB : B → List Sl} {own : Rk} {rest body : List Stmt} {α : Type} [Enc α] {N : List Str} {sc : Scope} {fs : Option Scope} {k : Nat} {tg iter : Expr} {g : L2.TG} {js : List Nat} {f : α → List Sl → List Sl} {pos : Pos}
theorem sv_forN {step : S1 → α → Option (Out S1 S1 R)} {s0 : S1} {ol : Option (List α)} {kk : S1 → Option (Out S B R)} (C : Ctx X N sc fs k) (hi : ITN X G tg iter ol) (hg : PG X tg g) (ht : TgtN X.K g js f) (hu : ∀ s, unAt (P1 s) js = true) (hw : WkR G (P1 s0))
    (hb : ∀ s x, SV X (f x (P1 s)) body P1 P1 own.s (step s x)) (hk : ∀ s, SV X (P1 s) rest P PB own (kk s)) (hs : ∀ x, foldedSetIterable iter X.env x = pure x := by intro _; rfl) :
    SV X G (.For tg iter body [] pos :: rest) P PB own (ol.bind fun l => bindOut (forL step s0 l) kk) := fun y hy => by
  obtain ⟨l, h1, h2⟩ := bind_get hy
  unfold bindOut at h2
  obtain ⟨z, hz, h2⟩ := bind_get h2
  have pb : PSs X body (fun D σ H => ∃ s x o, step s x = some o ∧ tS X.K (f x (P1 s)) P1 P1 own.s o D σ H) := ⟨fun pins st σ H D I ⟨s, x, o, e, t⟩ => (hb s x o e).run pins st σ H D I t⟩
  have pf := ps_for (pos := pos) C.px C.calm (hi l h1) hg pb hs
  -- the loop, for any end wished
  have key : ∀ (D : Ends) (σ : L2.St) (H F I : Hp) (ps : Nat → Option Addr), RS X.K F G σ H I ps →
      (match z with
        | .nx s => ∀ σ' H' I' ps', Grow F I I' → RS X.K F (P1 s) σ' H' I' ps' → D.nx σ' H'
        | .rt r => ∀ v H' I', Grow F I I' → Same F H' → Same I' H' → RetR X.K own.k F I' H' v (enc r) → D.rt v H'
        | _ => True) → tFor (tIN X.K G (l.map enc)) g (fun D σ H => ∃ s x o, step s x = some o ∧ tS X.K (f x (P1 s)) P1 P1 own.s o D σ H) D σ H := by
    intro D σ H F I ps r q
    refine ⟨F, I, ps, r, fun J H1 I1 g1 r1 wl lenl => ?_⟩
    obtain ⟨I2, ps2, g2, r2⟩ := hw _ _ _ _ _ _ r1
    have gI : Grow F I I2 := g1.trans g2
    refine ⟨fun i m σ H => m = l.length - i ∧ i ≤ l.length ∧ ∃ s I' ps', forL step s (l.drop i) = some z ∧ Grow F I2 I' ∧ RS X.K F (P1 s) σ H I' ps', ⟨_, rfl, Nat.zero_le _, s0, I2, ps2, hz, Grow.refl, r2⟩, ?_⟩
    rintro i m σ3 H3 ⟨rfl, hi, s, I3, ps3, ez, g3, r3⟩
    have sI : Same I1 H3 := (g2.same.trans g3.same).trans r3.si
    by_cases hlt : i < l.length
    · have hx : l[i]? = some l[i] := List.getElem?_eq_getElem hlt
      obtain ⟨o, ho, hm⟩ := forL_at hx ez
      obtain ⟨go, yl⟩ := wl.go i (enc l[i]) H3 (rgN_le.trans sI) (by rw [List.getElem?_map, hx]; rfl)
      refine .inr ⟨go, fun σ' H' => ∃ s I' ps', forL step s (l.drop (i + 1)) = some z ∧ Grow F I2 I' ∧ RS X.K F (P1 s) σ' H' I' ps', fun σ' H' hN => ⟨l.length - (i + 1), by omega, rfl, hlt, hN⟩, fun x H4 y4 => ?_⟩
      -- the item's data in a persistent part
      have item : ∃ I4, Grow F I3 I4 ∧ RS X.K F (P1 s) σ3 H4 I4 ps3 ∧ Dq (rgN F I4) x (enc l[i]) := by
        obtain ⟨e, d⟩ := yl x H4 y4
        subst e; exact ⟨I3, Grow.refl, r3, Dq_mono (rgN_mono (g2.same.trans g3.same)) _ _ d⟩
      obtain ⟨I4, g4, r4, d4⟩ := item
      refine ht.go l[i] (P1 s) F σ3 H4 I4 ps3 x _ r4 (unAt_ps r4 (hu s)) d4 fun σ5 r5 _ _ => ?_
      refine ⟨s, l[i], o, ho, F, I4, ps3, r5, ?_⟩
      cases o with
      | nx s' => exact fun σ' H' I' ps' g' r' => ⟨s', I', ps', hm, g3.trans (g4.trans g'), r'⟩
      | ct s' => exact fun σ' H' I' ps' g' r' => ⟨s', I', ps', hm, g3.trans (g4.trans g'), r'⟩
      | bk s' =>
        have hm : z = .nx s' := hm
        subst hm
        exact fun σ' H' I' ps' g' r' => q σ' H' I' ps' (gI.trans (g3.trans (g4.trans g'))) r'
      | rt w =>
        have hm : z = .rt w := hm
        subst hm
        exact fun v H' I' g' s1 s2 rr => q v H' I' (gI.trans (g3.trans (g4.trans g'))) s1 s2 rr
    · have e := forL_end (by omega) ez
      subst e
      have wst := wl.st H3 (rgN_le.trans sI)
      rw [List.length_map, show l.length = i by omega] at wst
      exact .inl ⟨wst, q σ3 H3 I3 ps3 (gI.trans g3) r3⟩
  cases z with
  | nx s => exact (pss_cons pf (hk s y h2)).imp fun D σ H ⟨F, I, ps, r, q⟩ => key _ σ H F I ps r fun σ1 H1 I1 ps1 g1 r1 => tS_after (H := H) (ps := ps) (σ := σ) g1 r1 q
  | rt w => cases h2; exact (pss_cons pf pss_never).imp fun D σ H ⟨F, I, ps, r, q⟩ => key _ σ H F I ps r fun v H' I' g s1 s2 rr => q v H' I' g.b s1 s2 rr
  | bk b => cases h2; exact (pss_cons pf pss_never).imp fun D σ H ⟨F, I, ps, r, q⟩ => False.elim (by
      have : ∀ (s : S1) (l : List α) (b : B), forL step s l ≠ some (Out.bk b) := by
        intro s l b
        induction l generalizing s with
        | nil => intro h; cases h
        | cons x xs ih =>
          intro h
          unfold forL at h
          obtain ⟨o, _, h⟩ := bind_get h
          cases o with
          | nx s => exact ih s h
          | ct s => exact ih s h
          | bk s => cases h
          | rt r => cases h
      exact this s0 l b hz)
  | ct b => cases h2; exact (pss_cons pf pss_never).imp fun D σ H ⟨F, I, ps, r, q⟩ => False.elim (by
      have : ∀ (s : S1) (l : List α) (b : B), forL step s l ≠ some (Out.ct b) := by
        intro s l b
        induction l generalizing s with
        | nil => intro h; cases h
        | cons x xs ih =>
          intro h
          unfold forL at h
          obtain ⟨o, _, h⟩ := bind_get h
          cases o with
          | nx s => exact ih s h
          | ct s => exact ih s h
          | bk s => cases h
          | rt r => cases h
      exact this s0 l b hz)
end

section
variable {X : Cx} {G : List Sl} {α β : Type} [Enc α] [Enc β] {e a : Expr} {pos p : Pos} {N : List Str} {sc : Scope} {fs : Option Scope} {k : Nat}
theorem tN_bO {K : PySem.W.Frag} {r : List V → Hp → VK → Prop} {ds es : List PyData} (h : ∀ (F : Hp) (G : List Sl) (σ : L2.St) (H I : Hp) (ps : Nat → Option Addr) (ad : Addr) (xs : List V) (Q : VK), RS K F G σ H I ps → SqL K H ad xs → DqAll (rgN F I) xs ds → (∀ p ys, H p = none → DqAll (rgN F I) ys es → Q (.ref p) (upd H p (.lst ys))) → r [.ref ad] H Q)
    (σ : L2.St) (H : Hp) (Q : VK) (t : tON K G es σ H Q) : tCB r (tCons (tN K G (.list ds)) tNil) σ H Q := by
  obtain ⟨F, I, ps, R, q⟩ := t
  refine ⟨F, I, ps, R, fun v H1 I1 g1 R1 dv => ?_⟩
  cases dv with
  | lst k1 k2 =>
    refine h F G σ H1 I1 ps _ _ Q R1 (.inl (rd_mono (rgN_le.trans R1.si) k1)) k2 fun p ys hp dy => ?_
    exact q p ys _ I1 g1 (R1.newOwn hp) (R1.si.free hp) (R1.sf.free hp) (fun i c => by obtain ⟨_, _, _, z⟩ := R1.own_at c; rw [hp] at z; cases z) upd_same dy
theorem eon_sortedD [S : SortT α] [T : Sh α] {ol : Option (List α)} (C : Ctx X N sc fs k) (hg : glbB sc "sorted" = true) (hm : X.mg "sorted" = none) (h : EN X G e ol) (hs : starEach [e] X.env = (false, eval e X.env) :: starEach [] X.env := by rfl) (hd : T.dp ≤ 60 := by decide) : EON X G (.Call (.Name "sorted" p) [e] [] pos) (ol.bind sortD) := fun z hz => by
  obtain ⟨l, h1, h2⟩ := bind_get hz
  obtain ⟨⟨hok, hL⟩, e1⟩ := ite_get h2
  refine (b1 (id := "sorted") C hg hm (by decide +kernel) (cr_sortedD (α := α) C.rm.units hd) (h l h1) (by decide) hs).imp (tN_bO fun F G σ H I ps ad xs Q R s d q => ?_)
  refine ⟨ad, xs, l, rfl, s, DqAll_dp _ _ (DqAll_mono (rgN_le.trans R.si) _ _ d), hok, hL, fun zs p hp hs hn => ?_⟩
  have dz := dq_of (fun z hz => dq_zip d z (hp.mem_iff.mp hz))
  rw [hs, e1] at dz
  exact q p _ hn dz
theorem eon_listL {ol : Option (List α)} (C : Ctx X N sc fs k) (hg : glbB sc "list" = true) (hm : X.mg "list" = none) (h : EN X G e ol) (hs : starEach [e] X.env = (false, eval e X.env) :: starEach [] X.env := by rfl) : EON X G (.Call (.Name "list" p) [e] [] pos) ol := fun l h1 => by
  refine (bT C hg hm (by decide +kernel) call_list_of (h l h1) (by decide) hs).imp (tN_bO fun F G σ H I ps ad xs Q R s d q => ?_)
  exact ⟨ad, xs, rfl, .inl s, fun l hl => q l xs hl d⟩
end

/-! ### statements -/
section
variable {X : Cx} {G : List Sl} {S B R : Type} [Enc R] {P : S → List Sl} {PB : B → List Sl} {own : Rk} {rest : List Stmt} {N : List Str} {sc : Scope} {fs : Option Scope} {k i : Nat} {x : Str} {α β : Type} [Enc α] [Enc β] {e elt : Expr} {gs : List Comprehension} {scope : Scope} {pos p sp py : Pos}
/-- name = data whose lists are new -/
theorem sv_setN {oe : Option α} {kk : α → Option (Out S B R)} (C : Ctx X N sc fs k) (hl : locB N sc fs i x = true) (he : EN X G e oe) (hk : ∀ v, SV X (G.set i (.nw (enc v))) rest P PB own (kk v))
    (hs : swapsWith e (some (.Name x p)) pos.line X.env = pure false := by rfl) : SV X G (.Assign [.Name x p] e pos :: rest) P PB own (oe.bind kk) := fun y hy => by
  obtain ⟨v, h1, h2⟩ := bind_get hy
  obtain ⟨a1, a2, a3, a4⟩ := locB_ok C hl
  exact (pss_cons (ps_set a1 a2 a3 (he v h1) hs a4) (hk v y h2)).imp fun D σ H ⟨F, I, ps, Rr, q⟩ => ⟨F, I, ps, Rr, fun w H1 I1 g R1 d => tS_after (H := H) (ps := ps) (σ := σ) g (R1.setNw d) q⟩
theorem sv_setLN {oe : Option (List α)} {kk : List α → Option (Out S B R)} (C : Ctx X N sc fs k) (hx : swB N sc scope i x = true) (hl : (py.line == pos.line) = true) (he : LCN X G (.ListComp elt gs scope pos) oe) (hk : ∀ v : List α, SV X (G.set i (.nw (enc v))) rest P PB own (kk v)) :
    SV X G (.Assign [.Name x py] (.ListComp elt gs scope pos) sp :: rest) P PB own (oe.bind kk) := fun y hy => by
  obtain ⟨v, h1, h2⟩ := bind_get hy
  obtain ⟨t, _, st, w⟩ := he v h1
  obtain ⟨a1, a2, a3⟩ := swB_ok (sp := sp) C hx hl
  refine (pss_cons (st i x py sp a1 a2 a3) (hk v y h2)).imp fun D σ H ⟨F, I, ps, R, q⟩ => w σ H _ ⟨F, I, ps, R, fun p xs H1 I1 g R1 n1 n2 n3 hH d => ?_⟩
  obtain ⟨g', R2, d2⟩ := frz_new g R1 n1 n2 n3 hH (DqAll_mono rgN_le _ _ d)
  exact tS_after (H := H) (ps := ps) (σ := σ) g' (R2.setNw (.lst (.inl (rgN_new n2)) (DqAll_mono (rgN_mono (same_upd n1)) _ _ d))) q
theorem sv_retN {m : Bool} {oe : Option R} (he : EN X G e oe) : SV X G (.Return (some e) pos :: rest) P PB ⟨.nw, m⟩ (oe.bind fun r => some (.rt r)) := fun y hy => by
  obtain ⟨v, h1, h2⟩ := bind_get hy
  cases h2
  exact (pss_cons (ps_ret (he v h1)) pss_never).imp fun D σ H ⟨F, I, ps, Rr, q⟩ => ⟨F, I, ps, Rr, fun w H1 I1 g R1 d => q w H1 I1 g.b R1.sf R1.si d⟩
/-- an own list of data without lists becomes persistent, and is known to be new -/
theorem sv_frzN {l : List α} [LF α] {o : Option (Out S B R)} (hs : slAt G i = .own (l.map enc)) (h : SV X (G.set i (.nw (enc l))) rest P PB own o) : SV X G rest P PB own o := fun x hx => (h x hx).imp fun D σ H ⟨F, I, ps, R, q⟩ => by
  have hi := slot_lt hs (by simp)
  obtain ⟨I', g, R'⟩ := R.frz hs
  obtain ⟨v, h1, h2⟩ := R.sl i hi
  rw [hs] at h2
  obtain ⟨a, xs, e1, e2, n, hH, r⟩ := h2
  subst e2
  have R2 : RS X.K F ((G.set i (.dat (.list (l.map enc)))).set i (.nw (enc l))) (σ.set i (some (.ref a))) H I' (psDel (psDel ps i) i) := by
    refine R'.setNw ?_
    obtain ⟨w, k1, k2⟩ := R'.sl i (by rw [List.length_set]; exact hi)
    rw [slAt_set_self hi] at k2
    obtain ⟨_, z, ez, d⟩ := k2
    rw [h1] at k1; cases k1; cases ez
    cases d with
    | lst q1 q2 =>
      have q3 : H a = _ := R'.si a _ (by
        rcases q1 with q1 | ⟨o, q1⟩
        · exact q1
        · have := R'.si _ _ q1; rw [hH] at this; cases this)
      refine .lst (.inl ?_) (lfAll q2)
      rcases q1 with q1 | ⟨o, q1⟩
      · unfold rgN; rw [q1, R.fo i a e1]
      · have := R'.si _ _ q1; rw [hH] at this; cases this
  have e : σ.set i (some (.ref a)) = σ := by
    have hl : i < σ.length := by rw [← R.len]; exact hi
    have h1' : σ[i]? = some (some (V.ref a)) := h1
    apply List.ext_getElem?
    intro j
    by_cases c : j = i
    · subst c; rw [List.getElem?_set_self hl, h1']
    · rw [List.getElem?_set_ne (Ne.symm c)]
  rw [e, List.set_set] at R2
  exact tS_after (H := H) (ps := ps) (σ := σ) g R2 q

/-! ### a place from which on what is new may be spoilt -/
def refS : Sl → Sl
  | .dat d => .old d
  | .nw d => .old d
  | s => s
def plainS : Sl → Bool
  | .old _ => false
  | .nw _ => false
  | _ => true
theorem RS.plain {K : PySem.W.Frag} {F F' H I : Hp} {σ : L2.St} {ps : Nat → Option Addr} (R : RS K F G σ H I ps) (hp : G.all plainS = true) (s : Same F' H) (n : ∀ i a, ps i = some a → F' a = none) : RS K F' G σ H I ps := by
  refine ⟨R.si, s, n, R.len, fun i hi => ?_, R.out, R.dis⟩
  obtain ⟨v, h1, h2⟩ := R.sl i hi
  refine ⟨v, h1, ?_⟩
  have hq : plainS (slAt G i) = true := by
    have : ∀ (G : List Sl) (i : Nat), i < G.length → G.all plainS = true → plainS (slAt G i) = true := by
      intro G
      induction G with
      | nil => intro i h; simp at h
      | cons s r ih => intro i h q; cases i with
        | zero => simp at q; exact q.1
        | succ i => simp only [List.all_cons, Bool.and_eq_true] at q; exact ih i (by simpa using h) q.2
    exact this G i hi hp
  cases e : slAt G i with
  | un => rw [e] at h2; exact h2
  | dat d => rw [e] at h2; exact h2
  | own d => rw [e] at h2; exact h2
  | rd d => rw [e] at h2; exact h2
  | old d => rw [e] at hq; cases hq
  | nw d => rw [e] at hq; cases hq
open Classical in
theorem RS.refr {K : PySem.W.Frag} {F H I : Hp} {σ : L2.St} {ps : Nat → Option Addr} (R : RS K F G σ H I ps) : ∃ F', RS K F' (G.map refS) σ H I ps ∧ Same F F' ∧ (∀ a, I a ≠ none → F' a ≠ none) := by
  let F' : Hp := fun a => if ∃ i, ps i = some a then none else H a
  have off : ∀ {a}, (¬ ∃ i, ps i = some a) → F' a = H a := fun h => if_neg h
  have hI : ∀ a u, I a = some u → F' a = some u := fun a u h => by
    rw [off (fun ⟨i, hi⟩ => by rw [(R.own_at hi).1] at h; cases h)]; exact R.si _ _ h
  have sI : Same I (rgO F' I) := fun a u h => by unfold rgO; rw [hI a u h]; exact h
  refine ⟨F', ⟨R.si, fun a u h => ?_, fun i a h => if_pos ⟨i, h⟩, by rw [List.length_map]; exact R.len, fun i hi => ?_, fun i hi => R.out i (by rw [List.length_map] at hi; exact hi), R.dis⟩, fun a u h => ?_, fun a h => ?_⟩
  · by_cases c : ∃ i, ps i = some a
    · have : F' a = none := if_pos c
      rw [this] at h; cases h
    · rw [off c] at h; exact h
  · rw [List.length_map] at hi
    obtain ⟨v, h1, h2⟩ := R.sl i hi
    refine ⟨v, h1, ?_⟩
    have hm : slAt (G.map refS) i = refS (slAt G i) := by
      have : ∀ (G : List Sl) (i : Nat), i < G.length → slAt (G.map refS) i = refS (slAt G i) := by
        intro G
        induction G with
        | nil => intro i h; simp at h
        | cons s r ih => intro i h; cases i with
          | zero => rfl
          | succ i => exact ih i (by simpa using h)
      exact this G i hi
    rw [hm]
    cases e : slAt G i with
    | un => rw [e] at h2; exact h2
    | dat d => rw [e] at h2; obtain ⟨e1, x, e2, q⟩ := h2; exact ⟨e1, x, e2, Dq_mono sI _ _ q⟩
    | own d => rw [e] at h2; exact h2
    | rd d => rw [e] at h2; exact h2
    | old d => rw [e] at h2; obtain ⟨e1, x, e2, q⟩ := h2; exact ⟨e1, x, e2, Dq_mono (rgO_le.trans sI) _ _ q⟩
    | nw d => rw [e] at h2; obtain ⟨e1, x, e2, q⟩ := h2; exact ⟨e1, x, e2, Dq_mono (rgN_le.trans sI) _ _ q⟩
  · rw [off (fun ⟨i, hi⟩ => by rw [R.fo i a hi] at h; cases h)]; exact R.sf _ _ h
  · cases e : I a with
    | none => exact absurd e h
    | some u => rw [hI a u e]; simp
theorem sv_refr {kd : Rq} {m : Bool} {o : Option (Out S B R)} (hp : ∀ s, (P s).all plainS = true) (hb : ∀ s, (PB s).all plainS = true) (hk : kd ≠ .nw) (h : SV X (G.map refS) rest P PB ⟨kd, true⟩ o) : SV X G rest P PB ⟨kd, m⟩ o := fun x hx => (h x hx).imp fun D σ H ⟨F, I, ps, R, q⟩ => by
  obtain ⟨F', R', sF, hI⟩ := R.refr
  have gr : ∀ {I'}, GrowB true F' I I' → Grow F I I' := fun {I'} g => ⟨fun a u h => g.same _ _ (by
    have hn := hI a (by rw [h]; simp)
    unfold rgO
    cases e : F' a with
    | none => exact absurd e hn
    | some w => exact h), fun a h => by
    rcases g.out a h with z | z
    · exact .inl fun w => z (by unfold rgO; cases F' a <;> simp [w])
    · exact .inr (sF.free z)⟩
  have pl : ∀ {G' : List Sl} {σ' H' I' ps'}, G'.all plainS = true → RS X.K F' G' σ' H' I' ps' → RS X.K F G' σ' H' I' ps' := fun hG r => r.plain hG (sF.trans r.sf) fun i a h => sF.free (r.fo i a h)
  refine ⟨F', I, ps, R', ?_⟩
  cases x with
  | nx s => exact fun σ' H' I' ps' g r => q σ' H' I' ps' (gr g).b (pl (hp s) r)
  | bk s => exact fun σ' H' I' ps' g r => q σ' H' I' ps' (gr g).b (pl (hb s) r)
  | ct s => exact fun σ' H' I' ps' g r => q σ' H' I' ps' (gr g).b (pl (hb s) r)
  | rt r => exact fun v H' I' g s1 s2 rr => q v H' I' (gr g).b (sF.trans s1) s2 (by
      cases kd with
      | dd => exact rr
      | nw => exact absurd rfl hk
      | ow => obtain ⟨p, xs, ds, e1, e2, n1, n2, r1, r2⟩ := rr; exact ⟨p, xs, ds, e1, e2, n1, sF.free n2, r1, r2⟩)

/-! ### a store to a new list -/
def spoilS : Sl → Sl
  | .old d => .old d
  | _ => .un
/-- what is left of data some of whose new lists have grown by n -/
inductive Spn (F H : Hp) (n : Nat) : V → PyData → Prop
  | lst {a : Addr} {ys : List V} {ds : List PyData} : F a = none → H a = some (.lst ys) → ys.length ≤ ds.length + n → Spn F H n (.ref a) (.list ds)
  | tup {a : Addr} {xs : List V} {ds : List PyData} : Rd H a (.tup xs) → xs.length = ds.length → (∀ (i : Nat) (v : V) (d : PyData), xs[i]? = some v → ds[i]? = some d → Spn F H n v d) → Spn F H n (.ref a) (.tuple ds)
  | oth {v : V} {d : PyData} : (∀ ds, d ≠ .list ds) → (∀ ds, d ≠ .tuple ds) → Spn F H n v d
theorem sp_of {F H I : Hp} (s : Same I H) : ∀ (d : PyData) (v : V), Dq (rgN F I) v d → Spn F H 0 v d
  | .list ds, v, h => by
    cases h with | lst h1 h2 =>
    obtain ⟨q1, q2⟩ := rgN_lst h1
    exact .lst q2 (s _ _ q1) (by rw [h2.len]; exact Nat.le_refl _)
  | .tuple ds, v, h => by
    cases h with | tup h1 h2 =>
    refine .tup (rd_mono (rgN_le.trans s) h1) h2.len fun i v d hv hd => ?_
    obtain ⟨w, k1, k2⟩ := h2.at hd
    rw [hv] at k1; cases k1
    exact sp_of s d v k2
  | .none, _, _ => .oth (fun _ h => nomatch h) (fun _ h => nomatch h)
  | .bool _, _, _ => .oth (fun _ h => nomatch h) (fun _ h => nomatch h)
  | .int _, _, _ => .oth (fun _ h => nomatch h) (fun _ h => nomatch h)
  | .str _, _, _ => .oth (fun _ h => nomatch h) (fun _ h => nomatch h)
  | .dict _, _, h => by cases h
termination_by d => sizeOf d
decreasing_by
  have := List.mem_of_getElem? hd
  have := List.sizeOf_lt_of_mem this
  simp_wf; omega
theorem Spn.grow {F H H' : Hp} {n : Nat} (s : Same H H') {v : V} {d : PyData} (h : Spn F H n v d) : Spn F H' n v d := by
  induction h with
  | lst h1 h2 h3 => exact .lst h1 (s _ _ h2) h3
  | tup h1 h2 h3 ih => exact .tup (rd_mono s h1) h2 ih
  | oth h1 h2 => exact .oth h1 h2
theorem Spn.store {F H : Hp} {n : Nat} {a : Addr} {xs : List V} {w : V} (ha : H a = some (.lst xs)) {v : V} {d : PyData} (h : Spn F H n v d) : Spn F (upd H a (.lst (xs ++ [w]))) (n + 1) v d := by
  induction h with
  | lst h1 h2 h3 =>
    rename_i b ys ds
    by_cases c : b = a
    · subst c
      rw [ha] at h2; cases h2
      exact .lst h1 upd_same (by rw [List.length_append]; show xs.length + 1 ≤ _; omega)
    · exact .lst h1 (by rw [upd_ne c]; exact h2) (by omega)
  | tup h1 h2 h3 ih =>
    rename_i b ys ds
    refine .tup ?_ h2 ih
    have c : b ≠ a := fun c => by
      subst c
      rcases h1 with h1 | ⟨o, h1⟩ <;> (rw [ha] at h1; cases h1)
    unfold Rd at h1 ⊢
    rw [upd_ne c]; exact h1
  | oth h1 h2 => exact .oth h1 h2
theorem RS.spoil {K : PySem.W.Frag} {F H I : Hp} {σ : L2.St} {ps : Nat → Option Addr} (R : RS K F G σ H I ps) {a : Addr} {u : HO} (hF : F a = none) : RS K F (G.map spoilS) σ (upd H a u) (rgO F I) (fun _ => none) := by
  have idem : rgO F (rgO F I) = rgO F I := funext fun b => by unfold rgO; cases F b <;> rfl
  refine ⟨fun b x h => ?_, same_upd2 R.sf hF, fun i a h => (nomatch h), by rw [List.length_map]; exact R.len, fun i hi => ?_, fun _ _ => rfl, fun i j a h => (nomatch h)⟩
  · have c : b ≠ a := fun c => by subst c; unfold rgO at h; rw [hF] at h; cases h
    rw [upd_ne c]; exact R.si _ _ (rgO_le _ _ h)
  · rw [List.length_map] at hi
    obtain ⟨v, h1, h2⟩ := R.sl i hi
    refine ⟨v, h1, ?_⟩
    have hm : slAt (G.map spoilS) i = spoilS (slAt G i) := by
      have : ∀ (G : List Sl) (i : Nat), i < G.length → slAt (G.map spoilS) i = spoilS (slAt G i) := by
        intro G
        induction G with
        | nil => intro i h; simp at h
        | cons s r ih => intro i h; cases i with
          | zero => rfl
          | succ i => exact ih i (by simpa using h)
      exact this G i hi
    rw [hm]
    cases e : slAt G i with
    | old d => rw [e] at h2; obtain ⟨_, x, e2, q⟩ := h2; exact ⟨rfl, x, e2, by rw [idem]; exact q⟩
    | _ => exact rfl
/-- behind such stores: slot i holds what is left of d, grown by at most n -/
def tK {S B R : Type} [Enc R] (K : PySem.W.Frag) (G : List Sl) (i n : Nat) (d : PyData) (P : S → List Sl) (PB : B → List Sl) (own : Rk) (o : Out S B R) : TS := fun D σ H => ∃ F I, RS K F G σ H I (fun _ => none) ∧ (∀ b, I b ≠ none → F b ≠ none) ∧ (∃ v, σ[i]? = some (some v) ∧ Spn F H n v d) ∧
  match o with
    | .nx s => ∀ σ' H' I' ps', GrowB own.m F I I' → RS K F (P s) σ' H' I' ps' → D.nx σ' H'
    | .bk b => ∀ σ' H' I' ps', GrowB own.m F I I' → RS K F (PB b) σ' H' I' ps' → D.bk σ' H'
    | .ct b => ∀ σ' H' I' ps', GrowB own.m F I I' → RS K F (PB b) σ' H' I' ps' → D.ct σ' H'
    | .rt r => ∀ v H' I', GrowB own.m F I I' → Same F H' → Same I' H' → RetR K own.k F I' H' v (enc r) → D.rt v H'
def SVK {S B R : Type} [Enc R] (X : Cx) (G : List Sl) (i n : Nat) (d : PyData) (st : List Stmt) (P : S → List Sl) (PB : B → List Sl) (own : Rk) (o : Option (Out S B R)) : Prop := ∀ x, o = some x → PSs X st (tK X.K G i n d P PB own x)
theorem svk_done {n : Nat} {d : PyData} {o : Option (Out S B R)} (h : SV X G rest P PB own o) : SVK X G i n d rest P PB own o := fun x hx => (h x hx).imp fun D σ H ⟨F, I, R, _, _, q⟩ => ⟨F, I, _, R, q⟩
/-- a place within tuples -/
def ESp (X : Cx) (i : Nat) (e : Expr) (d d' : PyData) : Prop := PE X e fun σ H Q => ∃ F n v, σ[i]? = some (some v) ∧ Spn F H n v d ∧ ∀ u, Spn F H n u d' → Q u H
theorem esp_name {d : PyData} (C : Ctx X N sc fs k) (hv : visB N sc i x = true) : ESp X i (.Name x pos) d d := (pe_name C hv).imp fun σ H Q ⟨F, n, v, h1, h2, q⟩ => ⟨v, h1, q v h2⟩
theorem esp_proj {d d' : PyData} {ds : List PyData} {t : Int} {j : Nat} (h : ESp X i e d (.tuple ds)) (hd : atI ds t = some d') : ESp X i (.Subscript e (.Constant (.int t) j p) pos) d d' := by
  refine (pe_ix ix_tup h (pe_int (i := t)) (fun _ _ => rfl)).imp fun σ H Q ⟨F, n, v, h1, h2, q⟩ => ⟨F, n, v, h1, h2, fun u hu => ?_⟩
  cases hu with
  | tup k1 k2 k3 =>
    rename_i a xs
    unfold L2.atI at hd
    cases c : ixN ds.length t with
    | none => rw [c] at hd; cases hd
    | some m =>
      rw [c] at hd
      have hd : ds[m]? = some d' := hd
      have hl : m < xs.length := by rw [k2]; exact (List.getElem?_eq_some_iff.mp hd).1
      exact ⟨_, _, t, xs[m], rfl, rfl, .inl k1, by unfold L2.atI; rw [k2, c]; exact List.getElem?_eq_getElem hl, q _ (k3 m _ _ (List.getElem?_eq_getElem hl) hd)⟩
  | oth k1 k2 => exact absurd rfl (k2 _)
theorem esp_some {d : PyData} {l : β} (h : ESp X i e d (enc l)) : ∀ l', some l = some l' → ESp X i e d (enc l') := fun l' e => by cases e; exact h
theorem esp_opt {d : PyData} {v : Option β} (h : ESp X i e d (enc v)) : ∀ l, v = some l → ESp X i e d (enc l) := fun l e => by subst e; exact h
def roomG {α : Type} (n : Nat) (l : List α) : Option Unit := if l.length + n < sizeLine then some () else none
theorem SqL_of {K : PySem.W.Frag} {H : Hp} {a : Addr} {xs : List V} (h : H a = some (.lst xs)) : SqL K H a xs := .inl (.inl h)
theorem svk_app {n m : Nat} {d : PyData} {ol : Option (List β)} {x : α} {ap cp : Pos} {kk : Option (Out S B R)} {path : Expr} (hp : ∀ l, ol = some l → ESp X i path d (enc l)) (he : ED X (List.replicate m .un) e (some x)) (hN : G.length = m) (hk : SVK X G i (n + 1) d rest P PB ⟨own.k, true⟩ kk) (hab : attributeBase path (Str.ofString "append") X.env (eval path X.env) = eval path X.env := by rfl)
    (hfew : ((backTo cp (starEach [e] X.env)).all (fun x => !x.1) && (backToKw cp (keywordEach [] X.env)).all (fun x => x.1.isSome) && decide (([e] : List Expr).length + ([] : List Keyword).length + (if ([] : List Keyword).isEmpty then 0 else 1) < 30)) = true := by rfl) (hline : (ap.endLine == cp.line) = true := by rfl)
    (hs : starEach [e] X.env = (false, eval e X.env) :: starEach [] X.env := by rfl) : SVK X G i n d (.Expr (.Call (.Attribute path "append" ap) [e] [] cp) sp :: rest) P PB ⟨own.k, true⟩ ((ol.bind (roomG n)).bind fun _ => kk) := fun y hy => by
  obtain ⟨_, h1, h2⟩ := bind_get hy
  obtain ⟨l, h0, h1⟩ := bind_get h1
  have hp := hp l h0
  have hc : l.length + n < sizeLine := by
    unfold roomG at h1
    by_cases c : l.length + n < sizeLine
    · exact c
    · rw [if_neg c] at h1; cases h1
  refine (pss_cons (ps_expr (pe_bm PySem.F.plainAttrs_list PySem.F.slot_list_append PySem.F.type_list_append mt_append hp (pa_cons (he x rfl) pa_nil hs) hab hfew hline hs)) (hk y h2)).imp fun D σ H ⟨F, I, R, hIF, ⟨v, hv, hsp⟩, q⟩ => ?_
  refine ⟨F, n, v, hv, hsp, fun u hu => ?_⟩
  cases hu with
  | oth k1 k2 => exact absurd rfl (k1 _)
  | lst k1 k2 k3 =>
    rename_i a ys
    have R0 : RS X.K H (List.replicate m .un) σ H (fun _ => none) (fun _ => none) := ⟨fun b o z => (nomatch z), Same.refl _, fun i a z => (nomatch z), by rw [List.length_replicate, ← hN]; exact R.len, fun j hj => by
      rw [List.length_replicate] at hj
      have hj' : j < σ.length := by rw [← R.len, hN]; exact hj
      exact ⟨_, List.getElem?_eq_getElem hj', by rw [slAt_rep]; rfl⟩, fun _ _ => rfl, fun i j a z => (nomatch z)⟩
    refine ⟨.inl ⟨rfl, _, SqL_of k2⟩, H, _, _, R0, fun w H2 I2 g2 R2 d2 => ?_⟩
    have sH : Same H H2 := R2.sf
    have k2' := sH _ _ k2
    refine ⟨a, ys, w, rfl, rfl, k2', by rw [List.length_map] at k3; omega, ?_⟩
    have R3 : RS X.K F G σ H2 I (fun _ => none) := R.grow sH (R.si.trans sH) (Same.refl _) fun i a z => (nomatch z)
    have hI : I a = none := by
      cases c : I a with
      | none => rfl
      | some o => exact absurd k1 (hIF a (by rw [c]; simp))
    exact ⟨F, I, R3.wr hI k1 (fun _ z => nomatch z), hIF, ⟨v, hv, (hsp.grow sH).store k2'⟩, q⟩
/-- the first store, to a list that is known -/
theorem sv_spoil {γ : Type} [Enc γ] {d : PyData} {oe : Option γ} {ol : Option (List β)} {ap cp : Pos} {kk : Option (Out S B R)} {path : Expr} {kd : Rq} (hsl : slAt G i = .nw d) (hp : EN X G path ol) (he : ED X G e oe) (hk : SVK X (G.map spoilS) i 1 d rest P PB ⟨kd, true⟩ kk) (hab : attributeBase path (Str.ofString "append") X.env (eval path X.env) = eval path X.env := by rfl)
    (hfew : ((backTo cp (starEach [e] X.env)).all (fun x => !x.1) && (backToKw cp (keywordEach [] X.env)).all (fun x => x.1.isSome) && decide (([e] : List Expr).length + ([] : List Keyword).length + (if ([] : List Keyword).isEmpty then 0 else 1) < 30)) = true := by rfl) (hline : (ap.endLine == cp.line) = true := by rfl)
    (hs : starEach [e] X.env = (false, eval e X.env) :: starEach [] X.env := by rfl) : SV X G (.Expr (.Call (.Attribute path "append" ap) [e] [] cp) sp :: rest) P PB ⟨kd, true⟩ (bind2 (fun l x => (roomG 0 l).bind fun _ => kk) ol oe) := fun y hy => by
  obtain ⟨l, x, h1, h2, h3⟩ := bind2_get hy
  obtain ⟨_, h4, h5⟩ := bind_get h3
  have hc : l.length + 0 < sizeLine := by
    unfold roomG at h4
    by_cases c : l.length + 0 < sizeLine
    · exact c
    · rw [if_neg c] at h4; cases h4
  refine (pss_cons (ps_expr (pe_bm PySem.F.plainAttrs_list PySem.F.slot_list_append PySem.F.type_list_append mt_append (hp l h1) (pa_cons (he x h2) pa_nil hs) hab hfew hline hs)) (hk y h5)).imp fun D σ H ⟨F, I, ps, R, q⟩ => ⟨F, I, ps, R, fun v H1 I1 g1 R1 dv => ?_⟩
  cases dv with
  | lst k1 k2 =>
    rename_i a xs
    obtain ⟨q1, q2⟩ := rgN_lst k1
    refine ⟨.inl ⟨rfl, _, SqL_of (R1.si _ _ q1)⟩, F, I1, ps, R1, fun w H2 I2 g2 R2 d2 => ?_⟩
    have q3 := R2.si _ _ (g2.same _ _ q1)
    refine ⟨a, xs, w, rfl, rfl, q3, by rw [k2.len, List.length_map]; omega, ?_⟩
    obtain ⟨v0, k3, k4⟩ := R2.sl i (slot_lt hsl (by simp))
    rw [hsl] at k4
    obtain ⟨_, v1, e1, d1⟩ := k4
    subst e1
    refine ⟨F, rgO F I2, R2.spoil q2, fun b h => ?_, ⟨v1, k3, (sp_of R2.si d v1 d1).store q3⟩, ?_⟩
    · intro c
      exact h (by unfold rgO; rw [c])
    · have gg : GrowB true F I (rgO F I2) := rgO_grow (g1.trans g2)
      cases y with
      | nx s => exact fun σ' H' I' ps' g r => q σ' H' I' ps' (gg.trans g) r
      | bk s => exact fun σ' H' I' ps' g r => q σ' H' I' ps' (gg.trans g) r
      | ct s => exact fun σ' H' I' ps' g r => q σ' H' I' ps' (gg.trans g) r
      | rt r => exact fun v H' I' g s1 s2 rr => q v H' I' (gg.trans g) s1 s2 rr
/-- such a store, what it was is left alone -/
theorem sv_spoil0 {oe : Option β} {ol : Option (List β)} {ap cp : Pos} {kk : Option (Out S B R)} {path : Expr} {kd : Rq} (hp : EN X G path ol) (he : ED X G e oe) (hk : SV X (G.map spoilS) rest P PB ⟨kd, true⟩ kk) (hab : attributeBase path (Str.ofString "append") X.env (eval path X.env) = eval path X.env := by rfl)
    (hfew : ((backTo cp (starEach [e] X.env)).all (fun x => !x.1) && (backToKw cp (keywordEach [] X.env)).all (fun x => x.1.isSome) && decide (([e] : List Expr).length + ([] : List Keyword).length + (if ([] : List Keyword).isEmpty then 0 else 1) < 30)) = true := by rfl) (hline : (ap.endLine == cp.line) = true := by rfl)
    (hs : starEach [e] X.env = (false, eval e X.env) :: starEach [] X.env := by rfl) : SV X G (.Expr (.Call (.Attribute path "append" ap) [e] [] cp) sp :: rest) P PB ⟨kd, true⟩ (bind2 (fun l x => (roomG 0 l).bind fun _ => kk) ol oe) := fun y hy => by
  obtain ⟨l, x, h1, h2, h3⟩ := bind2_get hy
  obtain ⟨_, h4, h5⟩ := bind_get h3
  have hc : l.length + 0 < sizeLine := by
    unfold roomG at h4
    by_cases c : l.length + 0 < sizeLine
    · exact c
    · rw [if_neg c] at h4; cases h4
  refine (pss_cons (ps_expr (pe_bm PySem.F.plainAttrs_list PySem.F.slot_list_append PySem.F.type_list_append mt_append (hp l h1) (pa_cons (he x h2) pa_nil hs) hab hfew hline hs)) (hk y h5)).imp fun D σ H ⟨F, I, ps, R, q⟩ => ⟨F, I, ps, R, fun v H1 I1 g1 R1 dv => ?_⟩
  cases dv with
  | lst k1 k2 =>
    rename_i a xs
    obtain ⟨q1, q2⟩ := rgN_lst k1
    refine ⟨.inl ⟨rfl, _, SqL_of (R1.si _ _ q1)⟩, F, I1, ps, R1, fun w H2 I2 g2 R2 d2 => ?_⟩
    have q3 := R2.si _ _ (g2.same _ _ q1)
    refine ⟨a, xs, w, rfl, rfl, q3, by rw [k2.len, List.length_map]; omega, ?_⟩
    refine ⟨F, rgO F I2, _, R2.spoil q2, ?_⟩
    · have gg : GrowB true F I (rgO F I2) := rgO_grow (g1.trans g2)
      cases y with
      | nx s => exact fun σ' H' I' ps' g r => q σ' H' I' ps' (gg.trans g) r
      | bk s => exact fun σ' H' I' ps' g r => q σ' H' I' ps' (gg.trans g) r
      | ct s => exact fun σ' H' I' ps' g r => q σ' H' I' ps' (gg.trans g) r
      | rt r => exact fun v H' I' g s1 s2 rr => q v H' I' (gg.trans g) s1 s2 rr
end
end Lay

set_option Elab.async false
set_option linter.all false
set_option maxRecDepth 100000
/-! LayC: own lists lent for data without lists; pairs of stores; unpacking; index. -/
namespace Lay
open PySem PySem.Spec PyProof.Rows L2
open Lay.Enc (enc)
/-! ### lending -/
open Classical in
/-- what is known, without the own lists -/
noncomputable def offOwn (ps : Nat → Option Addr) (I : Hp) : Hp := fun a => if ∃ i, ps i = some a then none else I a
open Classical in
theorem lend_back {K : PySem.W.Frag} {F H I : Hp} {G : List Sl} {σ : L2.St} {ps : Nat → Option Addr} (R : RS K F G σ H I ps) : ∃ I2, Grow F I I2 ∧ RS K F (frzAll G) σ H I2 (fun _ => none) ∧ (∀ i a, ps i = some a → I2 a ≠ none) ∧
    ∀ H' I', Grow F I2 I' → RS K F (frzAll G) σ H' I' (fun _ => none) → RS K F G σ H' (offOwn ps I') ps ∧ Grow F I (offOwn ps I') ∧ ∀ a xs, Rd I' a (.tup xs) → Rd (offOwn ps I') a (.tup xs) := by
  obtain ⟨I2, g, R2, n2, back⟩ := lend_rs R
  refine ⟨I2, g, R2, n2, fun H' I' g' R' => ?_⟩
  have R3 := back H' I' g'.same R'
  have off : ∀ {a}, (¬ ∃ i, ps i = some a) → offOwn ps I' a = I' a := fun h => if_neg h
  have on : ∀ {i a}, ps i = some a → offOwn ps I' a = none := fun {i a} h => if_pos ⟨i, h⟩
  have nown : ∀ {a u}, I a = some u → ¬ ∃ i, ps i = some a := fun {a u} h ⟨i, hi⟩ => by rw [(R.own_at hi).1] at h; cases h
  have sI : Same I (offOwn ps I') := fun a u h => by rw [off (nown h)]; exact (g.same.trans g'.same) _ _ h
  have lst : ∀ {i a}, ps i = some a → ∃ xs, H' a = some (.lst xs) := fun {i a} h => (R3.own_at h).2.2
  refine ⟨R3.grow (Same.refl _) (fun a u h => ?_) sI fun i a h => on h, ⟨sI, fun a h => ?_⟩, fun a xs h => ?_⟩
  · by_cases c : ∃ i, ps i = some a
    · have : offOwn ps I' a = none := if_pos c
      rw [this] at h; cases h
    · rw [off c] at h; exact R'.si _ _ h
  · have h2 : I' a ≠ none := fun z => h (by
      by_cases c : ∃ i, ps i = some a
      · exact if_pos c
      · rw [off c]; exact z)
    have c : ¬ ∃ i, ps i = some a := fun c => h (if_pos c)
    rcases g'.out a h2 with z | z
    · rcases g.out a z with z | z
      · exact .inl z
      · exact .inr z
    · exact .inr z
  · have c : ¬ ∃ i, ps i = some a := fun ⟨i, hi⟩ => by
      obtain ⟨ys, hy⟩ := lst hi
      rcases h with h | ⟨o, h⟩ <;> (have := R'.si _ _ h; rw [hy] at this; cases this)
    unfold Rd
    rw [off c]; exact h
section
variable {X : Cx} {G : List Sl} {α : Type} [Enc α] {e : Expr}
theorem ed_lendF [S : LF α] {o : Option α} (h : ED X (frzAll G) e o) : ED X G e o := fun x hx => (h x hx).imp fun σ H Q ⟨F, I, ps, R, q⟩ => by
  obtain ⟨I2, g, R2, _, back⟩ := lend_back R
  refine ⟨F, I2, _, R2, fun v H' I' g' R' d => ?_⟩
  obtain ⟨R3, g3, t⟩ := back H' I' g' R'
  exact q v H' _ g3 R3 (S.mv x _ _ v t d)
theorem tO_lendF [S : LF α] {K : PySem.W.Frag} {l : List α} {σ : L2.St} {H : Hp} {Q : VK} (h : tO K G (l.map enc) σ H Q) : tO K (frzAll G) (l.map enc) σ H Q := by
  obtain ⟨F, I, ps, R, q⟩ := h
  obtain ⟨I2, g, R2, n2, back⟩ := lend_back R
  refine ⟨F, I2, _, R2, fun p xs H' I' g' R' n hF hp hH d => ?_⟩
  obtain ⟨R3, g3, t⟩ := back H' I' g' R'
  have np : ∀ i, ps i ≠ some p := fun i z => n2 i p z (g'.same.free n)
  refine q p xs H' _ g3 R3 ?_ hF np hH (mvAll t d)
  have c : ¬ ∃ i, ps i = some p := fun ⟨i, hi⟩ => np i hi
  exact (if_neg c).trans n
theorem eo_lendF [S : LF α] {o : Option (List α)} (h : EO X (frzAll G) e o) : EO X G e o := fun x hx => (h x hx).imp fun σ H Q t => tO_lendF t
theorem lc_lendF [S : LF α] {o : Option (List α)} (h : LC X (frzAll G) e o) : LC X G e o := fun l hl => by
  obtain ⟨t, h1, h2, h3⟩ := h l hl
  exact ⟨t, h1, h2, fun σ H Q w => h3 σ H Q (tO_lendF w)⟩
end

/-! ### a new list that waits -/
theorem pend {K : PySem.W.Frag} {F H I : Hp} {G : List Sl} {σ : L2.St} {ps : Nat → Option Addr} {p : Addr} {xs : List V} (R : RS K F G σ H I ps) (n1 : I p = none) (n2 : F p = none) (n3 : ∀ i, ps i ≠ some p) (hH : H p = some (.lst xs)) :
    RS K (upd F p (.lst xs)) G σ H I ps ∧ ∀ H' I', Grow (upd F p (.lst xs)) I I' → RS K (upd F p (.lst xs)) G σ H' I' ps → RS K F G σ H' I' ps ∧ Grow F I I' ∧ I' p = none ∧ H' p = some (.lst xs) := by
  have sF : Same F (upd F p (.lst xs)) := same_upd n2
  refine ⟨R.frame (fun b o z => ?_) (fun i a ha => by rw [upd_ne (fun c : a = p => n3 i (by rw [← c]; exact ha))]; exact R.fo i a ha) (upd_iff n1), fun H' I' g R' => ?_⟩
  · by_cases c : b = p
    · subst c; rw [upd_same] at z; cases z; exact hH
    · rw [upd_ne c] at z; exact R.sf _ _ z
  · have n : I' p = none := by
      cases w : I' p with
      | none => rfl
      | some o =>
        rcases g.out p (by rw [w]; simp) with h | h
        · exact absurd n1 h
        · rw [upd_same] at h; cases h
    exact ⟨R'.frame (sF.trans R'.sf) R.fo fun a z => (upd_iff n a z).symm, ⟨g.same, fun a h => (g.out a h).imp_right sF.free⟩, n, R'.sf _ _ upd_same⟩

/-! ### pairs of stores -/
section
variable {X : Cx} {G : List Sl} {S B R : Type} [Enc R] {P : S → List Sl} {PB : B → List Sl} {own : Rk} {rest : List Stmt} {N : List Str} {sc : Scope} {fs : Option Scope} {k i j : Nat} {x y : Str} {α β : Type} [Enc α] [Enc β] {a b : Expr} {px py pt pt2 sp : Pos} {kt k2 : Nat}
/-- what the compiler makes of the two stores -/
structure ParOk (X : Cx) (N : List Str) (sc : Scope) (i j : Nat) (x y : Str) (px py : Pos) (a b : Expr) (kt : Nat) (pt : Pos) (k2 : Nat) (pt2 : Pos) (sp : Pos) : Prop where
  i1 : X.N[i]? = some x
  i2 : X.env.scope.names.lookup x = some .local
  j1 : X.N[j]? = some y
  j2 : X.env.scope.names.lookup y = some .local
  hij : i ≠ j
  hw : swappedStores [.Tuple [.Name x px, .Name y py] kt pt] (.Tuple [a, b] k2 pt2) X.env = pure (some [x, y])
  s1 : starEach [a, b] X.env = (false, eval a X.env) :: starEach [b] X.env
  s2 : starEach [b] X.env = (false, eval b X.env) :: starEach [] X.env
  hsw : swapsWithSole [.Tuple [.Name x px, .Name y py] kt pt] (.Tuple [a, b] k2 pt2) sp.line X.env = pure false
theorem par_ok (C : Ctx X N sc fs k) (h1 : lclB N sc i x = true) (h2 : lclB N sc j y = true) (hij : i ≠ j) (hne : (x == y) = false) (hl : (px.line == py.line) = true)
    (hf : ([a, b].any fun | .Starred .. => true | _ => false) = false := by rfl) (hc : ([a, b].all (foldedForSure 8)) = false := by rfl) (hc2 : ([a, b].all (constantsAlone 8)) = false := by rfl)
    (s1 : starEach [a, b] X.env = (false, eval a X.env) :: starEach [b] X.env := by rfl) (s2 : starEach [b] X.env = (false, eval b X.env) :: starEach [] X.env := by rfl)
    (hsw : swapsWithSole [.Tuple [.Name x px, .Name y py] kt pt] (.Tuple [a, b] k2 pt2) sp.line X.env = pure false := by rfl) : ParOk X N sc i j x y px py a b kt pt k2 pt2 sp := by
  obtain ⟨i1, i2⟩ := lclB_ok C h1
  obtain ⟨j1, j2⟩ := lclB_ok C h2
  refine ⟨i1, i2, j1, j2, hij, ?_, s1, s2, hsw⟩
  have kx : X.env.kindOf x = some .local := i2
  have ky : X.env.kindOf y = some .local := j2
  have bk : X.env.blockKind = .function := by unfold Env.blockKind; rw [C.s, C.fk]; rfl
  unfold swappedStores
  have l2 : (py.line == px.line) = true := by rw [beq_iff_eq] at hl ⊢; exact hl.symm
  simp only [List.length_cons, List.length_nil, bk, hf, hc, hc2, List.head?_cons, Option.map_some, Expr.pos, Option.getD_some, List.filterMap_cons, kx, ky, l2, List.filterMap_nil]
  rw [if_neg (by decide), if_neg (by rw [Bool.not_eq_true]; exact hf)]
  have e1 : (some NameKind.local == some NameKind.local) = true := by decide
  have e3 : (y == x) = false := by rw [beq_eq_false_iff_ne] at hne ⊢; exact fun c => hne c.symm
  simp [e1, List.eraseDups, List.eraseDupsBy, List.eraseDupsBy.loop, e3, hne]
theorem psSet_ne {ps : Nat → Option Addr} {i : Nat} {a b : Addr} (h : ∀ j, ps j ≠ some b) (hab : a ≠ b) : ∀ j, psSet ps i a j ≠ some b := fun j => by
  unfold psSet; split
  · exact fun c => hab (Option.some.inj c)
  · exact h j
theorem psDel_ne {ps : Nat → Option Addr} {i : Nat} {b : Addr} (h : ∀ j, ps j ≠ some b) : ∀ j, psDel ps i j ≠ some b := fun j => by
  unfold psDel; split
  · exact fun c => nomatch c
  · exact h j
theorem sv_parOO {oa : Option (List α)} {ob : Option (List β)} {kk : List α → List β → Option (Out S B R)} (C : Ctx X N sc fs k) (O : ParOk X N sc i j x y px py a b kt pt k2 pt2 sp) (hi : i < G.length) (hj : j < G.length) (ha : EO X G a oa) (hb : EO X G b ob)
    (hk : ∀ v w, SV X ((G.set i (.own (v.map enc))).set j (.own (w.map enc))) rest P PB own (kk v w)) : SV X G (.Assign [.Tuple [.Name x px, .Name y py] kt pt] (.Tuple [a, b] k2 pt2) sp :: rest) P PB own (oa.bind fun v => ob.bind fun w => kk v w) := fun z hz => by
  obtain ⟨v, e1, hz⟩ := bind_get hz
  obtain ⟨w, e2, hz⟩ := bind_get hz
  refine (pss_cons (ps_par C.calm (by rw [C.n]; exact C.nd) O.i1 O.j1 O.hij O.i2 O.j2 (pa_cons (ha v e1) (pa_cons (hb w e2) pa_nil O.s2) O.s1) O.hw O.hsw) (hk v w z hz)).imp fun D σ H ⟨F, I, ps, Rr, q⟩ => ?_
  refine ⟨F, I, ps, Rr, fun p xs H1 I1 g1 R1 n1 n2 n3 hH d1 => ?_⟩
  obtain ⟨R1', bk⟩ := pend R1 n1 n2 n3 hH
  refine ⟨_, I1, ps, R1', fun p2 ys H2 I2 g2 R2 m1 m2 m3 hH2 d2 => ⟨_, _, rfl, ?_⟩⟩
  obtain ⟨R3, g3, n4, hp⟩ := bk H2 I2 g2 R2
  have ne : p2 ≠ p := fun c => by subst c; rw [upd_same] at m2; cases m2
  rw [upd_ne ne] at m2
  have R4 := R3.setOwn hi n4 n2 n3 hp (DqAll_mono g2.same _ _ d1)
  exact tS_after (H := H) (ps := ps) (σ := σ) (g1.trans g3) (R4.setOwn (by rw [List.length_set]; exact hj) m1 m2 (psSet_ne m3 (Ne.symm ne)) hH2 d2) q
theorem sv_parDO {oa : Option α} {ob : Option (List β)} {kk : α → List β → Option (Out S B R)} (C : Ctx X N sc fs k) (O : ParOk X N sc i j x y px py a b kt pt k2 pt2 sp) (hj : j < G.length) (ha : ED X G a oa) (hb : EO X G b ob)
    (hk : ∀ v w, SV X ((G.set i (.dat (enc v))).set j (.own (w.map enc))) rest P PB own (kk v w)) : SV X G (.Assign [.Tuple [.Name x px, .Name y py] kt pt] (.Tuple [a, b] k2 pt2) sp :: rest) P PB own (oa.bind fun v => ob.bind fun w => kk v w) := fun z hz => by
  obtain ⟨v, e1, hz⟩ := bind_get hz
  obtain ⟨w, e2, hz⟩ := bind_get hz
  refine (pss_cons (ps_par C.calm (by rw [C.n]; exact C.nd) O.i1 O.j1 O.hij O.i2 O.j2 (pa_cons (ha v e1) (pa_cons (hb w e2) pa_nil O.s2) O.s1) O.hw O.hsw) (hk v w z hz)).imp fun D σ H ⟨F, I, ps, Rr, q⟩ => ?_
  refine ⟨F, I, ps, Rr, fun v1 H1 I1 g1 R1 d1 => ⟨F, I1, ps, R1, fun p2 ys H2 I2 g2 R2 m1 m2 m3 hH2 d2 => ⟨_, _, rfl, ?_⟩⟩⟩
  exact tS_after (H := H) (ps := ps) (σ := σ) (g1.trans g2) ((R2.setDat (Dq_mono g2.same _ _ d1)).setOwn (by rw [List.length_set]; exact hj) m1 m2 (psDel_ne m3) hH2 d2) q
theorem sv_parOD {oa : Option (List α)} {ob : Option β} {kk : List α → β → Option (Out S B R)} (C : Ctx X N sc fs k) (O : ParOk X N sc i j x y px py a b kt pt k2 pt2 sp) (hi : i < G.length) (ha : EO X G a oa) (hb : ED X G b ob)
    (hk : ∀ v w, SV X ((G.set i (.own (v.map enc))).set j (.dat (enc w))) rest P PB own (kk v w)) : SV X G (.Assign [.Tuple [.Name x px, .Name y py] kt pt] (.Tuple [a, b] k2 pt2) sp :: rest) P PB own (oa.bind fun v => ob.bind fun w => kk v w) := fun z hz => by
  obtain ⟨v, e1, hz⟩ := bind_get hz
  obtain ⟨w, e2, hz⟩ := bind_get hz
  refine (pss_cons (ps_par C.calm (by rw [C.n]; exact C.nd) O.i1 O.j1 O.hij O.i2 O.j2 (pa_cons (ha v e1) (pa_cons (hb w e2) pa_nil O.s2) O.s1) O.hw O.hsw) (hk v w z hz)).imp fun D σ H ⟨F, I, ps, Rr, q⟩ => ?_
  refine ⟨F, I, ps, Rr, fun p xs H1 I1 g1 R1 n1 n2 n3 hH d1 => ?_⟩
  obtain ⟨R1', bk⟩ := pend R1 n1 n2 n3 hH
  refine ⟨_, I1, ps, R1', fun w1 H2 I2 g2 R2 d2 => ⟨_, _, rfl, ?_⟩⟩
  obtain ⟨R3, g3, n4, hp⟩ := bk H2 I2 g2 R2
  have R4 := R3.setOwn hi n4 n2 n3 hp (DqAll_mono g2.same _ _ d1)
  exact tS_after (H := H) (ps := ps) (σ := σ) (g1.trans g3) (R4.setDat d2) q
def list2 {α : Type} (l : List α) : Option (T2 α α) := match l with
  | [v, w] => some ⟨v, w⟩
  | _ => none
/-- two items of a list are unpacked -/
theorem sv_unl2 {oe : Option (List α)} {kk : T2 α α → Option (Out S B R)} {e : Expr} (C : Ctx X N sc fs k) (h1 : locB N sc fs i x = true) (h2 : locB N sc fs j y = true) (hij : i ≠ j) (he : EO X G e oe)
    (hk : ∀ t : T2 α α, SV X ((G.set i (.dat (enc t.a))).set j (.dat (enc t.b))) rest P PB own (kk t)) (hs : swapsWithSole [.Tuple [.Name x px, .Name y py] kt pt] e sp.line X.env = pure false := by rfl) (hw : swappedStores [.Tuple [.Name x px, .Name y py] kt pt] e X.env = pure none := by rfl) (h3 : (assignEach [.Tuple [.Name x px, .Name y py] kt pt] X.env).map (·.2) = [assign (.Tuple [.Name x px, .Name y py] kt pt) X.env] := by rfl) :
    SV X G (.Assign [.Tuple [.Name x px, .Name y py] kt pt] e sp :: rest) P PB own ((oe.bind list2).bind kk) := fun z hz => by
  obtain ⟨t, e1, hz⟩ := bind_get hz
  obtain ⟨l, e2, e3⟩ := bind_get e1
  obtain ⟨v, w, el, et⟩ : ∃ v w, l = [v, w] ∧ t = ⟨v, w⟩ := by
    unfold list2 at e3
    split at e3
    · exact ⟨_, _, rfl, (Option.some.inj e3).symm⟩
    · cases e3
  subst el et
  refine (pss_cons (ps_asg (he _ e2) (pg_unl C.calm (pgs_cons (pgN C h1) (pgs_cons (pgN C h2) pgs_nil))) hs hw h3) (hk ⟨v, w⟩ z hz)).imp fun D σ H ⟨F, I, ps, Rr, q⟩ => ⟨F, I, ps, Rr, fun p xs H1 I1 g1 R1 n1 n2 n3 hH d1 => ?_⟩
  cases d1 with
  | cons d1 r => cases r with
    | cons d2 r =>
      cases r
      exact ⟨p, _, rfl, .inl (.inl hH), rfl, _, _, rfl, _, _, rfl, rfl, tS_after (H := H) (ps := ps) (σ := σ) g1 ((R1.setDat d1).setDat d2) q⟩
end

/-! ### tuples of one kind, unpacked -/
def tup2 {α : Type} (t : Tup α) : Option (T2 α α) := match t.l with
  | [a, b] => some ⟨a, b⟩
  | _ => none
def tup3 {α : Type} (t : Tup α) : Option (T3 α α α) := match t.l with
  | [a, b, c] => some ⟨a, b, c⟩
  | _ => none
theorem tup2_enc {α : Type} [Enc α] (t : Tup α) (y : T2 α α) (h : tup2 t = some y) : enc y = enc t := by
  obtain ⟨l⟩ := t
  unfold tup2 at h
  split at h
  · rename_i e; have e : l = _ := e; subst e; cases h; rfl
  · cases h
theorem tup3_enc {α : Type} [Enc α] (t : Tup α) (y : T3 α α α) (h : tup3 t = some y) : enc y = enc t := by
  obtain ⟨l⟩ := t
  unfold tup3 at h
  split at h
  · rename_i e; have e : l = _ := e; subst e; cases h; rfl
  · cases h
def mapO {α β : Type} (c : α → Option β) : List α → Option (List β)
  | [] => some []
  | x :: r => (c x).bind fun y => (mapO c r).bind fun s => some (y :: s)
theorem mapO_enc {α β : Type} [Enc α] [Enc β] (c : α → Option β) (hc : ∀ x y, c x = some y → enc y = enc x) : ∀ {l : List α} {m : List β}, mapO c l = some m → m.map enc = l.map enc
  | [], m, h => by cases h; rfl
  | x :: r, m, h => by
    obtain ⟨y, h1, h⟩ := bind_get h
    obtain ⟨s, h2, h⟩ := bind_get h
    cases h
    rw [List.map_cons, List.map_cons, hc x y h1, mapO_enc c hc h2]
section
variable {X : Cx} {G : List Sl} {α β : Type} [Enc α] [Enc β] {tg e a b : Expr} {pos p : Pos} {N : List Str} {sc : Scope} {fs : Option Scope} {k : Nat}
theorem it_coeP {o : Option (List α)} (c : α → Option β) (hc : ∀ x y, c x = some y → enc y = enc x) (h : IT X G tg e o) : IT X G tg e (o.bind (mapO c)) := fun m hm => by
  obtain ⟨l, h1, h2⟩ := bind_get hm
  rw [mapO_enc c hc h2]; exact h l h1

end
/-! ### truth of lists, numbers -/
class Tru (α : Type) [Enc α] where
  tr : α → Bool
  ok : ∀ (x : α) (K : PySem.W.Frag) (I H : Hp) (v : V), Same I H → Dq I v (enc x) → TruV K v H (tr x)
theorem isEmpty_len {xs : List V} {ds : List PyData} {H : Hp} (h : DqAll H xs ds) : xs.isEmpty = ds.isEmpty := by cases h <;> rfl
instance : Tru Int := ⟨fun i => i != 0, fun x K I H v s d => by cases d; rfl⟩
instance : Tru Bool := ⟨fun i => i, fun x K I H v s d => by cases d; rfl⟩
instance {α : Type} [Enc α] : Tru (List α) := ⟨fun l => !l.isEmpty, fun x K I H v s d => by
  cases d with | lst h1 h2 => exact .inl ⟨_, .inl (rd_mono s h1), by rw [isEmpty_len h2]; cases x <;> rfl⟩⟩
instance {α : Type} [Enc α] : Tru (Tup α) := ⟨fun l => !l.l.isEmpty, fun x K I H v s d => by
  cases d with | tup h1 h2 => exact .inr (.inl ⟨_, .inl (rd_mono s h1), by rw [isEmpty_len h2]; obtain ⟨l⟩ := x; cases l <;> rfl⟩)⟩
instance {α β : Type} [Enc α] [Enc β] : Tru (T2 α β) := ⟨fun _ => true, fun x K I H v s d => by
  cases d with | tup h1 h2 => exact .inr (.inl ⟨_, .inl (rd_mono s h1), by rw [isEmpty_len h2]; rfl⟩)⟩
instance {α β γ : Type} [Enc α] [Enc β] [Enc γ] : Tru (T3 α β γ) := ⟨fun _ => true, fun x K I H v s d => by
  cases d with | tup h1 h2 => exact .inr (.inl ⟨_, .inl (rd_mono s h1), by rw [isEmpty_len h2]; rfl⟩)⟩
instance {α : Type} [Enc α] [S : Tru α] : Tru (Option α) := ⟨fun o => match o with | none => false | some x => S.tr x, fun x K I H v s d => by
  cases x with
  | none => cases d; rfl
  | some x => exact S.ok x K I H v s d⟩
section
variable {X : Cx} {G : List Sl} {α β : Type} [Enc α] [Enc β] {tg e a b : Expr} {pos p : Pos} {N : List Str} {sc : Scope} {fs : Option Scope} {k : Nat}
theorem eb_truth [S : Tru α] {o : Option α} (h : ED X G e o) (he : ∀ whole, isTrue e X.env whole = (do let v ← whole; standAt e.pos; holding [v] (truthy v)) := by intro _; rfl) : EB X G e (lift1 S.tr o) := fun k hk => by
  obtain ⟨x, h1, h2⟩ := lift1_get hk
  subst h2
  exact (pt_truth (h x h1) he).imp fun σ H Q ⟨F, I, ps, R, q⟩ => ⟨F, I, ps, R, fun v H' I' g R' d => ⟨_, S.ok x _ _ _ _ R'.si d, q _ _ g R'⟩⟩
/-! ### is True -/
theorem ec_isB {oa ob : Option Bool} (ha : ED X G a oa) (hb : ED X G b ob) (hm : behindInMarks .Is b = false := by rfl) : EC X G .Is a b (lift2 (fun i j => decide (i = j)) oa ob) := ec_of op_isBl (fun x y => by
  intro F G σ H I ps v w Q R hv hw q
  cases hv; cases hw
  exact ⟨x, y, rfl, rfl, q _ _ _ Grow.refl R (.bl _)⟩) hm ha hb
theorem ec_notB {oa ob : Option Bool} (ha : ED X G a oa) (hb : ED X G b ob) (hm : behindInMarks .IsNot b = false := by rfl) : EC X G .IsNot a b (lift2 (fun i j => !decide (i = j)) oa ob) := ec_of op_notBl (fun x y => by
  intro F G σ H I ps v w Q R hv hw q
  cases hv; cases hw
  exact ⟨x, y, rfl, rfl, q _ _ _ Grow.refl R (.bl _)⟩) hm ha hb
/-! ### l.index(x) -/
def indexG {α : Type} [DecidableEq α] (l : List α) (x : α) : Option Int := (l.findIdx? fun y => decide (y = x)).map fun i => (i : Int)
theorem index_spec {α : Type} [DecidableEq α] {l : List α} {x : α} {z : Int} (h : indexG l x = some z) : ∃ j : Nat, z = j ∧ l[j]? = some x ∧ ∀ m, m < j → l[m]? ≠ some x := by
  unfold indexG at h
  cases e : l.findIdx? fun y => decide (y = x) with
  | none => rw [e] at h; cases h
  | some j =>
    rw [e] at h
    cases h
    obtain ⟨hj, h1, h2⟩ := List.findIdx?_eq_some_iff_getElem.mp e
    refine ⟨j, rfl, ?_, fun m hm c => ?_⟩
    · rw [List.getElem?_eq_getElem hj]; simpa using h1
    · have := h2 m hm
      have hl : m < l.length := by omega
      rw [List.getElem?_eq_getElem hl] at c
      simp only [Option.some.injEq] at c
      rw [c] at this
      simp at this
theorem ed_index [DecidableEq α] [EqL α] [S : Sh α] {ol : Option (List α)} {oe : Option α} {ap cp : Pos} (C : Ctx X N sc fs k) (hl : ED X G a ol) (he : ED X G e oe) (hd : S.dp ≤ 59 := by decide)
    (hab : attributeBase a (Str.ofString "index") X.env (eval a X.env) = eval a X.env := by rfl)
    (hfew : ((backTo cp (starEach [e] X.env)).all (fun x => !x.1) && (backToKw cp (keywordEach [] X.env)).all (fun x => x.1.isSome) && decide (([e] : List Expr).length + ([] : List Keyword).length + (if ([] : List Keyword).isEmpty then 0 else 1) < 30)) = true := by rfl) (hline : (ap.endLine == cp.line) = true := by rfl)
    (hs : starEach [e] X.env = (false, eval e X.env) :: starEach [] X.env := by rfl) : ED X G (.Call (.Attribute a "index" ap) [e] [] cp) (bind2 indexG ol oe) := fun z hz => by
  obtain ⟨l, x, h1, h2, h3⟩ := bind2_get hz
  obtain ⟨j, e1, e2, e3⟩ := index_spec h3
  subst e1
  refine (pe_bm PySem.F.plainAttrs_list PySem.F.slot_list_index PySem.F.type_list_index (mt_indexD (by have := C.rm.un; omega)) (hl l h1) (pa_cons (he x h2) pa_nil hs) hab hfew hline hs).imp fun σ H Q ⟨F, I, ps, R, q⟩ => ?_
  refine ⟨F, I, ps, R, fun v H1 I1 g1 R1 d1 => ⟨?_, F, I1, ps, R1, fun w H2 I2 g2 R2 d2 => ?_⟩⟩
  · cases d1 with | lst k1 k2 => exact .inl ⟨rfl, _, .inl (rd_mono R1.si k1)⟩
  · have d1 := Dq_mono g2.same _ _ d1
    have hno : ∀ (m : Nat) (z' : PyData), m < j → (l.map enc)[m]? = some z' → PyData.eqv z' (enc x) = false := fun m z' hm hz => by
      rw [List.getElem?_map] at hz
      cases c : l[m]? with
      | none => rw [c] at hz; cases hz
      | some y =>
        rw [c] at hz; cases hz
        rw [EqL.eqv, decide_eq_false_iff_not]
        exact fun q => e3 m hm (by rw [c, q])
    cases d1 with
    | lst k1 k2 => exact ⟨_, w, enc x, l.map enc, j, enc x, rfl, rfl, .lst (.inl (rd_mono R2.si k1)) (DqAll_toDp R2.si k2), Dq_dp _ _ (Dq_mono R2.si _ _ d2), shaped_of (α := List α) (Nat.succ_le_succ hd) l, shaped_of (Nat.le_trans hd (by decide)) x, by rw [List.getElem?_map, e2]; rfl, by rw [EqL.eqv]; simp, hno, q _ _ _ (g1.trans g2) R2 (.int _)⟩
end
end Lay

set_option Elab.async false
set_option linter.all false
set_option maxRecDepth 100000
set_option maxHeartbeats 4000000
/-! LayD: a tuple repeated. -/
namespace Lay
open PySem PySem.Spec PyProof.Rows L2
open Lay.Enc (enc)
/-- a tuple times 1 is the tuple itself -/
theorem mul_once (a : Addr) (its : Array Value) (n : Nat) (dd : Option Addr) (sl : Array (Option Value)) (u : Tok) (c0 : its.isEmpty = false) :
    Meets (Builtin.«tuple.__mul__» ⟨[.ref a, .int 1 u], []⟩) (fun _ R s => s.heap.get? a = some { cls := .type "tuple", dict := dd, data := .seq its n, slots := sl } ∧ R (.ok (.ret (.ref a))) s) := by
  refine .of_wp fun prog w A R s h => ?_
  obtain ⟨hp, g, d, tk, os⟩ := s
  obtain ⟨ha, h⟩ := h
  have f1 := AutoSeq1.idx_int
  have c1 : (its.isEmpty || (1 : Int) == 1) = true := by rw [c0]; rfl
  wp_walk using wpAny_loadPart' ha
  exact ⟨_, rfl, h⟩
section
variable {X : Cx}
def rOnceT (K : PySem.W.Frag) : R2 := fun x y H Q => ∃ l xs, x = .ref l ∧ y = .int 1 ∧ SqT K H l xs ∧ xs ≠ [] ∧ Q (.ref l) H
theorem op_onceT : OpR X (binaryOp .Mult) (rOnceT X.K) := by
  intro pins s σ H x y v u Q I rx ry ⟨l, xs, ex, ey, hT, ne, q⟩
  subst ex ey
  cases rx
  obtain ⟨t, e⟩ := ry
  subst e
  obtain ⟨its, rv, ⟨⟨cls, dd, data, sl⟩, ho, hc, n, hd⟩, _⟩ := I.tuple hT
  change cls = _ at hc
  change data = _ at hd
  subst hc hd
  have full : its.toArray.isEmpty = false := by
    cases its with
    | cons _ _ => rfl
    | nil => cases rv; exact absurd rfl ne
  have typ : ∀ s' : Shared, s'.TypeIs (Value.int 1 t) "int" := fun s' => typeIs_int s' 1 t
  refine wpAny_binaryOp_repeat_ref (T := "tuple") (U := "int") (by decide) ⟨_, ho, rfl⟩ typ noFill_tuple_mul F.fills_int_mul F.slot_int_rmul repeat_tuple F.slot_int_index.lookup ?_
  refine call_meets F.slot_int_rmul (typ s) F.entry_int_rmul (F.args_int_rmul_2 _ _) (int_rmul_tuple 1 t l its.toArray n dd sl) ⟨ho, rfl, ⟨_, ho, rfl⟩, ?_⟩
  exact call_meets F.slot_tuple_mul ⟨_, ho, rfl⟩ F.entry_tuple_mul (F.args_tuple_mul_2 _ _) (mul_once l its.toArray n dd sl t full) ⟨ho, .ref l, H, I, rfl, q⟩
theorem op_either {op : Value → Value → Sem Value} {r r' : R2} (h : OpR X op r) (h' : OpR X op r') : OpR X op (fun x y H Q => r x y H Q ∨ r' x y H Q) := by
  intro pins s σ H x y v u Q I rx ry q
  rcases q with q | q
  · exact h pins s σ H x y v u Q I rx ry q
  · exact h' pins s σ H x y v u Q I rx ry q
def repTG {α : Type} (t : Tup α) (k : Int) : Option (Tup α) := if (t.l.length ≤ 1000 ∧ 1 ≤ t.l.length) ∧ (1 ≤ k ∧ k ≤ 1000) then some ⟨(List.replicate k.toNat t.l).flatten⟩ else none
variable {G : List Sl} {α : Type} [Enc α] {a b : Expr} {pos : Pos}
theorem ed_repT {oa : Option (Tup α)} {ob : Option Int} (ha : ED X G a oa) (hb : ED X G b ob) : ED X G (.BinOp a .Mult b pos) (bind2 repTG oa ob) := fun z hz => by
  obtain ⟨t, k, h1, h2, h3⟩ := bind2_get hz
  obtain ⟨⟨⟨c1, c2⟩, c3, c4⟩, e⟩ := ite_get h3
  subst e
  refine (pe_op (op_either op_onceT op_repT) (ha t h1) (hb k h2)).imp (tD_op ?_)
  intro F G σ H I ps v w Q R hv hw q
  cases hw
  cases hv with
  | tup k1 k2 =>
    rename_i ad xs
    have lx : xs.length = t.l.length := by rw [k2.len, List.length_map]
    have hne : xs ≠ [] := fun c => by rw [c] at lx; simp at lx; omega
    have hs : SqT X.K H ad xs := .inl (rd_mono R.si k1)
    by_cases c : k = 1
    · subst c
      refine .inl ⟨ad, xs, rfl, rfl, hs, hne, q _ _ _ Grow.refl R ?_⟩
      show Dq I (.ref ad) (.tuple ((List.replicate (1 : Int).toNat t.l).flatten.map enc))
      rw [show (List.replicate (1 : Int).toNat t.l).flatten = t.l by simp]
      exact .tup k1 k2
    · refine .inr ⟨ad, k, xs, rfl, rfl, hs, hne, by omega, c4, by omega, fun p hp => q (.ref p) _ _ (R.grow_new hp) (R.new hp) ?_⟩
      have := (DqAll_mono (R.grow_new (o := .tup (List.replicate k.toNat xs).flatten) hp).same _ _ k2).rep k.toNat
      refine .tup (.inl upd_same) ?_
      rw [show (List.replicate k.toNat (t.l.map enc)).flatten = ((List.replicate k.toNat t.l).flatten).map enc by rw [List.map_flatten, List.map_replicate]] at this
      exact this
end
end Lay

set_option Elab.async false
set_option linter.all false
set_option maxRecDepth 100000
/-! LayQ: fractions as rational numbers. -/
namespace Lay
open PySem PySem.Spec PyProof.Rows L2
open Lay.Enc (enc)
/-! ### step by step -/
section
variable {α β S S' B R : Type}
theorem ok_set {m : Option α} {k : α → Option β} {P : β → Prop} {v : α} (h : m = some v) (p : Ok (k v) P) : Ok (m.bind k) P := ok_bind.mpr ⟨v, h, p⟩
theorem ok_let {m : Option α} {k : α → Option β} {P : β → Prop} (Q : α → Prop) (h : Ok m Q) (p : ∀ v, Q v → Ok (k v) P) : Ok (m.bind k) P := ok_bind.mpr (ok_mono h p)
/-- the test fails -/
theorem ok_skip {m : Option Bool} {a : Option (Out S B R)} {s : S} {k : S → Option (Out S' B R)} {P : Out S' B R → Prop} (h : Ok m fun t => t = false) (p : Ok (k s) P) : Ok (m.bind fun t => bindOut (bif t then a else some (.nx s)) k) P := by
  obtain ⟨t, e, rfl⟩ := h
  exact ok_set e (ok_bindOut.mpr ⟨_, rfl, p⟩)
theorem ok_ifS {m : Option Bool} {a b : Option (Out S B R)} {k : S → Option (Out S' B R)} {P : Out S' B R → Prop} (I : S → Prop) (h : Ok m fun t => (t = true → Ok a (Nx I)) ∧ (t = false → Ok b (Nx I))) (p : ∀ s, I s → Ok (k s) P) : Ok (m.bind fun t => bindOut (bif t then a else b) k) P := by
  obtain ⟨t, e, h1, h2⟩ := h
  have : ∀ o : Option (Out S B R), Ok o (Nx I) → Ok (bindOut o k) P := fun o ⟨x, ex, hx⟩ => by
    cases x with
    | nx s => exact ok_bindOut.mpr ⟨_, ex, p s hx⟩
    | bk s => exact hx.elim
    | ct s => exact hx.elim
    | rt s => exact hx.elim
  refine ok_set e ?_
  cases t with
  | true => exact this _ (h1 rfl)
  | false => exact this _ (h2 rfl)
/-- the test holds, or not, for all that follows -/
theorem ok_caseS {m : Option Bool} {a b : Option (Out S B R)} {k : S → Option (Out S' B R)} {P : Out S' B R → Prop} {t : Bool} (e : m = some t) (h1 : t = true → Ok (bindOut a k) P) (h2 : t = false → Ok (bindOut b k) P) : Ok (m.bind fun t => bindOut (bif t then a else b) k) P := by
  refine ok_set e ?_
  cases t with
  | true => exact h1 rfl
  | false => exact h2 rfl
theorem ok_forS {step : S → α → Option (Out S S R)} {m : Option (List α)} {l : List α} {s : S} {k : S → Option (Out S' B R)} {P : Out S' B R → Prop} (e : m = some l) (I : Nat → S → Prop) (h0 : I 0 s) (hs : ∀ i s x, l[i]? = some x → I i s → Ok (step s x) (Nx (I (i + 1)))) (p : ∀ s, I l.length s → Ok (k s) P) :
    Ok (m.bind fun l => bindOut (forL step s l) k) P := ok_set e (ok_bindOut.mpr (ok_for I h0 hs p))
theorem ok_retS {d : Option R} {m : Option R} {P : R → Prop} (h : Ok m P) : Ok (m.bind fun r => some (Out.rt r : Out Unit Unit R)) (FO d P) := by
  obtain ⟨x, e, p⟩ := h
  exact ok_set e ⟨_, rfl, p⟩
theorem rng1_at {j : Nat} (h : j ≤ 16777216) : rng1 (j : Int) = some (rngL 0 j) := rng1_of (by omega) (by omega)
end
def ofR (r : Rat) : Q := ⟨r.num, r.den⟩
theorem ofR_a (r : Rat) : (ofR r).a = r.num := rfl
theorem ofR_b (r : Rat) : (ofR r).b = r.den := rfl
theorem ofR_inj {r s : Rat} : ofR r = ofR s ↔ r = s := ⟨fun h => by
  have h1 : r.num = s.num := congrArg T2.a h
  have h2 : ((r.den : Nat) : Int) = s.den := congrArg T2.b h
  exact Rat.ext h1 (by omega), fun h => by rw [h]⟩
theorem den_pos (r : Rat) : (0 : Int) < r.den := by have := r.den_pos; omega
theorem frac_mk {n d : Int} (h : 0 < d) : frac n d = ofR (mkRat n d.toNat) := by
  have h0 : d.toNat ≠ 0 := by omega
  have e : ((d.toNat.gcd n.natAbs : Nat) : Int) = gcdI n d := by
    unfold gcdI; rw [Nat.gcd_comm, show d.natAbs = d.toNat by omega]
  unfold frac ofR
  rw [Rat.num_mkRat, Rat.den_mkRat, if_neg h0, if_neg h0, e, Int.natCast_ediv, e, show ((d.toNat : Nat) : Int) = d by omega]
theorem frac_div {n d : Int} (h : 0 < d) : frac n d = ofR ((n : Rat) / (d : Rat)) := by
  rw [frac_mk h, Rat.mkRat_eq_div]
  have : ((d.toNat : Nat) : Rat) = ((d : Int) : Rat) := by rw [← Rat.intCast_natCast]; congr 1; omega
  rw [this]
theorem ofR_int (n : Int) : ofR (n : Rat) = ⟨n, 1⟩ := rfl
theorem ofR_zero : ofR 0 = ⟨0, 1⟩ := rfl
theorem ofR_one : ofR 1 = ⟨1, 1⟩ := rfl
theorem add_frac (x y : Rat) : frac ((ofR x).a * (ofR y).b + (ofR y).a * (ofR x).b) ((ofR x).b * (ofR y).b) = ofR (x + y) := by
  have : 0 < (ofR x).b * (ofR y).b := Int.mul_pos (den_pos x) (den_pos y)
  rw [frac_mk this, Rat.add_def']
  have e : ((ofR x).b * (ofR y).b).toNat = x.den * y.den := by
    show (((x.den : Nat) : Int) * ((y.den : Nat) : Int)).toNat = x.den * y.den
    rw [← Int.natCast_mul]; exact Int.toNat_natCast _
  rw [e]; rfl
theorem sub_frac (x y : Rat) : frac ((ofR x).a * (ofR y).b - (ofR y).a * (ofR x).b) ((ofR x).b * (ofR y).b) = ofR (x - y) := by
  have : 0 < (ofR x).b * (ofR y).b := Int.mul_pos (den_pos x) (den_pos y)
  rw [frac_mk this, Rat.sub_def']
  have e : ((ofR x).b * (ofR y).b).toNat = x.den * y.den := by
    show (((x.den : Nat) : Int) * ((y.den : Nat) : Int)).toNat = x.den * y.den
    rw [← Int.natCast_mul]; exact Int.toNat_natCast _
  rw [e]; rfl
theorem mul_frac (x y : Rat) : frac ((ofR x).a * (ofR y).a) ((ofR x).b * (ofR y).b) = ofR (x * y) := by
  have : 0 < (ofR x).b * (ofR y).b := Int.mul_pos (den_pos x) (den_pos y)
  rw [frac_mk this, Rat.mul_def']
  have e : ((ofR x).b * (ofR y).b).toNat = x.den * y.den := by
    show (((x.den : Nat) : Int) * ((y.den : Nat) : Int)).toNat = x.den * y.den
    rw [← Int.natCast_mul]; exact Int.toNat_natCast _
  rw [e]; rfl
theorem lt_ofR (x y : Rat) : (ofR x).a * (ofR y).b < (ofR y).a * (ofR x).b ↔ x < y := (Rat.lt_iff x y).symm
theorem le_ofR (x y : Rat) : (ofR x).a * (ofR y).b ≤ (ofR y).a * (ofR x).b ↔ x ≤ y := (Rat.le_iff x y).symm
theorem a_nonneg (x : Rat) : 0 ≤ (ofR x).a ↔ 0 ≤ x := Rat.num_nonneg
theorem a_neg (x : Rat) : (ofR x).a < 0 ↔ x < 0 := by
  have := a_nonneg x
  rw [← Rat.not_le, ← this]
  omega
theorem a_zero (x : Rat) : (ofR x).a = 0 ↔ x = 0 := by
  show x.num = 0 ↔ _
  exact Rat.num_eq_zero
theorem a_pos (x : Rat) : 0 < (ofR x).a ↔ 0 < x := by
  have h1 := a_nonneg x; have h2 := a_zero x
  constructor
  · intro h
    have : 0 ≤ x := h1.mp (by omega)
    have : x ≠ 0 := fun c => by have := h2.mpr c; omega
    grind
  · intro h
    have : 0 ≤ (ofR x).a := h1.mpr (by grind)
    have : (ofR x).a ≠ 0 := fun c => by have := h2.mp c; grind
    omega
theorem gcd_ofR (x : Rat) : gcdI (ofR x).a (ofR x).b = 1 := by
  have := x.reduced
  unfold gcdI ofR
  show ((Nat.gcd x.num.natAbs (x.den : Int).natAbs : Nat) : Int) = 1
  rw [Int.natAbs_natCast]
  have : Nat.gcd x.num.natAbs x.den = 1 := this
  omega
/-- a pair that is a fraction -/
theorem of_fraction {q : Q} (h : 0 < q.b) (h2 : gcdI q.a q.b = 1) : ∃ r, q = ofR r := by
  obtain ⟨a, b⟩ := q
  have h : 0 < b := h
  refine ⟨⟨a, b.toNat, by omega, ?_⟩, ?_⟩
  · unfold gcdI at h2
    have h2 : ((Nat.gcd a.natAbs b.natAbs : Nat) : Int) = 1 := h2
    show Nat.gcd a.natAbs b.toNat = 1
    rw [show b.toNat = b.natAbs by omega]
    omega
  · show (⟨a, b⟩ : Q) = ⟨a, (b.toNat : Nat)⟩
    rw [show ((b.toNat : Nat) : Int) = b by omega]

/-! ### sizes -/
/-- both parts have at most k bits -/
def Bq (k : Nat) (r : Rat) : Prop := r.num.natAbs < 2 ^ k ∧ r.den < 2 ^ k
theorem Bq.mono {j k : Nat} {r : Rat} (h : Bq j r) (hk : j ≤ k) : Bq k r :=
  ⟨Nat.lt_of_lt_of_le h.1 (Nat.pow_le_pow_right (by decide) hk), Nat.lt_of_lt_of_le h.2 (Nat.pow_le_pow_right (by decide) hk)⟩
theorem bq_int {n : Int} {k : Nat} (h : n.natAbs < 2 ^ k) (hk : 0 < k) : Bq k (n : Rat) := by
  refine ⟨h, ?_⟩
  show 1 < 2 ^ k
  exact Nat.one_lt_two_pow (by omega)
theorem bq_mk {n : Int} {d k : Nat} (h : n.natAbs < 2 ^ k) (h2 : d < 2 ^ k) (hd : d ≠ 0) : Bq k (mkRat n d) := by
  unfold Bq
  rw [Rat.num_mkRat, Rat.den_mkRat, if_neg hd, if_neg hd]
  refine ⟨?_, Nat.lt_of_le_of_lt (Nat.div_le_self _ _) h2⟩
  rw [Int.natAbs_ediv_of_dvd (by
    exact Int.ofNat_dvd_left.mpr (Nat.gcd_dvd_right _ _))]
  exact Nat.lt_of_le_of_lt (Nat.div_le_self _ _) h
theorem lt_mul {a b j k : Nat} (h1 : a < 2 ^ j) (h2 : b < 2 ^ k) : a * b < 2 ^ (j + k) := by
  rw [Nat.pow_add]
  exact Nat.mul_lt_mul_of_lt_of_le h1 (Nat.le_of_lt h2) (Nat.two_pow_pos k)
theorem bq_add {j k : Nat} {x y : Rat} (hx : Bq j x) (hy : Bq k y) : Bq (j + k + 1) (x + y) := by
  rw [Rat.add_def']
  have hd : x.den * y.den ≠ 0 := Nat.mul_ne_zero x.den_nz y.den_nz
  have h1 := lt_mul hx.1 hy.2
  have h2 := lt_mul hx.2 hy.1
  have h3 := lt_mul hx.2 hy.2
  have e : 2 ^ (j + k + 1) = 2 ^ (j + k) + 2 ^ (j + k) := by rw [Nat.pow_succ]; omega
  refine bq_mk ?_ (by omega) hd
  have e1 : (x.num * (y.den : Int)).natAbs = x.num.natAbs * y.den := by rw [Int.natAbs_mul]; rfl
  have e2 : (y.num * (x.den : Int)).natAbs = x.den * y.num.natAbs := by rw [Int.natAbs_mul, Nat.mul_comm]; rfl
  omega
theorem bq_neg {k : Nat} {x : Rat} (hx : Bq k x) : Bq k (-x) := by
  refine ⟨?_, hx.2⟩
  show (-x.num).natAbs < _
  rw [Int.natAbs_neg]; exact hx.1
theorem bq_sub {j k : Nat} {x y : Rat} (hx : Bq j x) (hy : Bq k y) : Bq (j + k + 1) (x - y) := by
  rw [Rat.sub_eq_add_neg]; exact bq_add hx (bq_neg hy)
theorem bq_mul {j k : Nat} {x y : Rat} (hx : Bq j x) (hy : Bq k y) : Bq (j + k) (x * y) := by
  rw [Rat.mul_def']
  have hd : x.den * y.den ≠ 0 := Nat.mul_ne_zero x.den_nz y.den_nz
  refine bq_mk ?_ (lt_mul hx.2 hy.2) hd
  rw [Int.natAbs_mul]; exact lt_mul hx.1 hy.1
theorem bq_div {n d : Int} {k : Nat} (h : n.natAbs < 2 ^ k) (h2 : d < 2 ^ k) (hd : 0 < d) : Bq k ((n : Rat) / (d : Rat)) := by
  have e : ((n : Rat) / (d : Rat)) = mkRat n d.toNat := by
    rw [Rat.mkRat_eq_div]
    have : ((d.toNat : Nat) : Rat) = ((d : Int) : Rat) := by rw [← Rat.intCast_natCast]; congr 1; omega
    rw [this]
  rw [e]
  have h2' : ((2 ^ k : Nat) : Int) = 2 ^ k := by simp
  exact bq_mk h (by omega) (by omega)
theorem log2_bq {n k : Nat} (h : n < 2 ^ k) : n.log2 ≤ k := by
  by_cases c : n = 0
  · subst c; show Nat.log2 0 ≤ k; simp
  · exact Nat.le_of_lt ((Nat.log2_lt c).mpr h)
theorem mulOk_bits {i j : Int} {a b : Nat} (hi : i.natAbs < 2 ^ a) (hj : j.natAbs < 2 ^ b) (h : a + b < 1000000) : MulOk i j := by
  have := log2_bq hi; have := log2_bq hj
  unfold MulOk; omega
/-- a sum of fractions, from the left -/
def sumR (l : List Rat) : Rat := l.foldl (· + ·) 0
theorem foldl_add (l : List Rat) : ∀ x : Rat, l.foldl (· + ·) x = x + sumR l := by
  unfold sumR
  induction l with
  | nil => intro x; simp [Rat.add_zero]
  | cons y r ih => intro x; rw [List.foldl_cons, ih, List.foldl_cons, ih (0 + y)]; grind
@[simp] theorem sumR_nil : sumR [] = 0 := rfl
@[simp] theorem sumR_cons (x : Rat) (l : List Rat) : sumR (x :: l) = x + sumR l := by
  show (l.foldl (· + ·) (0 + x)) = _
  rw [foldl_add, Rat.zero_add]
theorem sumR_append (l m : List Rat) : sumR (l ++ m) = sumR l + sumR m := by
  induction l with
  | nil => simp [Rat.zero_add]
  | cons x l ih => rw [List.cons_append, sumR_cons, sumR_cons, ih]; grind
theorem sumR_map_int (l : List Int) : sumR (l.map fun (x : Int) => (x : Rat)) = ((l.sum : Int) : Rat) := by
  induction l with
  | nil => rfl
  | cons x l ih => rw [List.map_cons, sumR_cons, ih, List.sum_cons]; grind
theorem sumR_neg (l : List Rat) : sumR (l.map fun x => -x) = - sumR l := by
  induction l with
  | nil => rfl
  | cons x l ih => rw [List.map_cons, sumR_cons, ih, sumR_cons]; grind
theorem bq_sum {k : Nat} : ∀ {l : List Rat}, (∀ x, x ∈ l → Bq k x) → Bq (l.length * (k + 1) + 1) (sumR l)
  | [], _ => (bq_int (n := 0) (k := 1) (by decide) (by decide)).mono (by omega)
  | x :: l, h => by
    rw [sumR_cons]
    have h1 := h x (by simp)
    have h2 := bq_sum fun y hy => h y (List.mem_cons_of_mem _ hy)
    refine (bq_add h1 h2).mono ?_
    rw [List.length_cons, Nat.add_mul]; omega
theorem rb_q {r : Rat} {k : Nat} (h : Bq k r) (hk : k < 1900) : RB (ofR r) (2 * (k + 3) + 7) := by
  have h1 : RB (ofR r).a (k + 3) := rb_bits h.1 hk
  have h2 : RB (ofR r).b (k + 3) := rb_bits h.2 hk
  have := rb_t2 (t := ofR r) h1 h2
  exact ⟨this.1, Nat.le_trans this.2 (by omega)⟩
theorem RB.mono {α : Type} [Enc α] [S : Rp α] {x : α} {m n : Nat} (h : RB x m) (hm : m ≤ n) : RB x n := ⟨h.1, Nat.le_trans h.2 hm⟩
theorem num_den (x : Rat) : (x.num : Rat) / ((x.den : Nat) : Rat) = x := by
  rw [← Rat.mkRat_eq_div]; exact Rat.mkRat_self x
theorem den_ne (x : Rat) : ((x.den : Nat) : Rat) ≠ 0 := fun h => x.den_nz (Rat.natCast_eq_zero_iff.mp h)
theorem num_ne {x : Rat} (h : 0 < x) : (x.num : Rat) ≠ 0 := fun c => by
  have h1 : x.num = 0 := Rat.intCast_inj.mp (by rw [c]; rfl)
  have := (a_pos x).mpr h
  have : 0 < x.num := this
  omega
theorem over_pos {x y : Rat} (h : 0 < y) : 0 < (ofR x).b * (ofR y).a := Int.mul_pos (den_pos x) ((a_pos y).mpr h)
theorem over_frac {x y : Rat} (h : 0 < y) : frac ((ofR x).a * (ofR y).b) ((ofR x).b * (ofR y).a) = ofR (x / y) := by
  rw [frac_div (over_pos h), ofR_inj]
  have e1 := num_den x
  have e2 := num_den y
  have h1 := den_ne x
  have h2 := den_ne y
  have h3 := num_ne h
  have e3 : (((ofR x).a * (ofR y).b : Int) : Rat) = (x.num : Rat) * ((y.den : Nat) : Rat) := by rw [Rat.intCast_mul]; rfl
  have e4 : (((ofR x).b * (ofR y).a : Int) : Rat) = ((x.den : Nat) : Rat) * (y.num : Rat) := by rw [Rat.intCast_mul]; rfl
  rw [e3, e4]
  generalize (x.num : Rat) = a at *
  generalize ((x.den : Nat) : Rat) = b at *
  generalize (y.num : Rat) = c at *
  generalize ((y.den : Nat) : Rat) = d at *
  subst e1 e2
  grind
theorem bq_inv {k : Nat} {y : Rat} (hy : Bq k y) (h : 0 < y) {j : Nat} {x : Rat} (hx : Bq j x) : Bq (j + k) (x / y) := by
  rw [← ofR_inj.mp (show ofR (x / y) = ofR (x / y) from rfl)]
  have e : x / y = mkRat ((ofR x).a * (ofR y).b) ((ofR x).b * (ofR y).a).toNat := by
    rw [← ofR_inj, ← over_frac h, frac_mk (over_pos h)]
  rw [e]
  have hp := over_pos (x := x) h
  refine bq_mk ?_ ?_ (by omega)
  · rw [Int.natAbs_mul]; exact lt_mul hx.1 hy.2
  · have h1 : ((ofR x).b * (ofR y).a).natAbs < 2 ^ (j + k) := by rw [Int.natAbs_mul]; exact lt_mul hx.2 hy.1
    omega
end Lay

set_option Elab.async false
set_option linter.all false
set_option maxRecDepth 100000
/-! LayT: tasks, their tuples and plans; the first of the greatest. -/
namespace Lay
open PySem PySem.Spec PyProof.Rows L2
open Lay.Enc (enc)
abbrev Task := T4 (List Int) (List (List Int)) (List Int) (List Int)
/-! ### lists side by side -/
theorem zip_get {α β : Type} {l : List α} {m : List β} {i : Nat} {x : α} {y : β} (h1 : l[i]? = some x) (h2 : m[i]? = some y) : (zipL l m)[i]? = some ⟨x, y⟩ := by
  unfold zipL
  rw [List.getElem?_zipWith, h1, h2]
theorem zip_inv {α β : Type} {l : List α} {m : List β} {i : Nat} {z : T2 α β} (h : (zipL l m)[i]? = some z) : l[i]? = some z.a ∧ m[i]? = some z.b := by
  unfold zipL at h
  rw [List.getElem?_zipWith] at h
  cases e1 : l[i]? with
  | none => rw [e1] at h; cases h
  | some x =>
    cases e2 : m[i]? with
    | none => rw [e1, e2] at h; cases h
    | some y => rw [e1, e2] at h; cases h; exact ⟨rfl, rfl⟩
theorem zip_len {α β : Type} {l : List α} {m : List β} : (zipL l m).length = min l.length m.length := by unfold zipL; exact List.length_zipWith
theorem inBox_zip : ∀ {xs ts : List Int}, xs.length = ts.length → (inBox xs ts ↔ ∀ z, z ∈ zipL xs ts → 0 ≤ z.a ∧ z.a ≤ z.b)
  | [], [], _ => by simp [inBox, zipL]
  | x :: xs, t :: ts, h => by
    have ih := inBox_zip (xs := xs) (ts := ts) (by simpa using h)
    show (0 ≤ x ∧ x ≤ t ∧ inBox xs ts) ↔ ∀ z, z ∈ (⟨x, t⟩ : T2 Int Int) :: zipL xs ts → _
    rw [ih]
    constructor
    · rintro ⟨a, b, c⟩ z hz
      rw [List.mem_cons] at hz
      rcases hz with rfl | hz
      · exact ⟨a, b⟩
      · exact c z hz
    · intro q
      have := q ⟨x, t⟩ (by simp)
      exact ⟨this.1, this.2, fun z hz => q z (by simp [hz])⟩
theorem take1 {α : Type} {l : List α} {i : Nat} {x : α} (h : l[i]? = some x) : l.take (i + 1) = l.take i ++ [x] := by
  rw [List.take_add_one, h]; rfl
theorem atn {l : List Int} {k : Int} (h : 0 ≤ k) (h2 : k < l.length) : atI l k = some (l.getD k.toNat 0) := by
  rw [atI_eq h h2]
  have : k.toNat < l.length := by omega
  simp [List.getD, List.getElem?_eq_getElem this]
theorem atD {α : Type} {l : List α} {k : Int} (d : α) (h : 0 ≤ k) (h2 : k < l.length) : atI l k = some (l.getD k.toNat d) := by
  rw [atI_eq h h2]
  have : k.toNat < l.length := by omega
  simp [List.getD, List.getElem?_eq_getElem this]
theorem at_map {α γ : Type} {l : List α} {f : α → γ} {k : Int} {x : α} (h : 0 ≤ k) (e : atI l k = some x) (h2 : k < l.length) : atI (l.map f) k = some (f x) := by
  rw [atI_eq h h2] at e
  rw [atI_eq h (by rw [List.length_map]; exact h2), List.getElem?_map, e]; rfl
theorem getD_mem {l : List Int} {k : Int} (h : 0 ≤ k) (h2 : k < l.length) : l.getD k.toNat 0 ∈ l := by
  have : k.toNat < l.length := by omega
  simp [List.getD, List.getElem?_eq_getElem this]
theorem getD_memD {α : Type} {l : List α} {k : Int} {d : α} (h : 0 ≤ k) (h2 : k < l.length) : l.getD k.toNat d ∈ l := by
  have : k.toNat < l.length := by omega
  simp [List.getD, List.getElem?_eq_getElem this]
theorem atE {α : Type} {l : List α} {i : Nat} {x : α} (h : l[i]? = some x) : atI l (i : Int) = some x := by
  have := (List.getElem?_eq_some_iff.mp h).1
  rw [atI_eq (by omega) (by omega)]; simpa using h
/-! ### how many tuples there are -/
def boxN : List Int → Nat
  | [] => 1
  | t :: r => (t + 1).toNat * boxN r
theorem boxN_app (l m : List Int) : boxN (l ++ m) = boxN l * boxN m := by
  induction l with
  | nil => show boxN m = 1 * boxN m; omega
  | cons x l ih => show (x + 1).toNat * boxN (l ++ m) = (x + 1).toNat * boxN l * boxN m; rw [ih, Nat.mul_assoc]
theorem boxStep_len (f : List (Tup Int)) (x : Int) : (boxStep f x).length = f.length * (x + 1).toNat := by
  unfold boxStep
  induction f with
  | nil => simp
  | cons u f ih => rw [List.flatMap_cons, List.length_append, ih, List.length_map, rng_len, List.length_cons, Nat.add_mul, Nat.one_mul, Nat.add_comm]
theorem box_snoc (l : List Int) (x : Int) : box (l ++ [x]) = boxStep (box l) x := by unfold box; rw [List.foldl_append]; rfl
theorem box_length : ∀ (n : Nat) (l : List Int), l.length = n → (box l).length = boxN l := by
  intro n
  induction n with
  | zero => intro l h; have := List.eq_nil_of_length_eq_zero h; subst this; rfl
  | succ n ih =>
    intro l h
    have hne : l ≠ [] := by intro c; subst c; simp at h
    rw [← List.dropLast_concat_getLast hne]
    generalize l.getLast hne = x
    have hl : l.dropLast.length = n := by rw [List.length_dropLast]; omega
    rw [box_snoc, boxStep_len, ih _ hl, boxN_app]
    show boxN l.dropLast * (x + 1).toNat = boxN l.dropLast * ((x + 1).toNat * 1)
    rw [Nat.mul_one]
theorem boxN_pos : ∀ {l : List Int}, (∀ x, x ∈ l → 0 ≤ x) → 1 ≤ boxN l
  | [], _ => Nat.le_refl 1
  | x :: l, h => by
    have h1 := h x (by simp)
    have h2 := boxN_pos fun y hy => h y (List.mem_cons_of_mem _ hy)
    show 1 ≤ (x + 1).toNat * boxN l
    exact Nat.mul_pos (by omega) h2
theorem boxN_take {l : List Int} (h : ∀ x, x ∈ l → 0 ≤ x) (i : Nat) : boxN (l.take i) ≤ boxN l := by
  have e : boxN l = boxN (l.take i) * boxN (l.drop i) := by rw [← boxN_app, List.take_append_drop]
  rw [e]
  exact Nat.le_mul_of_pos_right _ (boxN_pos fun x hx => h x (List.mem_of_mem_drop hx))
theorem boxN_le {T : Nat} : ∀ {l : List Int}, (∀ x, x ∈ l → 0 ≤ x ∧ x ≤ T) → boxN l ≤ (T + 1) ^ l.length
  | [], _ => Nat.le_refl 1
  | x :: l, h => by
    have h1 := h x (by simp)
    have h2 := boxN_le fun y hy => h y (List.mem_cons_of_mem _ hy)
    show (x + 1).toNat * boxN l ≤ _
    rw [List.length_cons, Nat.pow_succ, Nat.mul_comm]
    exact Nat.mul_le_mul h2 (by omega)
/-! ### tasks -/
structure TK (t : Task) : Prop where
  n1 : 1 ≤ t.a.length
  n6 : t.a.length ≤ 6
  g : ∀ x, x ∈ t.a → x.natAbs ≤ 20
  b6 : t.b.length ≤ 6
  rl : ∀ r, r ∈ t.b → r.length = t.a.length
  r : ∀ r, r ∈ t.b → ∀ x, x ∈ r → x.natAbs ≤ 20
  cl : t.c.length = t.b.length
  c : ∀ x, x ∈ t.c → x.natAbs ≤ 200
  dl : t.d.length = t.a.length
  d : ∀ x, x ∈ t.d → 0 ≤ x ∧ x ≤ 12
  s : boxN t.d ≤ 20000
/-- values within bounds -/
def UB (T : Nat) (u : Tup Int) : Prop := ∀ x, x ∈ u.l → x.natAbs ≤ T
theorem box_mem {t : Task} (h : TK t) {u : Tup Int} : u ∈ box t.d ↔ inBox u.l t.d := mem_box _ _ rfl (fun x hx => (h.d x hx).1) u
theorem box_len6 {t : Task} (h : TK t) {u : Tup Int} (hu : u ∈ box t.d) : u.l.length = t.a.length := by
  rw [inBox_len ((box_mem h).mp hu), h.dl]
theorem box_ub {t : Task} (h : TK t) {u : Tup Int} (hu : u ∈ box t.d) : ∀ x, x ∈ u.l → 0 ≤ x ∧ x ≤ 12 :=
  inBox_mem ((box_mem h).mp hu) fun y hy => (h.d y hy).2
theorem box_UB {t : Task} (h : TK t) {u : Tup Int} (hu : u ∈ box t.d) : UB 12 u := fun x hx => by have := box_ub h hu x hx; omega
theorem box_part {t : Task} (h : TK t) (i : Nat) : (box (t.d.take i)).length ≤ 20000 ∧ ∀ u, u ∈ box (t.d.take i) → u.l.length ≤ 6 := by
  have h0 : ∀ x, x ∈ t.d.take i → 0 ≤ x := fun x hx => (h.d x (List.mem_of_mem_take hx)).1
  refine ⟨?_, fun u hu => ?_⟩
  · rw [box_length _ _ rfl]
    exact Nat.le_trans (boxN_take (fun x hx => (h.d x hx).1) i) h.s
  · have := inBox_len ((mem_box _ _ rfl h0 u).mp hu)
    rw [this, List.length_take]
    have := h.dl; have := h.n6
    omega
theorem box_all {t : Task} (h : TK t) : (box t.d).length ≤ 20000 := by
  rw [box_length _ _ rfl]; exact h.s
theorem dot_le {A B n : Nat} {r : List Int} {u : List Int} (hn : r.length ≤ n) (hr : ∀ x, x ∈ r → x.natAbs ≤ A) (hu : ∀ x, x ∈ u → x.natAbs ≤ B) : (dot r u).natAbs ≤ n * (A * B) :=
  Nat.le_trans (dot_bound hr hu) (Nat.mul_le_mul_right _ hn)
theorem row_dot {t : Task} (h : TK t) {r : List Int} (hr : r ∈ t.b) {u : Tup Int} (hu : UB 100 u) : (dot r u.l).natAbs ≤ 12000 :=
  dot_le (n := 6) (A := 20) (B := 100) (by rw [h.rl r hr]; exact h.n6) (h.r r hr) hu
theorem gain_dot {t : Task} (h : TK t) {u : Tup Int} (hu : UB 100 u) : (dot t.a u.l).natAbs ≤ 12000 :=
  dot_le (n := 6) (A := 20) (B := 100) h.n6 h.g hu
theorem UB.mono {S T : Nat} {u : Tup Int} (h : UB S u) (hs : S ≤ T) : UB T u := fun x hx => Nat.le_trans (h x hx) hs
/-- all rows are kept -/
def keepsB (t : Task) (u : List Int) : Bool := (zipL t.b t.c).all fun z => decide (dot z.a u ≤ z.b)
def plansP (t : Task) : List (Tup Int) := (box t.d).filter fun u => keepsB t u.l
def isPlan (t : Task) (u : Tup Int) : Prop := u ∈ plansP t
theorem plan_box {t : Task} {u : Tup Int} (h : u ∈ plansP t) : u ∈ box t.d := (List.mem_filter.mp h).1
theorem plan_iff {t : Task} {u : Tup Int} : u ∈ plansP t ↔ u ∈ box t.d ∧ keepsB t u.l = true := by unfold plansP; rw [List.mem_filter]
theorem plans_len {t : Task} (h : TK t) : (plansP t).length ≤ 20000 := Nat.le_trans (List.length_filter_le _ _) (box_all h)
theorem keeps_idx {t : Task} {u : List Int} (hl : t.c.length = t.b.length) : keepsB t u = true ↔ ∀ k : Int, k ∈ rngL 0 t.b.length → ¬ t.c.getD k.toNat 0 < dot (t.b.getD k.toNat []) u := by
  unfold keepsB
  rw [List.all_eq_true]
  constructor
  · intro q k hk
    have hk := mem_rng.mp hk
    have k1 : k.toNat < t.c.length := by omega
    have k2 : k.toNat < t.b.length := by omega
    have z := List.mem_of_getElem? (zip_get (List.getElem?_eq_getElem k2) (List.getElem?_eq_getElem k1))
    have := of_decide_eq_true (q _ z)
    simp [k1, k2]
    omega
  · intro q z hz
    obtain ⟨i, hi, e⟩ := List.mem_iff_getElem.mp hz
    obtain ⟨e1, e2⟩ := zip_inv (show (zipL t.b t.c)[i]? = some z by rw [List.getElem?_eq_getElem hi, e])
    have i2 := (List.getElem?_eq_some_iff.mp e1).1
    have := q (i : Int) (mem_rng.mpr ⟨by omega, by omega⟩)
    simp only [List.getD, Int.toNat_natCast, e1, e2, Option.getD_some] at this
    exact decide_eq_true (by omega)
theorem filter_nil {α : Type} {l : List α} {p : α → Bool} : l.filter p = [] ↔ ∀ x, x ∈ l → ¬ p x = true := List.filter_eq_nil_iff
/-! ### the first of the greatest -/
def upB {α β : Type} [LT β] [DecidableRel (α := β) (· < ·)] (f : α → β) (b : Option (T2 β α)) (x : α) : Option (T2 β α) := match b with
  | none => some ⟨f x, x⟩
  | some p => if p.a < f x then some ⟨f x, x⟩ else some p
def bestB {α β : Type} [LT β] [DecidableRel (α := β) (· < ·)] (f : α → β) (l : List α) : Option (T2 β α) := l.foldl (upB f) none
section
variable {α β : Type} [LT β] [DecidableRel (α := β) (· < ·)] {f : α → β}
theorem bestB_snoc {l : List α} {x : α} : bestB f (l ++ [x]) = upB f (bestB f l) x := by unfold bestB; rw [List.foldl_append]; rfl
theorem bestB_take {l : List α} {i : Nat} {x : α} (h : l[i]? = some x) : bestB f (l.take (i + 1)) = upB f (bestB f (l.take i)) x := by
  rw [take1 h, bestB_snoc]
theorem bestB_congr {g : α → β} {l : List α} (h : ∀ x, x ∈ l → f x = g x) : bestB f l = bestB g l := by
  have : ∀ (l : List α) (b : Option (T2 β α)), (∀ x, x ∈ l → f x = g x) → l.foldl (upB f) b = l.foldl (upB g) b := by
    intro l
    induction l with
    | nil => intro b _; rfl
    | cons x l ih =>
      intro b h
      have e : upB f b x = upB g b x := by unfold upB; rw [h x (by simp)]
      rw [List.foldl_cons, List.foldl_cons, e]
      exact ih _ fun y hy => h y (List.mem_cons_of_mem _ hy)
  exact this l none h
theorem upB_none {x : α} : upB f none x = some ⟨f x, x⟩ := rfl
theorem upB_lt {x : α} {p : T2 β α} (h : p.a < f x) : upB f (some p) x = some ⟨f x, x⟩ := if_pos h
theorem upB_ge {x : α} {p : T2 β α} (h : ¬ p.a < f x) : upB f (some p) x = some p := if_neg h
theorem bestB_mem : ∀ (n : Nat) (l : List α), l.length = n → ∀ p, bestB f l = some p → p.b ∈ l ∧ p.a = f p.b := by
  intro n
  induction n with
  | zero => intro l h p hp; have := List.eq_nil_of_length_eq_zero h; subst this; cases hp
  | succ n ih =>
    intro l h p hp
    have hne : l ≠ [] := by intro c; subst c; simp at h
    rw [← List.dropLast_concat_getLast hne] at hp ⊢
    generalize l.getLast hne = x at *
    have ih := ih l.dropLast (by rw [List.length_dropLast]; omega)
    generalize l.dropLast = m at *
    rw [bestB_snoc] at hp
    cases q : bestB f m with
    | none => rw [q, upB_none] at hp; cases hp; exact ⟨by simp, rfl⟩
    | some p0 =>
      rw [q] at hp
      by_cases c : p0.a < f x
      · rw [upB_lt c] at hp; cases hp; exact ⟨by simp, rfl⟩
      · rw [upB_ge c] at hp; cases hp
        obtain ⟨h1, h2⟩ := ih p q
        exact ⟨by simp [h1], h2⟩
theorem bestB_in {l : List α} {p : T2 β α} (h : bestB f l = some p) : p.b ∈ l ∧ p.a = f p.b := bestB_mem _ l rfl p h
theorem bestB_max (irr : ∀ a : β, ¬ a < a) (tr : ∀ a b c : β, ¬ a < b → ¬ b < c → ¬ a < c) (as : ∀ a b : β, a < b → ¬ b < a) : ∀ (n : Nat) (l : List α), l.length = n → ∀ x, x ∈ l → ∃ p, bestB f l = some p ∧ ¬ p.a < f x := by
  intro n
  induction n with
  | zero => intro l h x hx; have := List.eq_nil_of_length_eq_zero h; subst this; simp at hx
  | succ n ih =>
    intro l h x hx
    have hne : l ≠ [] := by intro c; subst c; simp at h
    rw [← List.dropLast_concat_getLast hne] at hx ⊢
    generalize l.getLast hne = y at *
    have ih := ih l.dropLast (by rw [List.length_dropLast]; omega)
    generalize l.dropLast = m at *
    rw [bestB_snoc]
    rw [List.mem_append, List.mem_singleton] at hx
    cases q : bestB f m with
    | none =>
      refine ⟨_, upB_none, ?_⟩
      rcases hx with hx | rfl
      · obtain ⟨p, e, _⟩ := ih x hx; rw [q] at e; cases e
      · exact irr _
    | some p0 =>
      by_cases c : p0.a < f y
      · refine ⟨_, upB_lt c, ?_⟩
        rcases hx with hx | rfl
        · obtain ⟨p, e, le⟩ := ih x hx
          rw [q] at e; cases e
          exact tr _ _ _ (as _ _ c) le
        · exact irr _
      · refine ⟨_, upB_ge c, ?_⟩
        rcases hx with hx | rfl
        · obtain ⟨p, e, le⟩ := ih x hx
          rw [q] at e; cases e
          exact le
        · exact c
theorem bestB_none {l : List α} : bestB f l = none ↔ l = [] := by
  constructor
  · intro h
    have : ∀ (n : Nat) (l : List α), l.length = n → bestB f l = none → l = [] := by
      intro n
      cases n with
      | zero => intro l h _; exact List.eq_nil_of_length_eq_zero h
      | succ n =>
        intro l h hb
        have hne : l ≠ [] := by intro c; subst c; simp at h
        rw [← List.dropLast_concat_getLast hne, bestB_snoc] at hb
        generalize bestB f l.dropLast = b at hb
        cases b with
        | none => cases hb
        | some p => unfold upB at hb; simp only at hb; split at hb <;> cases hb
    exact this _ l rfl h
  · intro h; subst h; rfl
end
theorem best_int {α : Type} {f : α → Int} {l : List α} {x : α} (h : x ∈ l) : ∃ p, bestB f l = some p ∧ f x ≤ p.a := by
  obtain ⟨p, e, q⟩ := bestB_max (f := f) (fun a => by omega) (fun a b c => by omega) (fun a b => by omega) _ l rfl x h
  exact ⟨p, e, by omega⟩
theorem best_rat {α : Type} {f : α → Rat} {l : List α} {x : α} (h : x ∈ l) : ∃ p, bestB f l = some p ∧ f x ≤ p.a := by
  obtain ⟨p, e, q⟩ := bestB_max (f := f) (fun a => by grind) (fun a b c => by grind) (fun a b => by grind) _ l rfl x h
  exact ⟨p, e, by grind⟩
/-! ### some rows alone -/
def sub (t : Task) (I : List Int) : Task := ⟨t.a, I.map fun i => t.b.getD i.toNat [], I.map fun i => t.c.getD i.toNat 0, t.d⟩
def rowB (t : Task) (u : List Int) (i : Int) : Bool := decide (dot (t.b.getD i.toNat []) u ≤ t.c.getD i.toNat 0)
theorem keeps_sub (t : Task) (I : List Int) (u : List Int) : keepsB (sub t I) u = I.all (rowB t u) := by
  unfold keepsB sub
  induction I with
  | nil => rfl
  | cons i I ih =>
    show (decide (dot (t.b.getD i.toNat []) u ≤ t.c.getD i.toNat 0) && (zipL (I.map _) (I.map _)).all _) = (rowB t u i && I.all (rowB t u))
    rw [← ih]; rfl
theorem keeps_all {t : Task} (hl : t.c.length = t.b.length) (u : List Int) : keepsB t u = (rngL 0 t.b.length).all (rowB t u) := by
  rw [Bool.eq_iff_iff, keeps_idx hl, List.all_eq_true]
  constructor
  · intro q k hk
    have := q k hk
    unfold rowB
    exact decide_eq_true (by omega)
  · intro q k hk
    have := of_decide_eq_true (q k hk)
    omega
theorem row_mem {t : Task} {i : Int} (h : 0 ≤ i) (h2 : i < t.b.length) : t.b.getD i.toNat [] ∈ t.b := getD_memD h h2
theorem lim_mem {t : Task} (hl : t.c.length = t.b.length) {i : Int} (h : 0 ≤ i) (h2 : i < t.b.length) : t.c.getD i.toNat 0 ∈ t.c := getD_memD h (by omega)
theorem TK.sub {t : Task} (h : TK t) {I : List Int} (hI : ∀ i, i ∈ I → 0 ≤ i ∧ i < t.b.length) (hn : I.length ≤ 6) : TK (sub t I) := by
  refine ⟨h.n1, h.n6, h.g, by show (I.map _).length ≤ 6; rw [List.length_map]; exact hn, fun r hr => ?_, fun r hr => ?_, by show (I.map _).length = (I.map _).length; simp, fun x hx => ?_, h.dl, h.d, h.s⟩
  · obtain ⟨i, hi, rfl⟩ := List.mem_map.mp hr
    exact h.rl _ (row_mem (hI i hi).1 (hI i hi).2)
  · obtain ⟨i, hi, rfl⟩ := List.mem_map.mp hr
    exact h.r _ (row_mem (hI i hi).1 (hI i hi).2)
  · obtain ⟨i, hi, rfl⟩ := List.mem_map.mp hx
    exact h.c _ (lim_mem h.cl (hI i hi).1 (hI i hi).2)
theorem rng_pairwise (lo : Int) (n : Nat) : (rngL lo n).Pairwise (· < ·) := by
  unfold rngL
  rw [List.pairwise_map]
  exact List.pairwise_lt_range.imp fun h => by omega
/-- the rows that are not soft -/
def hardI (t : Task) (soft : List Int) : List Int := (rngL 0 t.b.length).filter fun i => !decide (i ∈ soft)
theorem hard_mem {t : Task} {soft : List Int} {i : Int} : i ∈ hardI t soft ↔ (0 ≤ i ∧ i < t.b.length) ∧ i ∉ soft := by
  unfold hardI
  rw [List.mem_filter, mem_rng]
  simp
theorem hard_len {t : Task} {soft : List Int} : (hardI t soft).length ≤ t.b.length := by
  unfold hardI
  exact Nat.le_trans (List.length_filter_le _ _) (by rw [rng_len]; omega)
def restP (t : Task) (soft : List Int) : List (Tup Int) := plansP (sub t (hardI t soft))
theorem tk_hard {t : Task} (h : TK t) (soft : List Int) : TK (sub t (hardI t soft)) :=
  h.sub (fun i hi => (hard_mem.mp hi).1) (Nat.le_trans hard_len h.b6)
theorem plan_rest {t : Task} (h : TK t) {soft : List Int} {u : Tup Int} (hu : u ∈ plansP t) : u ∈ restP t soft := by
  obtain ⟨h1, h2⟩ := plan_iff.mp hu
  refine plan_iff.mpr ⟨h1, ?_⟩
  rw [keeps_all h.cl, List.all_eq_true] at h2
  rw [keeps_sub, List.all_eq_true]
  exact fun i hi => h2 i (mem_rng.mpr (by have := (hard_mem.mp hi).1; omega))
theorem plan_row {t : Task} (h : TK t) {u : Tup Int} (hu : u ∈ plansP t) {i : Int} (hi : 0 ≤ i) (hi2 : i < t.b.length) : dot (t.b.getD i.toNat []) u.l ≤ t.c.getD i.toNat 0 := by
  obtain ⟨_, h2⟩ := plan_iff.mp hu
  rw [keeps_all h.cl, List.all_eq_true] at h2
  exact of_decide_eq_true (h2 i (mem_rng.mpr (by omega)))
/-- rows that ascend -/
structure SF (t : Task) (soft : List Int) : Prop where
  asc : soft.Pairwise (· < ·)
  mem : ∀ i, i ∈ soft → 0 ≤ i ∧ i < t.b.length
theorem asc_le : ∀ {l : List Int} {lo hi : Int}, l.Pairwise (· < ·) → (∀ i, i ∈ l → lo ≤ i ∧ i < hi) → l.length ≤ (hi - lo).toNat
  | [], _, _, _, _ => Nat.zero_le _
  | x :: l, lo, hi, hp, hm => by
    rw [List.pairwise_cons] at hp
    have h1 := hm x (by simp)
    have := asc_le (lo := x + 1) (hi := hi) hp.2 fun i h => ⟨by have := hp.1 i h; omega, (hm i (by simp [h])).2⟩
    rw [List.length_cons]; omega
theorem nodup_le {l : List Int} {n : Nat} (hp : l.Pairwise (· < ·)) (hm : ∀ i, i ∈ l → 0 ≤ i ∧ i < n) : l.length ≤ n := by
  have := asc_le (lo := 0) (hi := n) hp hm
  omega
theorem SF.len {t : Task} {soft : List Int} (h : SF t soft) : soft.length ≤ t.b.length := nodup_le h.asc h.mem
/-! ### by index -/
theorem idx_zip {α β γ : Type} {l : List α} {m : List β} {n : Nat} (hl : l.length = n) (hm : m.length = n) (da : α) (db : β) (f : α → β → γ) :
    ((rngL 0 n).map fun k => f (l.getD k.toNat da) (m.getD k.toNat db)) = (zipL l m).map fun z => f z.a z.b := by
  apply List.ext_getElem?
  intro i
  unfold rngL
  rw [List.map_map, List.getElem?_map, List.getElem?_map]
  by_cases c : i < n
  · have c1 : i < l.length := by omega
    have c2 : i < m.length := by omega
    rw [List.getElem?_range c, zip_get (List.getElem?_eq_getElem c1) (List.getElem?_eq_getElem c2)]
    simp [c1, c2]
  · rw [List.getElem?_eq_none (by rw [List.length_range]; omega), List.getElem?_eq_none (by rw [zip_len]; omega)]
    rfl
theorem idx_map {α γ : Type} {l : List α} {n : Nat} (hl : l.length = n) (da : α) (f : α → γ) : ((rngL 0 n).map fun k => f (l.getD k.toNat da)) = l.map f := by
  apply List.ext_getElem?
  intro i
  unfold rngL
  rw [List.map_map, List.getElem?_map, List.getElem?_map]
  by_cases c : i < n
  · have c1 : i < l.length := by omega
    rw [List.getElem?_range c, List.getElem?_eq_getElem c1]
    simp [c1]
  · rw [List.getElem?_eq_none (by rw [List.length_range]; omega), List.getElem?_eq_none (by omega)]
    rfl
theorem zip_map1 {α β γ : Type} {f : α → γ} : ∀ {l : List α} {m : List β}, zipL (l.map f) m = (zipL l m).map fun z => ⟨f z.a, z.b⟩
  | [], m => by simp [zipL]
  | _ :: _, [] => by simp [zipL]
  | x :: l, y :: m => by
    show (⟨f x, y⟩ : T2 γ β) :: zipL (l.map f) m = ⟨f x, y⟩ :: (zipL l m).map _
    rw [zip_map1]
theorem lcL_over {α β γ : Type} {c : α → Option Bool} {e : α → Option β} {g : γ → α} : ∀ {l : List γ}, lcL c e (l.map g) = lcL (fun z => c (g z)) (fun z => e (g z)) l
  | [] => rfl
  | x :: l => by
    show ((c (g x)).bind fun t => _) = ((c (g x)).bind fun t => _)
    rw [lcL_over]
/-! ### slices -/
theorem mem_cut {α : Type} {l : List α} {a b : Option Int} {x : α} (h : x ∈ cutL l a b) : x ∈ l := List.mem_of_mem_drop (List.mem_of_mem_take h)
theorem cut_last {α : Type} {l : List α} : cutL l none (some (-1)) = l.take (l.length - 1) := by
  unfold cutL
  rw [HT.sIx_none, List.drop_zero, Nat.sub_zero]
  have : HT.sIx l.length l.length (some (-1)) = (-1 + (l.length : Int)).toNat := by
    unfold HT.sIx
    exact if_pos (by decide)
  rw [this]
  congr 1; omega
theorem cut_to {α : Type} {l : List α} {n : Nat} (h : n ≤ l.length) : cutL l none (some (n : Int)) = l.take n := by
  unfold cutL
  rw [HT.sIx_none, List.drop_zero, Nat.sub_zero, HT.sIx_nat, Nat.min_eq_left h]
theorem cut_from {α : Type} {l : List α} {n : Nat} (h : n ≤ l.length) : cutL l (some (n : Int)) none = l.drop n := by
  unfold cutL
  rw [HT.sIx_none, HT.sIx_nat, Nat.min_eq_left h]
  exact List.take_of_length_le (by rw [List.length_drop]; omega)
/-! ### lists of fractions -/
theorem ofR_list {P : Rat → Prop} : ∀ {l : List Q}, (∀ y, y ∈ l → ∃ x, y = ofR x ∧ P x) → ∃ f : List Rat, l = f.map ofR ∧ f.length = l.length ∧ ∀ x, x ∈ f → P x
  | [], _ => ⟨[], rfl, rfl, fun x h => (by simp at h)⟩
  | y :: l, h => by
    obtain ⟨x, e, p⟩ := h y (by simp)
    obtain ⟨f, e2, e3, q⟩ := ofR_list fun z hz => h z (List.mem_cons_of_mem _ hz)
    refine ⟨x :: f, by rw [List.map_cons, ← e2, e], by simp [e3], fun z hz => ?_⟩
    rw [List.mem_cons] at hz
    rcases hz with rfl | hz
    · exact p
    · exact q z hz
theorem sumR_perm {l m : List Rat} (h : l.Perm m) : sumR l = sumR m := by
  induction h with
  | nil => rfl
  | cons x _ ih => rw [sumR_cons, sumR_cons, ih]
  | swap x y l => rw [sumR_cons, sumR_cons, sumR_cons, sumR_cons]; grind
  | trans _ _ h1 h2 => rw [h1, h2]
theorem sortI_strict {l : List Int} (h : l.Nodup) : (sortI l).Pairwise (· < ·) := by
  have h1 := sortI_sorted l
  have h2 : (sortI l).Nodup := (sortI_perm l).nodup_iff.mpr h
  exact (h1.and h2).imp fun ⟨a, b⟩ => by omega
theorem nodup_asc {l : List Int} (h : l.Pairwise (· < ·)) : l.Nodup := h.imp fun h => by omega
end Lay

set_option Elab.async false
set_option linter.all false
set_option maxRecDepth 100000
/-! LayP: tuples of a known length used as tuples of any length; tuple(t). -/
namespace Lay
open PySem PySem.Spec PyProof.Rows L2
open Lay.Enc (enc)
def tp2 {α : Type} (t : T2 α α) : Tup α := ⟨[t.a, t.b]⟩
def tp3 {α : Type} (t : T3 α α α) : Tup α := ⟨[t.a, t.b, t.c]⟩
def tp4 {α : Type} (t : T4 α α α α) : Tup α := ⟨[t.a, t.b, t.c, t.d]⟩
section
variable {X : Cx} {G : List Sl} {α β : Type} [Enc α] [Enc β] {e : Expr} {N : List Str} {sc : Scope} {fs : Option Scope} {k : Nat} {p pos : Pos}
theorem ed_tp2 {o : Option (T2 α α)} (h : ED X G e o) : ED X G e (lift1 tp2 o) := ed_coe tp2 (fun _ => rfl) h
theorem ed_tp3 {o : Option (T3 α α α)} (h : ED X G e o) : ED X G e (lift1 tp3 o) := ed_coe tp3 (fun _ => rfl) h
theorem ed_tp4 {o : Option (T4 α α α α)} (h : ED X G e o) : ED X G e (lift1 tp4 o) := ed_coe tp4 (fun _ => rfl) h
theorem ed_tupT {ol : Option α} (ht : ∀ x : α, ∃ ds, enc x = PyData.tuple ds) (C : Ctx X N sc fs k) (hg : glbB sc "tuple" = true) (hm : X.mg "tuple" = none) (h : ED X G e ol) (hs : starEach [e] X.env = (false, eval e X.env) :: starEach [] X.env := by rfl) : ED X G (.Call (.Name "tuple" p) [e] [] pos) ol := fun z hz => by
  refine (bT C hg hm (by decide +kernel) call_tuple_of (h z hz) (by decide) hs).imp fun σ H Q ⟨F, I, ps, R, q⟩ => ⟨F, I, ps, R, fun v H1 I1 g1 R1 d => ?_⟩
  obtain ⟨ds, e1⟩ := ht z
  rw [e1] at d
  cases d with
  | tup k1 k2 => exact ⟨_, _, rfl, .inr ⟨.inl (rd_mono R1.si k1), q _ _ I1 g1 R1 (by rw [e1]; exact .tup k1 k2)⟩⟩
theorem ed_tupT2 {ol : Option (T2 α β)} (C : Ctx X N sc fs k) (hg : glbB sc "tuple" = true) (hm : X.mg "tuple" = none) (h : ED X G e ol) (hs : starEach [e] X.env = (false, eval e X.env) :: starEach [] X.env := by rfl) : ED X G (.Call (.Name "tuple" p) [e] [] pos) ol := ed_tupT (fun _ => ⟨_, rfl⟩) C hg hm h hs
end
end Lay

set_option Elab.async false
set_option linter.all false
set_option maxRecDepth 100000
/-! LayG: enumerate over a tuple (or a list), by what its iterator draws. -/
namespace Lay
open PySem PySem.Spec PyProof.Rows L2
open Lay.Enc (enc)
set_option maxHeartbeats 1000000 in
theorem enum_fresh {v : Value} {io : Obj} {Z : Heap → Prop} (B : Begins v io Z) :
    Meets (Builtin.«enumerate.__new__» ⟨[.type "enumerate", v], []⟩) (fun _ R st => Z st.heap ∧
      R (.ok (.ret (.ref (st.heap.push io).objs.size))) { st with heap := (st.heap.push io).push { cls := .type "enumerate", data := .fields #[.none, .bool false, .ref st.heap.objs.size, rawInt 0, .none, .none] } }) :=
  .of_wp fun pr wo A R st hyp => by
    obtain ⟨hp, gs, dr, tk, os⟩ := st
    obtain ⟨z, fin⟩ := hyp
    have hsub := sub_enumerate
    have start : ∀ {A2 : Around} {E : Value → Shared → Prop} {Q : Value → Shared → Prop}, Q (.ref hp.objs.size) ⟨hp.push io, gs, dr, tk, os⟩ → wpAny (model pr wo) A2 (pyIter v) Q E ⟨hp, gs, dr, tk, os⟩ := fun q => B.iter pr wo _ _ ⟨hp, gs, dr, tk, os⟩ _ z q
    wp_walk using start
    refine wpAny_stack_any fun bl => wpAny_pure ?_
    split
    · rename_i c _ _ _ _ _
      cases (c == Value.type "enumerate") <;> (wp_walk using start; exact ⟨_, rfl, fin⟩)
    · wp_walk using start
      exact ⟨_, rfl, fin⟩
theorem enum_made {pr : Program} {wo : World} {A : Around} {E : Value → Shared → Prop} {st : Shared} {v : Value} {io : Obj} {Z : Heap → Prop} {Q : Value → Shared → Prop} (B : Begins v io Z) (z : Z st.heap)
    (fin : ∀ hh, IsEnum hh (st.heap.objs.size + 1) st.heap.objs.size 0 .none → hh.get? st.heap.objs.size = some io → (∀ b ob, st.heap.get? b = some ob → hh.get? b = some ob) → Q (.ref (st.heap.objs.size + 1)) { st with heap := hh }) :
    wpAny (model pr wo) A (call (.type "enumerate") [v]) Q E st := by
  refine callType_new F.called_enumerate (by decide) (F.typeCall_enumerate_1 _) (F.newCall_enumerate_1 _) (fun ob => F.args_object_init_2 ob _) F.entry_enumerate_new (enum_fresh B) ⟨z, ?_⟩
  have sz : (st.heap.push io).objs.size = st.heap.objs.size + 1 := Heap.size_push ..
  show _ ∧ _
  rw [sz]
  have last := Heap.get?_push_size (st.heap.push io) (o := { cls := .type "enumerate", data := .fields #[.none, .bool false, .ref st.heap.objs.size, rawInt 0, .none, .none] }) rfl
  rw [sz] at last
  exact ⟨⟨_, last, rfl⟩, fin _ last (Heap.get?_push_of_some _ (Heap.get?_push_size _ B.free)) fun b ob q => Heap.get?_push_of_some _ (Heap.get?_push_of_some _ q)⟩
/-- the one at a as it stands, item by item, with its number in a new pair -/
def IteB (K : PySem.W.Frag) (b : Bool) (a : Addr) : It where
  go i H := ∃ (xs : List V) (x : V), SqB K b H a xs ∧ xs[i]? = some x
  yld i H v H' := ∃ T x, v = .ref T ∧ H T = none ∧ H' = upd H T (.tup [.int (i : Nat), x]) ∧ ∀ xs, SqB K b H a xs → xs[i]? = some x
  stop i H := ∃ xs : List V, SqB K b H a xs ∧ i = xs.length
theorem turn_enumB {P : Program} {w : World} {K : PySem.W.Frag} {es : List Expr} {kk : Nat} {tp : Pos} {b : Bool} {a n : Addr} (ha : a < n) :
    Turn P w K (.Tuple es kk tp) (IteB K b a) [n + 1, n] (n + 1) (fun i h => (∃ old, IsEnum h (n + 1) n ((i : Nat) : Int) old) ∧ IterB b h n a i) := by
  have two : ∀ {c : Addr}, c ∈ [n + 1, n] → c = n + 1 ∨ c = n := fun h => by simpa using h
  have ne : n + 1 ≠ n := Nat.succ_ne_self n
  refine { mem := by simp, obj := ?_, keep := ?_, item := ?_, done := ?_, self := ?_ }
  · rintro i h ⟨⟨old, e1⟩, e2⟩ c hc
    rcases two hc with e | e <;> subst e
    · exact ⟨_, e1, fun _ z => nomatch z⟩
    · exact e2.obj
  · rintro i h h' ⟨⟨old, e1⟩, e2⟩ kp
    exact ⟨⟨old, kp _ (by simp) _ e1⟩, e2.at (kp _ (by simp))⟩
  · intro X e1 e2 e3 calm i pins s σ H E I hf st hg
    subst e1 e2 e3
    obtain ⟨⟨old, z1⟩, z2⟩ := st
    obtain ⟨xs, x, qa, hx⟩ := hg
    obtain ⟨ia, ra, pa⟩ := sqB_items I qa
    have hd : X.A.in1.handled = none := I.ok.hd calm
    have la : i < ia.toArray.size := by rw [List.size_toArray, ← ra.length]; exact (List.getElem?_eq_some_iff.mp hx).1
    have noin : n + 1 ∉ [n, a] := fun z => (List.mem_cons.mp z).elim ne fun z => absurd ha (by rw [← List.mem_singleton.mp z]; exact Nat.not_lt.mpr (Nat.le_succ n))
    refine wpAny_pyNext_enum_itemC (draws_b hd b n a (Nat.ne_of_lt ha) ia.toArray) z1 ⟨z2, pa⟩ la ne noin fun u h1 tk p1 y1 y2 hT hsz kp => ?_
    have zlt : n + 1 < s.heap.objs.size := Heap.lt_size z1
    refine ⟨_, rfl, wpAny_letOwnedTupleGo_enum (s := { s with heap := h1, toks := tk + 1 }) y1 fun h2 y1' sb => ?_⟩
    obtain ⟨w1, hw1, r1⟩ := ra.get hx
    have q1 : u = w1 := by
      have := p1; simp only [List.getElem?_toArray] at this; rw [hw1] at this; exact (Option.some.inj this).symm
    subst q1
    have hT2 : h2.get? s.heap.objs.size = some { cls := .type "tuple", data := .seq #[.int i tk, u] } := (sb.2 _ (Nat.ne_of_gt zlt)).trans hT
    have ok : ObjOk X.prog X.w (upd H s.heap.objs.size (.tup [.int (i : Nat), x])) h2 s.heap.objs.size (.tup [.int (i : Nat), x]) := ⟨small_line (by show 2 ≤ 8; decide), [.int i tk, u], .cons ⟨_, rfl⟩ (.cons r1 .nil), ⟨_, hT2, rfl, _, rfl⟩⟩
    have kp2 : ∀ c o, c ∉ [n + 1, n] → s.heap.get? c = some o → h2.get? c = some o := fun c o hb e => by
      simp only [List.mem_cons, List.not_mem_nil, or_false, not_or] at hb
      exact (sb.2 c hb.1).trans (kp c o hb.1 hb.2 e)
    have I1 : Inv X pins σ (upd H s.heap.objs.size (.tup [.int (i : Nat), x])) { s with heap := h2, toks := tk + 1 } := I.turnedNew (t' := tk + 1) (ch := [n + 1, n]) kp2 hf (Nat.le_refl _) ok
    refine ⟨.ref s.heap.objs.size, _, I1, rfl, ⟨_, x, rfl, I.hok.fresh (Nat.le_refl _), rfl, fun l hl => ?_⟩, ⟨⟨u, ?_⟩, y2.1.at fun o e => (sb.2 _ (Ne.symm ne)).trans e⟩, fun c hb => ?_⟩
    · rw [sqB_inj I hl qa]; exact hx
    · have e1 : ((i + 1 : Nat) : Int) = (i : Int) + 1 := by omega
      rw [e1]; exact y1'
    · have lt : c < s.heap.objs.size := by
        rcases two hb with e | e <;> subst e
        · exact zlt
        · exact Nat.lt_of_succ_lt zlt
      rw [upd_ne (Nat.ne_of_lt lt)]
      exact (hf c hb).1
  · intro X e1 e2 e3 calm i pins s σ H E I hf st hg
    subst e1 e2 e3
    obtain ⟨⟨old, z1⟩, z2⟩ := st
    obtain ⟨xs, qa, hi⟩ := hg
    obtain ⟨ia, ra, pa⟩ := sqB_items I qa
    have hd : X.A.in1.handled = none := I.ok.hd calm
    obtain ⟨f0, f1, f2, f3, f4, f5⟩ := hf n (by simp)
    have sz : i = ia.toArray.size := by rw [List.size_toArray, ← ra.length]; exact hi
    exact wpAny_pyNext_enum_endD (draws_b hd b n a (Nat.ne_of_lt ha) ia.toArray) z1 (by rw [← sz]; exact ⟨z2, pa⟩) fun h' eb => ⟨rfl, I.turned (t' := s.toks) (fun c o hb q => eb c o hb q) f0 f1 f3 f4 f5⟩
  · exact fun A i s Q E st h => let ⟨⟨_, e⟩, _⟩ := st; wpAny_pyIter_enum e h
def iEnumB (K : PySem.W.Frag) (b : Bool) (ta : TA) : TI := fun σ H R => ta σ H fun vs H1 => ∃ a xs, vs = [.ref a] ∧ SqB K b H1 a xs ∧ R (IteB K b a) H1
theorem pi_enumB {X : Cx} {e : Expr} {ta : TA} {p pos tp : Pos} {es : List Expr} {kk : Nat} (b : Bool) (gl : Gl X "enumerate") (hm : X.mg "enumerate" = none) (hA : PA X [e] ta) (s1 : starEach [e] X.env = [(false, eval e X.env)]) :
    PI X (.Tuple es kk tp) (.Call (.Name "enumerate" p) [e] [] pos) (iEnumB X.K b ta) := ⟨fun pins s σ H R I h => by
  refine Call_ (ld_blt I gl hm boot_enumerate (PyProof.Rows.callWith_type1 (thn (hA.run pos pins s σ H _ I h) fun us st q => ?_) s1 rfl))
  obtain ⟨vs, H1, I1, rv, a, xs, ev, qa, q⟩ := q
  subst ev
  cases rv with
  | cons r rr =>
    cases rr
    cases r
    obtain ⟨ia, ra, pa⟩ := sqB_items I1 qa
    obtain ⟨o1, B1, w1⟩ := begins_b b a ia.toArray
    refine enum_made B1 pa fun h' z1 z2 kp => wpAny_pyIter_enum z1 ?_
    exact ⟨_, [st.heap.objs.size + 1, st.heap.objs.size], _, _, H1, rfl, I1.kept (t' := st.toks) kp, turn_enumB (objB_lt pa), ⟨⟨_, z1⟩, w1 _ _ z2⟩, fun c hb => by
      have le : st.heap.objs.size ≤ c := by
        simp only [List.mem_cons, List.not_mem_nil, or_false] at hb
        rcases hb with e | e <;> (rw [e]; first | exact Nat.le_refl _ | exact Nat.le_add_right _ _)
      exact I1.fpOk le (I1.hok.fresh le), q⟩⟩
section
variable {X : Cx} {G : List Sl} {α β : Type} [Enc α] [Enc β] {e : Expr} {N : List Str} {sc : Scope} {fs : Option Scope} {k : Nat} {p pos tpos : Pos} {elts : List Expr} {kk : Nat}
theorem it_enumT {o : Option (Tup α)} (C : Ctx X N sc fs k) (hg : glbB sc "enumerate" = true) (hm : X.mg "enumerate" = none) (h : ED X G e o) (hs : starEach [e] X.env = [(false, eval e X.env)] := by rfl) :
    IT X G (.Tuple elts kk tpos) (.Call (.Name "enumerate" p) [e] [] pos) (lift1 (fun t => enumL t.l) o) := fun l hl => by
  obtain ⟨t, h1, h2⟩ := lift1_get hl
  subst h2
  have pa : PA X [e] (tA X.K G [enc t]) := ad_cons h ad_nil hs _ (by rw [h1]; rfl)
  refine (pi_len (pi_enumB true (glbB_gl C.s hg).1 hm pa hs) fun σ H R R' w ⟨F, I, ps, r, q⟩ => ⟨F, I, ps, r, fun v H' I' g r' d => by obtain ⟨a, xs, e, z, q⟩ := q v H' I' g r' d; exact ⟨a, xs, e, z, w _ _ q⟩⟩).imp
    fun σ H R ⟨F, I, ps, r, q⟩ => ⟨F, I, ps, r, fun vs H' I' g r' d => ?_⟩
  cases d with
  | cons d1 d2 =>
    cases d2
    cases d1 with
    | tup k1 k2 =>
      have lx := k2.len
      rw [List.length_map] at lx
      refine ⟨_, _, rfl, (.inl (rd_mono r'.si k1)), fun lo => q _ _ I' g r' ⟨fun i d H s hd => ?_, fun H s => ⟨_, (.inl (rd_mono s k1)), ?_⟩⟩ ?_⟩
      · have hi : i < t.l.length := by
          have := (List.getElem?_eq_some_iff.mp hd).1
          rw [List.length_map, enumL_length] at this; exact this
        have hx := List.getElem?_eq_getElem hi
        rw [List.getElem?_map, enumL_get hx] at hd
        have hd := Option.some.inj hd
        subst hd
        obtain ⟨v, hv, dv⟩ := k2.at (show (t.l.map enc)[i]? = some (enc t.l[i]) by rw [List.getElem?_map, hx]; rfl)
        refine ⟨⟨_, v, (.inl (rd_mono s k1)), hv⟩, fun x H' y => ?_⟩
        obtain ⟨T, z, e1, e2, e3, e4⟩ := y
        have e5 := e4 _ (.inl (rd_mono s k1))
        rw [hv] at e5; cases e5
        subst e1
        exact .inr ⟨T, _, e2, e3, .tup (.inl upd_same) (.cons (.int _) (.cons (Dq_mono (same_upd (s.free e2)) _ _ dv) .nil))⟩
      · rw [lx, List.length_map, enumL_length]
      · rw [List.length_map, enumL_length]; have := (lo _ _).2 (.inl (rd_mono r'.si k1)); omega
theorem sw_nest {a1 a2 : List Expr} {k1 k2 k3 k4 : Nat} {p1 p2 p3 p4 : Pos} {env : Env} {a b : Expr} : swappedStores [.Tuple [.Tuple a1 k1 p1, .Tuple a2 k2 p2] k3 p3] (.Tuple [a, b] k4 p4) env = pure none := by
  unfold swappedStores
  simp only []
  split
  · rfl
  · split
    · rfl
    · split
      · rfl
      · rename_i h
        exact absurd h (by simp)
theorem OpR.either {op : Value → Value → Sem Value} {r1 r2 : R2} (h1 : OpR X op r1) (h2 : OpR X op r2) : OpR X op (fun x y H Q => r1 x y H Q ∨ r2 x y H Q) := fun pins s σ H x y v u Q I rx ry h => h.elim (h1 pins s σ H x y v u Q I rx ry) (h2 pins s σ H x y v u Q I rx ry)
/-- floor division, the divisor may be below 0 -/
def divN (i j : Int) : Option Int := if 0 < j ∧ j.natAbs.log2 < 9000 then some (i / j) else if j < 0 ∧ j.natAbs < 1073741824 then some (i.fdiv j) else none
theorem ed_fdivN {a b : Expr} {oa ob : Option Int} (ha : ED X G a oa) (hb : ED X G b ob) : ED X G (.BinOp a .FloorDiv b pos) (bind2 divN oa ob) :=
  ed_op2 (f := divN) (OpR.either op_fdivW op_fdivN) (fun x y z h => by
    unfold divN at h
    intro F G σ H I ps v w Q R hv hw q
    split at h
    · rename_i c; cases h
      exact .inl (Sem2.int (K := X.K) c F G σ H I ps v w Q R hv hw q)
    · obtain ⟨c, e⟩ := ite_get h
      subst e
      exact .inr (Sem2.int (K := X.K) (C := CDivN) (g := fun i j => i.fdiv j) ⟨by omega, c.2⟩ F G σ H I ps v w Q R hv hw q)) ha hb
/-- a range whose ends may be below 0 -/
def rng2N (i j : Int) : Option (List Int) := if (-1000000 ≤ i ∧ i ≤ 1000000) ∧ (-1000000 ≤ j ∧ j ≤ 1000000) then some (rngL i (j - i).toNat) else none
theorem it_rng2N {tg e2 : Expr} {o o2 : Option Int} (C : Ctx X N sc fs k) (hg : glbB sc "range" = true) (hm : X.mg "range" = none) (h : ED X G e o) (h' : ED X G e2 o2) (hs : starEach [e, e2] X.env = [(false, eval e X.env), (false, eval e2 X.env)] := by rfl) (hs2 : starEach [e2] X.env = [(false, eval e2 X.env)] := by rfl) :
    IT X G tg (.Call (.Name "range" p) [e, e2] [] pos) (bind2 rng2N o o2) := fun l hl => by
  obtain ⟨i, j, h1, h2, h3⟩ := bind2_get hl
  obtain ⟨hc, h3⟩ := ite_get h3
  subst h3
  refine (pi_range2 (glbB_gl C.s hg).1 hm (ad_cons h (ad_cons h' ad_nil hs2) (by rw [hs, hs2]) _ (by rw [h1, h2]; rfl)) hs hs2).imp fun σ H R ⟨F, I, ps, r, q⟩ => ⟨F, I, ps, r, fun vs H' I' g r' d => ?_⟩
  cases d with
  | cons d1 d2 =>
    cases d2 with
    | cons d2 d3 =>
      cases d3; cases d1; cases d2
      refine ⟨i, j, rfl, ⟨by omega, by omega, by omega, by omega⟩, q _ _ I' g r' wlk_rng (by rw [List.length_map, rngL_length, sizeLine_eq]; omega)⟩
end
end Lay

set_option Elab.async false
set_option linter.all false
set_option maxRecDepth 100000
namespace Lay.K36
open PySem PySem.Spec PyProof.Rows L2 Lay
open Lay.Enc (enc)
def b__law_draws (a_script : (List Int)) : Option (Out Unit Unit (List Int)) := (Option.bind (Option.bind (some ([] : List Int)) szG) fun (v_draws_1 : (List Int)) => (Option.bind (Option.bind (lift2 (fun i j => if j < i then j else i) (some (63 : Int)) (lift1 (fun l => (l.length : Int)) (some a_script))) rng1) fun l => bindOut (forL (fun (s2 : (List Int)) (y3 : Int) => (Option.bind (lift1 (fun i => if i < 0 then -i else i) (Option.bind (some y3) fun j => atI a_script j)) fun (v_rest_4 : Int) => (Option.bind (lift2 (fun i j => decide (j ≤ i)) (some v_rest_4) (bind2 powG (some (10 : Int)) (some (18 : Int)))) fun t => bindOut (bif t then (Option.bind (Option.bind (some (60 : Int)) rng1) fun l => bindOut (forL (fun (s6 : ((List Int) × Int)) (y7 : Int) => (Option.bind (lift2 (fun i j => decide (j < i)) (some s6.2) (some (0 : Int))) fun t => bindOut (bif t then (Option.bind (Option.bind (bind2 modG (some s6.2) (some (65536 : Int))) (appG s6.1)) fun (v9 : (List Int)) => (Option.bind (bind2 divG (some s6.2) (some (65536 : Int))) fun (v_rest_10 : Int) => (some (Out.nx (v9, v_rest_10))))) else (some (Out.nx (s6.1, s6.2)))) fun (s8 : ((List Int) × Int)) => (some (Out.nx (s8.1, s8.2))))) (s2, v_rest_4) l) fun (s6 : ((List Int) × Int)) => (some (Out.nx s6.1))) else (Option.bind (bind2 modG (lift2 (· + ·) (bind2 mulG (some v_rest_4) (some (48271 : Int))) (bind2 mulG (lift2 (· + ·) (some y3) (some (1 : Int))) (some (69621 : Int)))) (some (2147483647 : Int))) fun (v_mixed_11 : Int) => (Option.bind (bind2 modG (lift2 (· + ·) (lift2 (· + ·) (bind2 mulG (some v_mixed_11) (some (16807 : Int))) (bind2 mulG (some (11 : Int)) (some y3))) (some (5 : Int))) (some (2147483629 : Int))) fun (v_mixed_12 : Int) => (Option.bind (Option.bind (bind2 modG (some v_mixed_12) (some (65536 : Int))) (appG s2)) fun (v13 : (List Int)) => (Option.bind (Option.bind (bind2 modG (bind2 divG (some v_mixed_12) (some (65536 : Int))) (some (32768 : Int))) (appG v13)) fun (v14 : (List Int)) => (some (Out.nx v14))))))) fun (s5 : (List Int)) => (some (Out.nx s5))))) v_draws_1 l) fun (s2 : (List Int)) => (Option.bind (some s2) fun r => some (Out.rt r))))
def m__law_draws (a_script : (List Int)) : Option (List Int) := finO none (b__law_draws a_script)
def b__law_low (a_n : Int) (a_d : Int) : Option (Out Unit Unit (T2 Int Int)) := (Option.bind (lift1 (fun i => if i < 0 then -i else i) (some a_n)) fun (v_one_1 : Int) => Option.bind (lift1 (fun i => if i < 0 then -i else i) (some a_d)) fun (v_two_2 : Int) => (bindOut (whileF (fun (s3 : (Int × Int)) => (lift2 (fun i j => !decide (i = j)) (some s3.2) (some (0 : Int)))) (fun (s3 : (Int × Int)) => (Option.bind (some s3.2) fun (v_one_4 : Int) => Option.bind (bind2 modG (some s3.1) (some s3.2)) fun (v_two_5 : Int) => (some (Out.nx (v_one_4, v_two_5))))) (v_one_1.natAbs + v_two_2.natAbs + 2) (v_one_1, v_two_2)) fun (s3 : (Int × Int)) => (Option.bind (lift2 (fun i j => decide (i < j)) (some a_d) (some (0 : Int))) fun t => bindOut (bif t then (Option.bind (lift1 (fun i => -i) (some s3.1)) fun (v_one_7 : Int) => (some (Out.nx v_one_7))) else (some (Out.nx s3.1))) fun (s6 : Int) => (Option.bind (lift2 T2.mk (bind2 divN (some a_n) (some s6)) (bind2 divN (some a_d) (some s6))) fun r => some (Out.rt r)))))
def m__law_low (a_n : Int) (a_d : Int) : Option (T2 Int Int) := finO none (b__law_low a_n a_d)
def b__law_less (a_one : (T2 Int Int)) (a_two : (T2 Int Int)) : Option (Out Unit Unit Bool) := (Option.bind (lift2 (fun i j => decide (i < j)) (bind2 mulG (lift1 T2.a (some a_one)) (lift1 T2.b (some a_two))) (bind2 mulG (lift1 T2.a (some a_two)) (lift1 T2.b (some a_one)))) fun r => some (Out.rt r))
def m__law_less (a_one : (T2 Int Int)) (a_two : (T2 Int Int)) : Option Bool := finO none (b__law_less a_one a_two)
def b__law_at (a_numbers : (T2 Int Int)) (a_spot : (T2 (T2 Int Int) (T2 Int Int))) : Option (Out Unit Unit (T2 Int Int)) := (Option.bind (app2 m__law_low (lift2 (· + ·) (bind2 mulG (bind2 mulG (lift1 T2.a (some a_numbers)) (lift1 T2.a (lift1 T2.a (some a_spot)))) (lift1 T2.b (lift1 T2.b (some a_spot)))) (bind2 mulG (bind2 mulG (lift1 T2.b (some a_numbers)) (lift1 T2.a (lift1 T2.b (some a_spot)))) (lift1 T2.b (lift1 T2.a (some a_spot))))) (bind2 mulG (lift1 T2.b (lift1 T2.a (some a_spot))) (lift1 T2.b (lift1 T2.b (some a_spot))))) fun r => some (Out.rt r))
def m__law_at (a_numbers : (T2 Int Int)) (a_spot : (T2 (T2 Int Int) (T2 Int Int))) : Option (T2 Int Int) := finO none (b__law_at a_numbers a_spot)
def b__law_corners (a_system : (List (T2 (T2 Int Int) Int))) : Option (Out Unit Unit (List (T2 (T2 Int Int) (T2 Int Int)))) := (Option.bind (Option.bind (some ([] : List (T2 (T2 Int Int) (T2 Int Int)))) szG) fun (v_found_1 : (List (T2 (T2 Int Int) (T2 Int Int)))) => (Option.bind (Option.bind (lift1 (fun l => (l.length : Int)) (some a_system)) rng1) fun l => bindOut (forL (fun (s2 : (List (T2 (T2 Int Int) (T2 Int Int)))) (y3 : Int) => (Option.bind (Option.bind (some y3) rng1) fun l => bindOut (forL (fun (s4 : (List (T2 (T2 Int Int) (T2 Int Int)))) (y5 : Int) => (Option.bind (bind2 atI (some a_system) (some y3)) fun (u6 : (T2 (T2 Int Int) Int)) => (Option.bind (bind2 atI (some a_system) (some y5)) fun (u7 : (T2 (T2 Int Int) Int)) => (Option.bind (lift2 (fun i j => !decide (i = j)) (bind2 mulG (some u6.a.a) (some u7.a.b)) (bind2 mulG (some u6.a.b) (some u7.a.a))) fun t => bindOut (bif t then (Option.bind (lift2 T2.mk (app2 m__law_low (lift2 (· - ·) (bind2 mulG (some u6.b) (some u7.a.b)) (bind2 mulG (some u6.a.b) (some u7.b))) (lift2 (· - ·) (bind2 mulG (some u6.a.a) (some u7.a.b)) (bind2 mulG (some u6.a.b) (some u7.a.a)))) (app2 m__law_low (lift2 (· - ·) (bind2 mulG (some u6.a.a) (some u7.b)) (bind2 mulG (some u6.b) (some u7.a.a))) (lift2 (· - ·) (bind2 mulG (some u6.a.a) (some u7.a.b)) (bind2 mulG (some u6.a.b) (some u7.a.a))))) fun (v_spot_9 : (T2 (T2 Int Int) (T2 Int Int))) => (Option.bind (andG (lift2 (fun x l => !decide (x ∈ l)) (some v_spot_9) (some s4)) (lift2 (fun x y => decide (x = y)) (Option.bind (some a_system) (lcL (fun (x10 : (T2 (T2 Int Int) Int)) => (app2 m__law_less (lift2 T2.mk (lift1 T2.b (some x10)) (some (1 : Int))) (app2 m__law_at (lift1 T2.a (some x10)) (some v_spot_9)))) (fun (x10 : (T2 (T2 Int Int) Int)) => (some x10)))) (Option.bind (some ([] : List (T2 (T2 Int Int) Int))) szG))) fun t => bindOut (bif t then (Option.bind (lift1 (fun l => (l.length : Int)) (Option.bind (some s4) (lcL (fun (x13 : (T2 (T2 Int Int) (T2 Int Int))) => (orG (app2 m__law_less (lift1 T2.a (some x13)) (lift1 T2.a (some v_spot_9))) (andG (lift2 (fun x y => decide (x = y)) (lift1 T2.a (some x13)) (lift1 T2.a (some v_spot_9))) (app2 m__law_less (lift1 T2.b (some x13)) (lift1 T2.b (some v_spot_9)))))) (fun (x13 : (T2 (T2 Int Int) (T2 Int Int))) => (some x13))))) fun (v_place_12 : Int) => (Option.bind (bind2 catG (bind2 catG (lift3 cutL (some s4) (some none) (lift1 some (some v_place_12))) (Option.bind (lift2 List.cons (some v_spot_9) (some ([] : List (T2 (T2 Int Int) (T2 Int Int))))) szG)) (lift3 cutL (some s4) (lift1 some (some v_place_12)) (some none))) fun (v_found_14 : (List (T2 (T2 Int Int) (T2 Int Int)))) => (some (Out.nx v_found_14)))) else (some (Out.nx s4))) fun (s11 : (List (T2 (T2 Int Int) (T2 Int Int)))) => (some (Out.nx s11)))) else (some (Out.nx s4))) fun (s8 : (List (T2 (T2 Int Int) (T2 Int Int)))) => (some (Out.nx s8)))))) s2 l) fun (s4 : (List (T2 (T2 Int Int) (T2 Int Int)))) => (some (Out.nx s4)))) v_found_1 l) fun (s2 : (List (T2 (T2 Int Int) (T2 Int Int)))) => (Option.bind (some s2) fun r => some (Out.rt r))))
def m__law_corners (a_system : (List (T2 (T2 Int Int) Int))) : Option (List (T2 (T2 Int Int) (T2 Int Int))) := finO none (b__law_corners a_system)
def b_is_endless (a_system : (List (T2 (T2 Int Int) Int))) : Option (Out Unit Unit Bool) := (Option.bind (some a_system) fun l => bindOut (forL (fun (s1 : Unit) (y2 : (T2 (T2 Int Int) Int)) => (Option.bind (lift1 Tup.l (lift1 tp2 (lift2 T2.mk (lift2 T2.mk (lift1 (fun i => -i) (some y2.a.b)) (some y2.a.a)) (lift2 T2.mk (some y2.a.b) (lift1 (fun i => -i) (some y2.a.a)))))) fun l => bindOut (forL (fun (s3 : Unit) (y4 : (T2 Int Int)) => (Option.bind (lift1 (fun l => l.all id) (Option.bind (some a_system) (lcL (fun (x5 : (T2 (T2 Int Int) Int)) => (some true)) (fun (x5 : (T2 (T2 Int Int) Int)) => (lift2 (fun i j => decide (i ≤ j)) (lift2 (· + ·) (bind2 mulG (some x5.a.a) (some y4.a)) (bind2 mulG (some x5.a.b) (some y4.b))) (some (0 : Int))))))) fun t => bindOut (bif t then (Option.bind (some true) fun r => some (Out.rt r)) else (some (Out.nx ()))) fun (s6 : Unit) => (some (Out.nx ())))) () l) fun (s3 : Unit) => (some (Out.nx ())))) () l) fun (s1 : Unit) => (Option.bind (some false) fun r => some (Out.rt r)))
def m_is_endless (a_system : (List (T2 (T2 Int Int) Int))) : Option Bool := finO none (b_is_endless a_system)
def b_fraction (a_number : Int) (a_by : Int) : Option (Out Unit Unit (T2 Int Int)) := (Option.bind (lift2 (fun i j => decide (i < j)) (some a_by) (some (0 : Int))) fun t => bindOut (bif t then (Option.bind (lift1 (fun i => -i) (some a_number)) fun (v_number_2 : Int) => Option.bind (lift1 (fun i => -i) (some a_by)) fun (v_by_3 : Int) => (some (Out.nx (v_number_2, v_by_3)))) else (some (Out.nx (a_number, a_by)))) fun (s1 : (Int × Int)) => (Option.bind (lift2 gcdI (some s1.1) (some s1.2)) fun (v_common_4 : Int) => (Option.bind (lift2 T2.mk (bind2 divG (some s1.1) (some v_common_4)) (bind2 divG (some s1.2) (some v_common_4))) fun r => some (Out.rt r))))
def m_fraction (a_number : Int) (a_by : Int) : Option (T2 Int Int) := finO none (b_fraction a_number a_by)
def b_minus (a_one : (T2 Int Int)) (a_two : (T2 Int Int)) : Option (Out Unit Unit (T2 Int Int)) := (Option.bind (app2 m_fraction (lift2 (· - ·) (bind2 mulG (lift1 T2.a (some a_one)) (lift1 T2.b (some a_two))) (bind2 mulG (lift1 T2.a (some a_two)) (lift1 T2.b (some a_one)))) (bind2 mulG (lift1 T2.b (some a_one)) (lift1 T2.b (some a_two)))) fun r => some (Out.rt r))
def m_minus (a_one : (T2 Int Int)) (a_two : (T2 Int Int)) : Option (T2 Int Int) := finO none (b_minus a_one a_two)
def b_times (a_one : (T2 Int Int)) (a_two : (T2 Int Int)) : Option (Out Unit Unit (T2 Int Int)) := (Option.bind (app2 m_fraction (bind2 mulG (lift1 T2.a (some a_one)) (lift1 T2.a (some a_two))) (bind2 mulG (lift1 T2.b (some a_one)) (lift1 T2.b (some a_two)))) fun r => some (Out.rt r))
def m_times (a_one : (T2 Int Int)) (a_two : (T2 Int Int)) : Option (T2 Int Int) := finO none (b_times a_one a_two)
def b_is_wide (a_spots : (List (T2 (T2 Int Int) (T2 Int Int)))) : Option (Out Unit Unit Bool) := (Option.bind (some a_spots) fun l => bindOut (forL (fun (s1 : Unit) (y2 : (T2 (T2 Int Int) (T2 Int Int))) => (Option.bind (some a_spots) fun l => bindOut (forL (fun (s3 : Unit) (y4 : (T2 (T2 Int Int) (T2 Int Int))) => (Option.bind (lift2 T2.mk (app2 m_minus (lift1 T2.a (some y2)) (lift1 T2.a (bind2 atI (some a_spots) (some (0 : Int))))) (app2 m_minus (lift1 T2.b (some y2)) (lift1 T2.b (bind2 atI (some a_spots) (some (0 : Int)))))) fun (v_gap_5 : (T2 (T2 Int Int) (T2 Int Int))) => (Option.bind (lift2 T2.mk (app2 m_minus (lift1 T2.a (some y4)) (lift1 T2.a (bind2 atI (some a_spots) (some (0 : Int))))) (app2 m_minus (lift1 T2.b (some y4)) (lift1 T2.b (bind2 atI (some a_spots) (some (0 : Int)))))) fun (v_other_6 : (T2 (T2 Int Int) (T2 Int Int))) => (Option.bind (lift2 (fun x y => !decide (x = y)) (app2 m_times (lift1 T2.a (some v_gap_5)) (lift1 T2.b (some v_other_6))) (app2 m_times (lift1 T2.b (some v_gap_5)) (lift1 T2.a (some v_other_6)))) fun t => bindOut (bif t then (Option.bind (some true) fun r => some (Out.rt r)) else (some (Out.nx ()))) fun (s7 : Unit) => (some (Out.nx ())))))) () l) fun (s3 : Unit) => (some (Out.nx ())))) () l) fun (s1 : Unit) => (Option.bind (some false) fun r => some (Out.rt r)))
def m_is_wide (a_spots : (List (T2 (T2 Int Int) (T2 Int Int)))) : Option Bool := finO none (b_is_wide a_spots)
def b_crossing (a_one : (T2 (T2 Int Int) Int)) (a_two : (T2 (T2 Int Int) Int)) : Option (Out Unit Unit (Option (T2 (T2 Int Int) (T2 Int Int)))) := (Option.bind (some a_one) fun (u1 : (T2 (T2 Int Int) Int)) => (Option.bind (some a_two) fun (u2 : (T2 (T2 Int Int) Int)) => (Option.bind (lift2 (· - ·) (bind2 mulG (some u1.a.a) (some u2.a.b)) (bind2 mulG (some u1.a.b) (some u2.a.a))) fun (v_whole_3 : Int) => (Option.bind (lift2 (fun i j => decide (i = j)) (some v_whole_3) (some (0 : Int))) fun t => bindOut (bif t then (Option.bind (some (none : (Option (T2 (T2 Int Int) (T2 Int Int))))) fun r => some (Out.rt r)) else (some (Out.nx ()))) fun (s4 : Unit) => (Option.bind (lift1 (some : (T2 (T2 Int Int) (T2 Int Int)) → Option (T2 (T2 Int Int) (T2 Int Int))) (lift2 T2.mk (app2 m_fraction (lift2 (· - ·) (bind2 mulG (some u1.b) (some u2.a.b)) (bind2 mulG (some u1.a.b) (some u2.b))) (some v_whole_3)) (app2 m_fraction (lift2 (· - ·) (bind2 mulG (some u1.a.a) (some u2.b)) (bind2 mulG (some u1.b) (some u2.a.a))) (some v_whole_3)))) fun r => some (Out.rt r))))))
def m_crossing (a_one : (T2 (T2 Int Int) Int)) (a_two : (T2 (T2 Int Int) Int)) : Option (Option (T2 (T2 Int Int) (T2 Int Int))) := finO none (b_crossing a_one a_two)
def b_is_less (a_one : (T2 Int Int)) (a_two : (T2 Int Int)) : Option (Out Unit Unit Bool) := (Option.bind (lift2 (fun i j => decide (i < j)) (bind2 mulG (lift1 T2.a (some a_one)) (lift1 T2.b (some a_two))) (bind2 mulG (lift1 T2.a (some a_two)) (lift1 T2.b (some a_one)))) fun r => some (Out.rt r))
def m_is_less (a_one : (T2 Int Int)) (a_two : (T2 Int Int)) : Option Bool := finO none (b_is_less a_one a_two)
def b_plus (a_one : (T2 Int Int)) (a_two : (T2 Int Int)) : Option (Out Unit Unit (T2 Int Int)) := (Option.bind (app2 m_fraction (lift2 (· + ·) (bind2 mulG (lift1 T2.a (some a_one)) (lift1 T2.b (some a_two))) (bind2 mulG (lift1 T2.a (some a_two)) (lift1 T2.b (some a_one)))) (bind2 mulG (lift1 T2.b (some a_one)) (lift1 T2.b (some a_two)))) fun r => some (Out.rt r))
def m_plus (a_one : (T2 Int Int)) (a_two : (T2 Int Int)) : Option (T2 Int Int) := finO none (b_plus a_one a_two)
def b_sum_at (a_numbers : (T2 Int Int)) (a_spot : (Option (T2 (T2 Int Int) (T2 Int Int)))) : Option (Out Unit Unit (T2 Int Int)) := (Option.bind (app2 m_plus (app2 m_times (lift2 T2.mk (lift1 T2.a (some a_numbers)) (some (1 : Int))) (lift1 T2.a (Option.bind (some a_spot) id))) (app2 m_times (lift2 T2.mk (lift1 T2.b (some a_numbers)) (some (1 : Int))) (lift1 T2.b (Option.bind (some a_spot) id)))) fun r => some (Out.rt r))
def m_sum_at (a_numbers : (T2 Int Int)) (a_spot : (Option (T2 (T2 Int Int) (T2 Int Int)))) : Option (T2 Int Int) := finO none (b_sum_at a_numbers a_spot)
def b_is_in (a_system : (List (T2 (T2 Int Int) Int))) (a_spot : (Option (T2 (T2 Int Int) (T2 Int Int)))) : Option (Out Unit Unit Bool) := (Option.bind (lift1 (fun x => !x) (lift1 (fun l => l.any id) (Option.bind (some a_system) (lcL (fun (x1 : (T2 (T2 Int Int) Int)) => (some true)) (fun (x1 : (T2 (T2 Int Int) Int)) => (app2 m_is_less (lift2 T2.mk (some x1.b) (some (1 : Int))) (app2 m_sum_at (some x1.a) (some a_spot)))))))) fun r => some (Out.rt r))
def m_is_in (a_system : (List (T2 (T2 Int Int) Int))) (a_spot : (Option (T2 (T2 Int Int) (T2 Int Int)))) : Option Bool := finO none (b_is_in a_system a_spot)
def b_precedes (a_one : (T2 (T2 Int Int) (T2 Int Int))) (a_two : (Option (T2 (T2 Int Int) (T2 Int Int)))) : Option (Out Unit Unit Bool) := (Option.bind (orG (app2 m_is_less (lift1 T2.a (some a_one)) (lift1 T2.a (Option.bind (some a_two) id))) (andG (lift2 (fun x y => decide (x = y)) (lift1 T2.a (some a_one)) (lift1 T2.a (Option.bind (some a_two) id))) (app2 m_is_less (lift1 T2.b (some a_one)) (lift1 T2.b (Option.bind (some a_two) id))))) fun r => some (Out.rt r))
def m_precedes (a_one : (T2 (T2 Int Int) (T2 Int Int))) (a_two : (Option (T2 (T2 Int Int) (T2 Int Int)))) : Option Bool := finO none (b_precedes a_one a_two)
def b_corners_of (a_system : (List (T2 (T2 Int Int) Int))) : Option (Out Unit Unit (List (T2 (T2 Int Int) (T2 Int Int)))) := (Option.bind (Option.bind (some ([] : List (T2 (T2 Int Int) (T2 Int Int)))) szG) fun (v_found_1 : (List (T2 (T2 Int Int) (T2 Int Int)))) => (Option.bind (lift1 enumL (some a_system)) fun l => bindOut (forL (fun (s2 : (List (T2 (T2 Int Int) (T2 Int Int)))) (y3 : (T2 Int (T2 (T2 Int Int) Int))) => (Option.bind (lift3 cutL (some a_system) (some none) (lift1 some (some y3.a))) fun l => bindOut (forL (fun (s4 : (List (T2 (T2 Int Int) (T2 Int Int)))) (y5 : (T2 (T2 Int Int) Int)) => (Option.bind (app2 m_crossing (some y3.b) (some y5)) fun (v_spot_6 : (Option (T2 (T2 Int Int) (T2 Int Int)))) => (Option.bind (andG (lift1 Option.isSome (some v_spot_6)) (andG (lift2 (fun x l => !decide (x ∈ l)) (Option.bind (some v_spot_6) id) (some s4)) (app2 m_is_in (some a_system) (some v_spot_6)))) fun t => bindOut (bif t then (Option.bind (lift1 (fun l => (l.length : Int)) (Option.bind (some s4) (lcL (fun (x9 : (T2 (T2 Int Int) (T2 Int Int))) => (app2 m_precedes (some x9) (some v_spot_6))) (fun (x9 : (T2 (T2 Int Int) (T2 Int Int))) => (some x9))))) fun (v_at_8 : Int) => (Option.bind (bind2 catG (bind2 catG (lift3 cutL (some s4) (some none) (lift1 some (some v_at_8))) (Option.bind (lift2 List.cons (Option.bind (some v_spot_6) id) (some ([] : List (T2 (T2 Int Int) (T2 Int Int))))) szG)) (lift3 cutL (some s4) (lift1 some (some v_at_8)) (some none))) fun (v_found_10 : (List (T2 (T2 Int Int) (T2 Int Int)))) => (some (Out.nx v_found_10)))) else (some (Out.nx s4))) fun (s7 : (List (T2 (T2 Int Int) (T2 Int Int)))) => (some (Out.nx s7))))) s2 l) fun (s4 : (List (T2 (T2 Int Int) (T2 Int Int)))) => (some (Out.nx s4)))) v_found_1 l) fun (s2 : (List (T2 (T2 Int Int) (T2 Int Int)))) => (Option.bind (some s2) fun r => some (Out.rt r))))
def m_corners_of (a_system : (List (T2 (T2 Int Int) Int))) : Option (List (T2 (T2 Int Int) (T2 Int Int))) := finO none (b_corners_of a_system)
def b_check_system (a_system : (List (T2 (T2 Int Int) Int))) : Option (Out Unit Unit Unit) := (Option.bind (lift1 (fun x => !x) (chainG cLe cLe (some (3 : Int)) (lift1 (fun l => (l.length : Int)) (some a_system)) (some (8 : Int)))) fun t => bindOut (bif t then none else (some (Out.nx ()))) fun (s1 : Unit) => (Option.bind (lift1 enumL (some a_system)) fun l => bindOut (forL (fun (s2 : Unit) (y3 : (T2 Int (T2 (T2 Int Int) Int))) => (Option.bind (orG (lift2 (fun x y => decide (x = y)) (some y3.b.a) (lift2 T2.mk (some (0 : Int)) (some (0 : Int)))) (lift1 (fun x => !x) (lift1 (fun l => l.all id) (Option.bind (lift1 Tup.l (lift1 tp2 (some y3.b.a))) (lcL (fun (x4 : Int) => (some true)) (fun (x4 : Int) => (chainG cLe cLe (lift1 (fun i => -i) (some (10 : Int))) (some x4) (some (10 : Int))))))))) fun t => bindOut (bif t then none else (some (Out.nx ()))) fun (s5 : Unit) => (Option.bind (lift1 (fun x => !x) (chainG cLe cLe (lift1 (fun i => -i) (some (100 : Int))) (some y3.b.b) (some (100 : Int)))) fun t => bindOut (bif t then none else (some (Out.nx ()))) fun (s6 : Unit) => (some (Out.nx ()))))) () l) fun (s2 : Unit) => (Option.bind (orG (app1 m_is_endless (some a_system)) (lift1 (fun x => !x) (app1 m_is_wide (app1 m_corners_of (some a_system))))) fun t => bindOut (bif t then none else (some (Out.nx ()))) fun (s7 : Unit) => (some (Out.nx ())))))
def m_check_system (a_system : (List (T2 (T2 Int Int) Int))) : Option Unit := finO (some ()) (b_check_system a_system)
def b_side (a_one : (T2 Int Int)) (a_two : (T2 Int Int)) : Option (Out Unit Unit Int) := (Option.bind (lift2 (· - ·) (bind2 mulG (lift1 T2.a (some a_one)) (lift1 T2.b (some a_two))) (bind2 mulG (lift1 T2.b (some a_one)) (lift1 T2.a (some a_two)))) fun r => some (Out.rt r))
def m_side (a_one : (T2 Int Int)) (a_two : (T2 Int Int)) : Option Int := finO none (b_side a_one a_two)
def b_in_cone (a_ends : (T2 (T2 Int Int) (T2 Int Int))) (a_told : (T2 Int Int)) : Option (Out Unit Unit Bool) := (Option.bind (andG (lift2 (fun i j => decide (j ≤ i)) (app2 m_side (lift1 T2.a (some a_ends)) (some a_told)) (some (0 : Int))) (lift2 (fun i j => decide (j ≤ i)) (app2 m_side (some a_told) (lift1 T2.b (some a_ends))) (some (0 : Int)))) fun r => some (Out.rt r))
def m_in_cone (a_ends : (T2 (T2 Int Int) (T2 Int Int))) (a_told : (T2 Int Int)) : Option Bool := finO none (b_in_cone a_ends a_told)
def b_plain_of (a_ends : (T2 (T2 Int Int) (T2 Int Int))) : Option (Out Unit Unit (List (T2 Int Int))) := (Option.bind (some a_ends) fun (u1 : (T2 (T2 Int Int) (T2 Int Int))) => (Option.bind (app2 m_side (some u1.a) (some u1.b)) fun (v_whole_2 : Int) => (Option.bind (Option.bind (lift2 List.cons (lift2 T2.mk (some (0 : Int)) (some (0 : Int))) (lift2 List.cons (some u1.a) (lift2 List.cons (some u1.b) (lift2 List.cons (lift2 T2.mk (lift2 (· + ·) (lift1 T2.a (some u1.a)) (lift1 T2.a (some u1.b))) (lift2 (· + ·) (lift1 T2.b (some u1.a)) (lift1 T2.b (some u1.b)))) (some ([] : List (T2 Int Int))))))) szG) fun (v_corners_3 : (List (T2 Int Int))) => (Option.bind (Option.bind (some ([] : List (T2 Int Int))) szG) fun (v_found_4 : (List (T2 Int Int))) => (Option.bind (bind2 rng2N (Option.bind (Option.bind (some v_corners_3) (lcL (fun (x5 : (T2 Int Int)) => (some true)) (fun (x5 : (T2 Int Int)) => (lift1 T2.a (some x5))))) minL) (lift2 (· + ·) (Option.bind (Option.bind (some v_corners_3) (lcL (fun (x6 : (T2 Int Int)) => (some true)) (fun (x6 : (T2 Int Int)) => (lift1 T2.a (some x6))))) maxL) (some (1 : Int)))) fun l => bindOut (forL (fun (s7 : (List (T2 Int Int))) (y8 : Int) => (Option.bind (bind2 rng2N (Option.bind (Option.bind (some v_corners_3) (lcL (fun (x9 : (T2 Int Int)) => (some true)) (fun (x9 : (T2 Int Int)) => (lift1 T2.b (some x9))))) minL) (lift2 (· + ·) (Option.bind (Option.bind (some v_corners_3) (lcL (fun (x10 : (T2 Int Int)) => (some true)) (fun (x10 : (T2 Int Int)) => (lift1 T2.b (some x10))))) maxL) (some (1 : Int)))) fun l => bindOut (forL (fun (s11 : (List (T2 Int Int))) (y12 : Int) => (Option.bind (lift2 T2.mk (some y8) (some y12)) fun (v_one_13 : (T2 Int Int)) => (Option.bind (andG (lift2 (fun x y => !decide (x = y)) (some v_one_13) (lift2 T2.mk (some (0 : Int)) (some (0 : Int)))) (andG (chainG cLe cLe (some (0 : Int)) (app2 m_side (some v_one_13) (some u1.b)) (some v_whole_2)) (chainG cLe cLe (some (0 : Int)) (app2 m_side (some u1.a) (some v_one_13)) (some v_whole_2)))) fun t => bindOut (bif t then (Option.bind (Option.bind (some v_one_13) (appG s11)) fun (v15 : (List (T2 Int Int))) => (some (Out.nx v15))) else (some (Out.nx s11))) fun (s14 : (List (T2 Int Int))) => (some (Out.nx s14))))) s7 l) fun (s11 : (List (T2 Int Int))) => (some (Out.nx s11)))) v_found_4 l) fun (s7 : (List (T2 Int Int))) => (Option.bind (Option.bind (some ([] : List (T2 Int Int))) szG) fun (v_plain_16 : (List (T2 Int Int))) => (Option.bind (some s7) fun l => bindOut (forL (fun (s17 : (List (T2 Int Int))) (y18 : (T2 Int Int)) => (Option.bind (Option.bind (some s7) (lcL (fun (x20 : (T2 Int Int)) => (lift2 (fun x y => !decide (x = y)) (some x20) (some y18))) (fun (x20 : (T2 Int Int)) => (lift2 T2.mk (lift2 (· - ·) (lift1 T2.a (some y18)) (lift1 T2.a (some x20))) (lift2 (· - ·) (lift1 T2.b (some y18)) (lift1 T2.b (some x20))))))) fun (v_rests_19 : (List (T2 Int Int))) => (Option.bind (lift1 (fun x => !x) (lift1 (fun l => l.any id) (Option.bind (some v_rests_19) (lcL (fun (x21 : (T2 Int Int)) => (some true)) (fun (x21 : (T2 Int Int)) => (andG (lift2 (fun x y => !decide (x = y)) (some x21) (lift2 T2.mk (some (0 : Int)) (some (0 : Int)))) (app2 m_in_cone (some a_ends) (some x21)))))))) fun t => bindOut (bif t then (Option.bind (Option.bind (some y18) (appG s17)) fun (v23 : (List (T2 Int Int))) => (some (Out.nx v23))) else (some (Out.nx s17))) fun (s22 : (List (T2 Int Int))) => (some (Out.nx s22))))) v_plain_16 l) fun (s17 : (List (T2 Int Int))) => (Option.bind (Option.bind (some s17) sortD) fun r => some (Out.rt r)))))))))
def m_plain_of (a_ends : (T2 (T2 Int Int) (T2 Int Int))) : Option (List (T2 Int Int)) := finO none (b_plain_of a_ends)
def b_sum_at__2 (a_numbers : (T2 Int Int)) (a_spot : (T2 (T2 Int Int) (T2 Int Int))) : Option (Out Unit Unit (T2 Int Int)) := (Option.bind (app2 m_plus (app2 m_times (lift2 T2.mk (lift1 T2.a (some a_numbers)) (some (1 : Int))) (lift1 T2.a (some a_spot))) (app2 m_times (lift2 T2.mk (lift1 T2.b (some a_numbers)) (some (1 : Int))) (lift1 T2.b (some a_spot)))) fun r => some (Out.rt r))
def m_sum_at__2 (a_numbers : (T2 Int Int)) (a_spot : (T2 (T2 Int Int) (T2 Int Int))) : Option (T2 Int Int) := finO none (b_sum_at__2 a_numbers a_spot)
def b_tight_at (a_system : (List (T2 (T2 Int Int) Int))) (a_spot : (T2 (T2 Int Int) (T2 Int Int))) : Option (Out Unit Unit (List Int)) := (Option.bind (Option.bind (lift1 enumL (some a_system)) (lcL (fun (x1 : (T2 Int (T2 (T2 Int Int) Int))) => (lift2 (fun x y => decide (x = y)) (app2 m_sum_at__2 (some x1.b.a) (some a_spot)) (lift2 T2.mk (some x1.b.b) (some (1 : Int))))) (fun (x1 : (T2 Int (T2 (T2 Int Int) Int))) => (some x1.a)))) fun r => some (Out.rt r))
def m_tight_at (a_system : (List (T2 (T2 Int Int) Int))) (a_spot : (T2 (T2 Int Int) (T2 Int Int))) : Option (List Int) := finO none (b_tight_at a_system a_spot)
def b_ends_of (a_system : (List (T2 (T2 Int Int) Int))) (a_spot : (T2 (T2 Int Int) (T2 Int Int))) : Option (Out Unit Unit (T2 (T2 Int Int) (T2 Int Int))) := (Option.bind (Option.bind (some ([] : List (T2 Int Int))) szG) fun (v_own_1 : (List (T2 Int Int))) => (Option.bind (app2 m_tight_at (some a_system) (some a_spot)) fun l => bindOut (forL (fun (s2 : (List (T2 Int Int))) (y3 : Int) => (Option.bind (bind2 atI (some a_system) (some y3)) fun (u4 : (T2 (T2 Int Int) Int)) => (Option.bind (lift2 gcdI (some u4.a.a) (some u4.a.b)) fun (v_common_5 : Int) => (Option.bind (Option.bind (lift2 T2.mk (bind2 divG (some u4.a.a) (some v_common_5)) (bind2 divG (some u4.a.b) (some v_common_5))) (appG s2)) fun (v6 : (List (T2 Int Int))) => (some (Out.nx v6)))))) v_own_1 l) fun (s2 : (List (T2 Int Int))) => (Option.bind (bind2 atI (Option.bind (some s2) (lcL (fun (x8 : (T2 Int Int)) => (lift1 (fun l => l.all id) (Option.bind (some s2) (lcL (fun (x9 : (T2 Int Int)) => (some true)) (fun (x9 : (T2 Int Int)) => (lift2 (fun i j => decide (j ≤ i)) (app2 m_side (some x8) (some x9)) (some (0 : Int)))))))) (fun (x8 : (T2 Int Int)) => (some x8)))) (some (0 : Int))) fun (v_first_7 : (T2 Int Int)) => (Option.bind (bind2 atI (Option.bind (some s2) (lcL (fun (x11 : (T2 Int Int)) => (lift1 (fun l => l.all id) (Option.bind (some s2) (lcL (fun (x12 : (T2 Int Int)) => (some true)) (fun (x12 : (T2 Int Int)) => (lift2 (fun i j => decide (j ≤ i)) (app2 m_side (some x12) (some x11)) (some (0 : Int)))))))) (fun (x11 : (T2 Int Int)) => (some x11)))) (some (0 : Int))) fun (v_last_10 : (T2 Int Int)) => (Option.bind (lift2 T2.mk (some v_first_7) (some v_last_10)) fun r => some (Out.rt r))))))
def m_ends_of (a_system : (List (T2 (T2 Int Int) Int))) (a_spot : (T2 (T2 Int Int) (T2 Int Int))) : Option (T2 (T2 Int Int) (T2 Int Int)) := finO none (b_ends_of a_system a_spot)
def b_full_rows (a_system : (List (T2 (T2 Int Int) Int))) : Option (Out Unit Unit (List (T2 (T2 Int Int) (T2 Int Int)))) := (Option.bind (app1 m_check_system (some a_system)) fun _ => (Option.bind (Option.bind (some ([] : List (T2 (T2 Int Int) (T2 Int Int)))) szG) fun (v_found_1 : (List (T2 (T2 Int Int) (T2 Int Int)))) => (Option.bind (app1 m_corners_of (some a_system)) fun l => bindOut (forL (fun (s2 : (List (T2 (T2 Int Int) (T2 Int Int)))) (y3 : (T2 (T2 Int Int) (T2 Int Int))) => (Option.bind (app1 m_plain_of (app2 m_ends_of (some a_system) (some y3))) fun l => bindOut (forL (fun (s4 : (List (T2 (T2 Int Int) (T2 Int Int)))) (y5 : (T2 Int Int)) => (Option.bind (lift2 T2.mk (some y5) (app2 m_sum_at__2 (some y5) (some y3))) fun (v_row_6 : (T2 (T2 Int Int) (T2 Int Int))) => (Option.bind (lift2 (fun x l => !decide (x ∈ l)) (some v_row_6) (some s4)) fun t => bindOut (bif t then (Option.bind (Option.bind (some v_row_6) (appG s4)) fun (v8 : (List (T2 (T2 Int Int) (T2 Int Int)))) => (some (Out.nx v8))) else (some (Out.nx s4))) fun (s7 : (List (T2 (T2 Int Int) (T2 Int Int)))) => (some (Out.nx s7))))) s2 l) fun (s4 : (List (T2 (T2 Int Int) (T2 Int Int)))) => (some (Out.nx s4)))) v_found_1 l) fun (s2 : (List (T2 (T2 Int Int) (T2 Int Int)))) => (Option.bind (Option.bind (some s2) sortD) fun r => some (Out.rt r)))))
def m_full_rows (a_system : (List (T2 (T2 Int Int) Int))) : Option (List (T2 (T2 Int Int) (T2 Int Int))) := finO none (b_full_rows a_system)
def b_plain_pairs (a_system : (List (T2 (T2 Int Int) Int))) : Option (Out Unit Unit (List (List (T2 Int Int)))) := (Option.bind (app1 m_check_system (some a_system)) fun _ => (Option.bind (Option.bind (app1 m_corners_of (some a_system)) (lcL (fun (x1 : (T2 (T2 Int Int) (T2 Int Int))) => (some true)) (fun (x1 : (T2 (T2 Int Int) (T2 Int Int))) => (app1 m_plain_of (app2 m_ends_of (some a_system) (some x1)))))) fun r => some (Out.rt r)))
def m_plain_pairs (a_system : (List (T2 (T2 Int Int) Int))) : Option (List (List (T2 Int Int))) := finO none (b_plain_pairs a_system)
def b__law_mix (a_draws : (List Int)) (a_k : Int) (a_many : Int) : Option (Out Unit Unit Int) := (Option.bind (some (0 : Int)) fun (v_cell_1 : Int) => (Option.bind (lift2 (fun i j => decide (j < i)) (lift1 (fun l => (l.length : Int)) (some a_draws)) (some (0 : Int))) fun t => bindOut (bif t then (Option.bind (bind2 atI (some a_draws) (bind2 modG (some a_k) (lift1 (fun l => (l.length : Int)) (some a_draws)))) fun (v_cell_3 : Int) => (some (Out.nx v_cell_3))) else (some (Out.nx v_cell_1))) fun (s2 : Int) => (Option.bind (lift2 (fun i j => decide (i < j)) (some a_k) (lift1 (fun l => (l.length : Int)) (some a_draws))) fun t => bindOut (bif t then (Option.bind (bind2 modG (some s2) (some a_many)) fun r => some (Out.rt r)) else (some (Out.nx ()))) fun (s4 : Unit) => (Option.bind (bind2 modG (bind2 divG (lift2 (· + ·) (bind2 mulG (some s2) (some (7919 : Int))) (bind2 mulG (some a_k) (some (104729 : Int)))) (some (3 : Int))) (some a_many)) fun r => some (Out.rt r)))))
def m__law_mix (a_draws : (List Int)) (a_k : Int) (a_many : Int) : Option Int := finO none (b__law_mix a_draws a_k a_many)
def b__law_system (a_draws : (List Int)) (a_k : Int) : Option (Out Unit Unit (List (T2 (T2 Int Int) Int))) := (Option.bind (bind2 atI (Option.bind (lift2 List.cons (some (2 : Int)) (lift2 List.cons (some (5 : Int)) (lift2 List.cons (some (10 : Int)) (some ([] : List Int))))) szG) (app3 m__law_mix (some a_draws) (some a_k) (some (3 : Int)))) fun (v_top_1 : Int) => (Option.bind (lift2 (· + ·) (some (1 : Int)) (app3 m__law_mix (some a_draws) (lift2 (· + ·) (some a_k) (some (1 : Int))) (some (9 : Int)))) fun (v_far_2 : Int) => (Option.bind (Option.bind (lift2 List.cons (lift2 T2.mk (lift2 T2.mk (some (1 : Int)) (some (1 : Int))) (some v_far_2)) (lift2 List.cons (lift2 T2.mk (lift2 T2.mk (lift1 (fun i => -i) (some (1 : Int))) (some (0 : Int))) (some (0 : Int))) (lift2 List.cons (lift2 T2.mk (lift2 T2.mk (some (0 : Int)) (lift1 (fun i => -i) (some (1 : Int)))) (some (0 : Int))) (some ([] : List (T2 (T2 Int Int) Int)))))) szG) fun (v_rows_3 : (List (T2 (T2 Int Int) Int))) => (Option.bind (lift2 (fun i j => decide (i = j)) (app3 m__law_mix (some a_draws) (lift2 (· + ·) (some a_k) (some (5 : Int))) (some (2 : Int))) (some (0 : Int))) fun t => bindOut (bif t then (Option.bind (Option.bind (lift2 List.cons (lift2 T2.mk (lift2 T2.mk (some (1 : Int)) (some (0 : Int))) (some v_far_2)) (lift2 List.cons (lift2 T2.mk (lift2 T2.mk (lift1 (fun i => -i) (some (1 : Int))) (some (0 : Int))) (app3 m__law_mix (some a_draws) (lift2 (· + ·) (some a_k) (some (2 : Int))) (some (5 : Int)))) (some ([] : List (T2 (T2 Int Int) Int))))) szG) fun (v_rows_5 : (List (T2 (T2 Int Int) Int))) => (Option.bind (bind2 catG (some v_rows_5) (Option.bind (lift2 List.cons (lift2 T2.mk (lift2 T2.mk (some (0 : Int)) (some (1 : Int))) (lift2 (· + ·) (some (1 : Int)) (app3 m__law_mix (some a_draws) (lift2 (· + ·) (some a_k) (some (3 : Int))) (some (9 : Int))))) (lift2 List.cons (lift2 T2.mk (lift2 T2.mk (some (0 : Int)) (lift1 (fun i => -i) (some (1 : Int)))) (app3 m__law_mix (some a_draws) (lift2 (· + ·) (some a_k) (some (4 : Int))) (some (5 : Int)))) (some ([] : List (T2 (T2 Int Int) Int))))) szG)) fun (v_rows_6 : (List (T2 (T2 Int Int) Int))) => (some (Out.nx v_rows_6)))) else (some (Out.nx v_rows_3))) fun (s4 : (List (T2 (T2 Int Int) Int))) => (Option.bind (Option.bind (app3 m__law_mix (some a_draws) (lift2 (· + ·) (some a_k) (some (6 : Int))) (lift2 (· - ·) (some (9 : Int)) (lift1 (fun l => (l.length : Int)) (some s4)))) rng1) fun l => bindOut (forL (fun (s7 : (List (T2 (T2 Int Int) Int))) (y8 : Int) => (Option.bind (lift2 (· - ·) (app3 m__law_mix (some a_draws) (lift2 (· + ·) (lift2 (· + ·) (some a_k) (some (10 : Int))) (bind2 mulG (some (4 : Int)) (some y8))) (lift2 (· + ·) (bind2 mulG (some (2 : Int)) (some v_top_1)) (some (1 : Int)))) (some v_top_1)) fun (v_p_9 : Int) => Option.bind (lift2 (· - ·) (app3 m__law_mix (some a_draws) (lift2 (· + ·) (lift2 (· + ·) (some a_k) (some (11 : Int))) (bind2 mulG (some (4 : Int)) (some y8))) (lift2 (· + ·) (bind2 mulG (some (2 : Int)) (some v_top_1)) (some (1 : Int)))) (some v_top_1)) fun (v_q_10 : Int) => (Option.bind (lift2 (fun x y => !decide (x = y)) (lift2 T2.mk (some v_p_9) (some v_q_10)) (lift2 T2.mk (some (0 : Int)) (some (0 : Int)))) fun t => bindOut (bif t then (Option.bind (Option.bind (lift2 T2.mk (lift2 T2.mk (some v_p_9) (some v_q_10)) (lift2 (· - ·) (app3 m__law_mix (some a_draws) (lift2 (· + ·) (lift2 (· + ·) (some a_k) (some (12 : Int))) (bind2 mulG (some (4 : Int)) (some y8))) (some (30 : Int))) (some (2 : Int)))) (appG s7)) fun (v12 : (List (T2 (T2 Int Int) Int))) => (some (Out.nx v12))) else (some (Out.nx s7))) fun (s11 : (List (T2 (T2 Int Int) Int))) => (some (Out.nx s11))))) s4 l) fun (s7 : (List (T2 (T2 Int Int) Int))) => (Option.bind (some s7) fun r => some (Out.rt r)))))))
def m__law_system (a_draws : (List Int)) (a_k : Int) : Option (List (T2 (T2 Int Int) Int)) := finO none (b__law_system a_draws a_k)
def b__law_is_wide (a_spots : (List (T2 (T2 Int Int) (T2 Int Int)))) : Option (Out Unit Unit Bool) := (Option.bind (some a_spots) fun l => bindOut (forL (fun (s1 : Unit) (y2 : (T2 (T2 Int Int) (T2 Int Int))) => (Option.bind (some a_spots) fun l => bindOut (forL (fun (s3 : Unit) (y4 : (T2 (T2 Int Int) (T2 Int Int))) => (Option.bind (Option.bind (Option.bind (some (2 : Int)) rng1) (lcL (fun (x6 : Int) => (some true)) (fun (x6 : Int) => (app2 m__law_low (lift2 (· - ·) (bind2 mulG (lift1 T2.a (bind2 (fun t i => atI t.l i) (lift1 tp2 (some y2)) (some x6))) (lift1 T2.b (bind2 (fun t i => atI t.l i) (lift1 tp2 (bind2 atI (some a_spots) (some (0 : Int)))) (some x6)))) (bind2 mulG (lift1 T2.a (bind2 (fun t i => atI t.l i) (lift1 tp2 (bind2 atI (some a_spots) (some (0 : Int)))) (some x6))) (lift1 T2.b (bind2 (fun t i => atI t.l i) (lift1 tp2 (some y2)) (some x6))))) (bind2 mulG (lift1 T2.b (bind2 (fun t i => atI t.l i) (lift1 tp2 (some y2)) (some x6))) (lift1 T2.b (bind2 (fun t i => atI t.l i) (lift1 tp2 (bind2 atI (some a_spots) (some (0 : Int)))) (some x6)))))))) fun (v_p_5 : (List (T2 Int Int))) => (Option.bind (Option.bind (Option.bind (some (2 : Int)) rng1) (lcL (fun (x8 : Int) => (some true)) (fun (x8 : Int) => (app2 m__law_low (lift2 (· - ·) (bind2 mulG (lift1 T2.a (bind2 (fun t i => atI t.l i) (lift1 tp2 (some y4)) (some x8))) (lift1 T2.b (bind2 (fun t i => atI t.l i) (lift1 tp2 (bind2 atI (some a_spots) (some (0 : Int)))) (some x8)))) (bind2 mulG (lift1 T2.a (bind2 (fun t i => atI t.l i) (lift1 tp2 (bind2 atI (some a_spots) (some (0 : Int)))) (some x8))) (lift1 T2.b (bind2 (fun t i => atI t.l i) (lift1 tp2 (some y4)) (some x8))))) (bind2 mulG (lift1 T2.b (bind2 (fun t i => atI t.l i) (lift1 tp2 (some y4)) (some x8))) (lift1 T2.b (bind2 (fun t i => atI t.l i) (lift1 tp2 (bind2 atI (some a_spots) (some (0 : Int)))) (some x8)))))))) fun (v_q_7 : (List (T2 Int Int))) => (Option.bind (lift2 (fun i j => !decide (i = j)) (bind2 mulG (bind2 mulG (bind2 mulG (lift1 T2.a (bind2 atI (some v_p_5) (some (0 : Int)))) (lift1 T2.a (bind2 atI (some v_q_7) (some (1 : Int))))) (lift1 T2.b (bind2 atI (some v_p_5) (some (1 : Int))))) (lift1 T2.b (bind2 atI (some v_q_7) (some (0 : Int))))) (bind2 mulG (bind2 mulG (bind2 mulG (lift1 T2.a (bind2 atI (some v_p_5) (some (1 : Int)))) (lift1 T2.a (bind2 atI (some v_q_7) (some (0 : Int))))) (lift1 T2.b (bind2 atI (some v_p_5) (some (0 : Int))))) (lift1 T2.b (bind2 atI (some v_q_7) (some (1 : Int)))))) fun t => bindOut (bif t then (Option.bind (some true) fun r => some (Out.rt r)) else (some (Out.nx ()))) fun (s9 : Unit) => (some (Out.nx ())))))) () l) fun (s3 : Unit) => (some (Out.nx ())))) () l) fun (s1 : Unit) => (Option.bind (some false) fun r => some (Out.rt r)))
def m__law_is_wide (a_spots : (List (T2 (T2 Int Int) (T2 Int Int)))) : Option Bool := finO none (b__law_is_wide a_spots)
def b__law_good (a_draws : (List Int)) (a_k : Int) : Option (Out Unit Unit (List (T2 (T2 Int Int) Int))) := (Option.bind (app2 m__law_system (some a_draws) (some a_k)) fun (v_system_1 : (List (T2 (T2 Int Int) Int))) => (Option.bind (app1 m__law_is_wide (app1 m__law_corners (some v_system_1))) fun t => bindOut (bif t then (Option.bind (some v_system_1) fun r => some (Out.rt r)) else (some (Out.nx ()))) fun (s2 : Unit) => (Option.bind (Option.bind (lift2 List.cons (lift2 T2.mk (lift2 T2.mk (some (1 : Int)) (some (0 : Int))) (some (3 : Int))) (lift2 List.cons (lift2 T2.mk (lift2 T2.mk (lift1 (fun i => -i) (some (1 : Int))) (some (0 : Int))) (some (0 : Int))) (lift2 List.cons (lift2 T2.mk (lift2 T2.mk (some (0 : Int)) (some (1 : Int))) (some (2 : Int))) (lift2 List.cons (lift2 T2.mk (lift2 T2.mk (some (0 : Int)) (lift1 (fun i => -i) (some (1 : Int)))) (some (1 : Int))) (lift2 List.cons (lift2 T2.mk (lift2 T2.mk (some (2 : Int)) (some (3 : Int))) (some (7 : Int))) (some ([] : List (T2 (T2 Int Int) Int)))))))) szG) fun r => some (Out.rt r))))
def m__law_good (a_draws : (List Int)) (a_k : Int) : Option (List (T2 (T2 Int Int) Int)) := finO none (b__law_good a_draws a_k)
def b__law_side (a_one : (T2 Int Int)) (a_two : (T2 Int Int)) : Option (Out Unit Unit Int) := (Option.bind (lift2 (· - ·) (bind2 mulG (lift1 T2.a (some a_one)) (lift1 T2.b (some a_two))) (bind2 mulG (lift1 T2.b (some a_one)) (lift1 T2.a (some a_two)))) fun r => some (Out.rt r))
def m__law_side (a_one : (T2 Int Int)) (a_two : (T2 Int Int)) : Option Int := finO none (b__law_side a_one a_two)
def b__law_lies (a_own : (List (T2 Int Int))) (a_gains : (T2 Int Int)) : Option (Out Unit Unit Bool) := (Option.bind (some a_own) fun l => bindOut (forL (fun (s1 : Unit) (y2 : (T2 Int Int)) => (Option.bind (some a_own) fun l => bindOut (forL (fun (s3 : Unit) (y4 : (T2 Int Int)) => (Option.bind (app2 m__law_side (some y2) (some y4)) fun (v_whole_5 : Int) => (Option.bind (lift2 (fun i j => decide (j < i)) (some v_whole_5) (some (0 : Int))) fun t => bindOut (bif t then (Option.bind (app2 m__law_side (some a_gains) (some y4)) fun (v_a_7 : Int) => Option.bind (app2 m__law_side (some y2) (some a_gains)) fun (v_b_8 : Int) => (Option.bind (andG (lift2 (fun i j => decide (j ≤ i)) (some v_a_7) (some (0 : Int))) (andG (lift2 (fun i j => decide (j ≤ i)) (some v_b_8) (some (0 : Int))) (andG (lift2 (fun i j => decide (i = j)) (bind2 modG (some v_a_7) (some v_whole_5)) (some (0 : Int))) (lift2 (fun i j => decide (i = j)) (bind2 modG (some v_b_8) (some v_whole_5)) (some (0 : Int)))))) fun t => bindOut (bif t then (Option.bind (some true) fun r => some (Out.rt r)) else (some (Out.nx ()))) fun (s9 : Unit) => (some (Out.nx ())))) else (some (Out.nx ()))) fun (s6 : Unit) => (some (Out.nx ()))))) () l) fun (s3 : Unit) => (some (Out.nx ())))) () l) fun (s1 : Unit) => (Option.bind (lift2 (fun x y => decide (x = y)) (some a_gains) (lift2 T2.mk (some (0 : Int)) (some (0 : Int)))) fun r => some (Out.rt r)))
def m__law_lies (a_own : (List (T2 Int Int))) (a_gains : (T2 Int Int)) : Option Bool := finO none (b__law_lies a_own a_gains)
def b_corners (a_system : (List (T2 (T2 Int Int) Int))) : Option (Out Unit Unit (List (T2 (T2 Int Int) (T2 Int Int)))) := (Option.bind (app1 m_check_system (some a_system)) fun _ => (Option.bind (app1 m_corners_of (some a_system)) fun r => some (Out.rt r)))
def m_corners (a_system : (List (T2 (T2 Int Int) Int))) : Option (List (T2 (T2 Int Int) (T2 Int Int))) := finO none (b_corners a_system)
def b__law_value (a_spots : (List (T2 (T2 Int Int) (T2 Int Int)))) (a_gains : (T2 Int Int)) : Option (Out Unit Unit (T2 Int Int)) := (Option.bind (app2 m__law_at (some a_gains) (bind2 atI (some a_spots) (some (0 : Int)))) fun (v_best_1 : (T2 Int Int)) => (Option.bind (some a_spots) fun l => bindOut (forL (fun (s2 : (T2 Int Int)) (y3 : (T2 (T2 Int Int) (T2 Int Int))) => (Option.bind (app2 m__law_at (some a_gains) (some y3)) fun (v_here_4 : (T2 Int Int)) => (Option.bind (bind2 atI (Option.bind (lift2 List.cons (some s2) (lift2 List.cons (some v_here_4) (some ([] : List (T2 Int Int))))) szG) (lift1 (fun b => if b = true then (1 : Int) else 0) (app2 m__law_less (some s2) (some v_here_4)))) fun (v_best_5 : (T2 Int Int)) => (some (Out.nx v_best_5))))) v_best_1 l) fun (s2 : (T2 Int Int)) => (Option.bind (some s2) fun r => some (Out.rt r))))
def m__law_value (a_spots : (List (T2 (T2 Int Int) (T2 Int Int)))) (a_gains : (T2 Int Int)) : Option (T2 Int Int) := finO none (b__law_value a_spots a_gains)
def b_broken_of (a_system : (List (T2 (T2 Int Int) Int))) : Option (Out Unit Unit (List (T2 Int Int))) := (Option.bind (Option.bind (some ([] : List (T2 Int Int))) szG) fun (v_found_1 : (List (T2 Int Int))) => (Option.bind (app1 m_corners_of (some a_system)) fun l => bindOut (forL (fun (s2 : (List (T2 Int Int))) (y3 : (T2 (T2 Int Int) (T2 Int Int))) => (Option.bind (Option.bind (app2 m_tight_at (some a_system) (some y3)) (lcL (fun (x5 : Int) => (some true)) (fun (x5 : Int) => (lift1 T2.a (bind2 atI (some a_system) (some x5)))))) fun (v_own_4 : (List (T2 Int Int))) => (Option.bind (Option.bind (Option.bind (app1 m_plain_of (app2 m_ends_of (some a_system) (some y3))) (lcL (fun (x6 : (T2 Int Int)) => (andG (lift2 (fun x l => !decide (x ∈ l)) (some x6) (some v_own_4)) (lift2 (fun x l => !decide (x ∈ l)) (some x6) (some s2)))) (fun (x6 : (T2 Int Int)) => (some x6)))) (catG s2)) fun (v7 : (List (T2 Int Int))) => (some (Out.nx v7))))) v_found_1 l) fun (s2 : (List (T2 Int Int))) => (Option.bind (Option.bind (some s2) sortD) fun r => some (Out.rt r))))
def m_broken_of (a_system : (List (T2 (T2 Int Int) Int))) : Option (List (T2 Int Int)) := finO none (b_broken_of a_system)
def b_is_dually_whole (a_system : (List (T2 (T2 Int Int) Int))) : Option (Out Unit Unit Bool) := (Option.bind (app1 m_check_system (some a_system)) fun _ => (Option.bind (lift2 (fun i j => decide (i = j)) (lift1 (fun l => (l.length : Int)) (app1 m_broken_of (some a_system))) (some (0 : Int))) fun r => some (Out.rt r)))
def m_is_dually_whole (a_system : (List (T2 (T2 Int Int) Int))) : Option Bool := finO none (b_is_dually_whole a_system)
def b_check_gains (a_gains : (T2 Int Int)) : Option (Out Unit Unit Unit) := (Option.bind (lift2 (fun i j => !decide (i = j)) (lift1 (fun t => (t.l.length : Int)) (lift1 tp2 (some a_gains))) (some (2 : Int))) fun t => bindOut (bif t then none else (some (Out.nx ()))) fun (s1 : Unit) => (Option.bind (lift1 (fun t => enumL t.l) (lift1 tp2 (some a_gains))) fun l => bindOut (forL (fun (s2 : Unit) (y3 : (T2 Int Int)) => (Option.bind (lift1 (fun x => !x) (chainG cLe cLe (lift1 (fun i => -i) (some (12 : Int))) (some y3.b) (some (12 : Int)))) fun t => bindOut (bif t then none else (some (Out.nx ()))) fun (s4 : Unit) => (some (Out.nx ())))) () l) fun (s2 : Unit) => (some (Out.nx ()))))
def m_check_gains (a_gains : (T2 Int Int)) : Option Unit := finO (some ()) (b_check_gains a_gains)
def b_top_of (a_system : (List (T2 (T2 Int Int) Int))) (a_gains : (T2 Int Int)) : Option (Out Unit Unit (Option (T2 (T2 Int Int) (T2 (T2 Int Int) (T2 Int Int))))) := (Option.bind (some (none : (Option (T2 (T2 Int Int) (T2 (T2 Int Int) (T2 Int Int)))))) fun (v_best_1 : (Option (T2 (T2 Int Int) (T2 (T2 Int Int) (T2 Int Int))))) => (Option.bind (app1 m_corners_of (some a_system)) fun l => bindOut (forL (fun (s2 : (Option (T2 (T2 Int Int) (T2 (T2 Int Int) (T2 Int Int))))) (y3 : (T2 (T2 Int Int) (T2 Int Int))) => (Option.bind (app2 m_sum_at__2 (some a_gains) (some y3)) fun (v_here_4 : (T2 Int Int)) => (Option.bind (orG (lift1 Option.isNone (some s2)) (app2 m_is_less (lift1 T2.a (Option.bind (some s2) id)) (some v_here_4))) fun t => bindOut (bif t then (Option.bind (lift1 (some : (T2 (T2 Int Int) (T2 (T2 Int Int) (T2 Int Int))) → Option (T2 (T2 Int Int) (T2 (T2 Int Int) (T2 Int Int)))) (lift2 T2.mk (some v_here_4) (some y3))) fun (v_best_6 : (Option (T2 (T2 Int Int) (T2 (T2 Int Int) (T2 Int Int))))) => (some (Out.nx v_best_6))) else (some (Out.nx s2))) fun (s5 : (Option (T2 (T2 Int Int) (T2 (T2 Int Int) (T2 Int Int))))) => (some (Out.nx s5))))) v_best_1 l) fun (s2 : (Option (T2 (T2 Int Int) (T2 (T2 Int Int) (T2 Int Int))))) => (Option.bind (some s2) fun r => some (Out.rt r))))
def m_top_of (a_system : (List (T2 (T2 Int Int) Int))) (a_gains : (T2 Int Int)) : Option (Option (T2 (T2 Int Int) (T2 (T2 Int Int) (T2 Int Int)))) := finO none (b_top_of a_system a_gains)
def b_value (a_system : (List (T2 (T2 Int Int) Int))) (a_gains : (T2 Int Int)) : Option (Out Unit Unit (T2 Int Int)) := (Option.bind (app1 m_check_system (some a_system)) fun _ => (Option.bind (app1 m_check_gains (some a_gains)) fun _ => (Option.bind (lift1 T2.a (Option.bind (app2 m_top_of (some a_system) (some a_gains)) id)) fun r => some (Out.rt r))))
def m_value (a_system : (List (T2 (T2 Int Int) Int))) (a_gains : (T2 Int Int)) : Option (T2 Int Int) := finO none (b_value a_system a_gains)
def b_law (a_script : (List Int)) : Option (Out Unit Unit Bool) := (Option.bind (m__law_draws a_script) fun (v_draws_1 : (List Int)) => (Option.bind (Option.bind (app2 m__law_good (some v_draws_1) (some (10 : Int))) (lcL (fun (x3 : (T2 (T2 Int Int) Int)) => (lift2 (fun i j => decide (i < j)) (lift2 (fun i j => if j > i then j else i) (lift1 (fun i => if i < 0 then -i else i) (lift1 T2.a (lift1 T2.a (some x3)))) (lift1 (fun i => if i < 0 then -i else i) (lift1 T2.b (lift1 T2.a (some x3))))) (some (5 : Int)))) (fun (x3 : (T2 (T2 Int Int) Int)) => (some x3)))) fun (v_system_2 : (List (T2 (T2 Int Int) Int))) => (Option.bind (app1 m__law_corners (some v_system_2)) fun (v_spots_4 : (List (T2 (T2 Int Int) (T2 Int Int)))) => (Option.bind (orG (lift2 (fun i j => decide (i < j)) (lift1 (fun l => (l.length : Int)) (some v_system_2)) (some (3 : Int))) (lift1 (fun x => !x) (app1 m__law_is_wide (some v_spots_4)))) fun t => bindOut (bif t then (Option.bind (Option.bind (lift2 List.cons (lift2 T2.mk (lift2 T2.mk (some (1 : Int)) (some (0 : Int))) (some (3 : Int))) (lift2 List.cons (lift2 T2.mk (lift2 T2.mk (lift1 (fun i => -i) (some (1 : Int))) (some (0 : Int))) (some (0 : Int))) (lift2 List.cons (lift2 T2.mk (lift2 T2.mk (some (0 : Int)) (some (1 : Int))) (some (2 : Int))) (lift2 List.cons (lift2 T2.mk (lift2 T2.mk (some (0 : Int)) (lift1 (fun i => -i) (some (1 : Int)))) (some (1 : Int))) (lift2 List.cons (lift2 T2.mk (lift2 T2.mk (some (2 : Int)) (some (3 : Int))) (some (7 : Int))) (some ([] : List (T2 (T2 Int Int) Int)))))))) szG) fun (v_system_6 : (List (T2 (T2 Int Int) Int))) => (Option.bind (app1 m__law_corners (some v_system_6)) fun (v_spots_7 : (List (T2 (T2 Int Int) (T2 Int Int)))) => (some (Out.nx (v_system_6, v_spots_7))))) else (some (Out.nx (v_system_2, v_spots_4)))) fun (s5 : ((List (T2 (T2 Int Int) Int)) × (List (T2 (T2 Int Int) (T2 Int Int))))) => (Option.bind (Option.bind (some s5.1) fun x => reprD (enc x)) fun (v_kept_8 : Str) => (Option.bind (app1 m_full_rows (some s5.1)) fun (v_told_9 : (List (T2 (T2 Int Int) (T2 Int Int)))) => (Option.bind (Option.bind (some ([] : List (T2 (T2 Int Int) (T2 Int Int)))) szG) fun (v_due_10 : (List (T2 (T2 Int Int) (T2 Int Int)))) => (Option.bind (app1 m_plain_pairs (some s5.1)) fun (v_every_11 : (List (List (T2 Int Int)))) => (Option.bind (Option.bind (lift1 (fun l => (l.length : Int)) (some s5.2)) rng1) fun l => bindOut (forL (fun (s12 : (List (T2 (T2 Int Int) (T2 Int Int)))) (y13 : Int) => (Option.bind (bind2 catG (some s12) (Option.bind (bind2 atI (some v_every_11) (some y13)) (lcL (fun (x15 : (T2 Int Int)) => (lift2 (fun x l => !decide (x ∈ l)) (lift2 T2.mk (some x15) (app2 m__law_at (some x15) (bind2 atI (some s5.2) (some y13)))) (some s12))) (fun (x15 : (T2 Int Int)) => (lift2 T2.mk (some x15) (app2 m__law_at (some x15) (bind2 atI (some s5.2) (some y13)))))))) fun (v_due_14 : (List (T2 (T2 Int Int) (T2 Int Int)))) => (some (Out.nx v_due_14)))) v_due_10 l) fun (s12 : (List (T2 (T2 Int Int) (T2 Int Int)))) => (Option.bind (orG (lift2 (fun i j => !decide (i = j)) (Option.bind (some v_told_9) fun x => reprD (enc x)) (Option.bind (Option.bind (some s12) sortD) fun x => reprD (enc x))) (lift2 (fun i j => !decide (i = j)) (Option.bind (app1 m_corners (some s5.1)) fun x => reprD (enc x)) (Option.bind (some s5.2) fun x => reprD (enc x)))) fun t => bindOut (bif t then (Option.bind (some false) fun r => some (Out.rt r)) else (some (Out.nx ()))) fun (s16 : Unit) => (Option.bind (some v_told_9) fun l => bindOut (forL (fun (s17 : Unit) (y18 : (T2 (T2 Int Int) (T2 Int Int))) => (Option.bind (orG (lift2 (fun x y => !decide (x = y)) (app2 m__law_value (some s5.2) (some y18.a)) (some y18.b)) (andG (lift2 (fun i j => decide (i < j)) (lift2 (fun i j => if j > i then j else i) (lift1 (fun i => if i < 0 then -i else i) (lift1 T2.a (some y18.a))) (lift1 (fun i => if i < 0 then -i else i) (lift1 T2.b (some y18.a)))) (some (13 : Int))) (lift2 (fun x y => !decide (x = y)) (app2 m_value (some s5.1) (some y18.a)) (some y18.b)))) fun t => bindOut (bif t then (Option.bind (some false) fun r => some (Out.rt r)) else (some (Out.nx ()))) fun (s19 : Unit) => (some (Out.nx ())))) () l) fun (s17 : Unit) => (Option.bind (some s5.1) fun l => bindOut (forL (fun (s20 : Unit) (y21 : (T2 (T2 Int Int) Int)) => (Option.bind (andG (lift2 (fun x y => !decide (x = y)) (Option.bind (some s5.2) (lcL (fun (x22 : (T2 (T2 Int Int) (T2 Int Int))) => (lift2 (fun x y => decide (x = y)) (app2 m__law_at (some y21.a) (some x22)) (lift2 T2.mk (some y21.b) (some (1 : Int))))) (fun (x22 : (T2 (T2 Int Int) (T2 Int Int))) => (some x22)))) (Option.bind (some ([] : List (T2 (T2 Int Int) (T2 Int Int)))) szG)) (lift1 (fun x => !x) (app2 m__law_lies (Option.bind (some v_told_9) (lcL (fun (x23 : (T2 (T2 Int Int) (T2 Int Int))) => (some true)) (fun (x23 : (T2 (T2 Int Int) (T2 Int Int))) => (lift1 T2.a (some x23))))) (some y21.a)))) fun t => bindOut (bif t then (Option.bind (some false) fun r => some (Out.rt r)) else (some (Out.nx ()))) fun (s24 : Unit) => (some (Out.nx ())))) () l) fun (s20 : Unit) => (Option.bind (Option.bind (some (10 : Int)) rng1) fun l => bindOut (forL (fun (s25 : Unit) (y26 : Int) => (Option.bind (lift2 T2.mk (lift2 (· - ·) (app3 m__law_mix (some v_draws_1) (lift2 (· + ·) (some (80 : Int)) (bind2 mulG (some (2 : Int)) (some y26))) (some (25 : Int))) (some (12 : Int))) (lift2 (· - ·) (app3 m__law_mix (some v_draws_1) (lift2 (· + ·) (some (81 : Int)) (bind2 mulG (some (2 : Int)) (some y26))) (some (25 : Int))) (some (12 : Int)))) fun (v_gains_27 : (T2 Int Int)) => (Option.bind (bind2 atI (Option.bind (some s5.2) (lcL (fun (x29 : (T2 (T2 Int Int) (T2 Int Int))) => (lift2 (fun x y => decide (x = y)) (app2 m__law_at (some v_gains_27) (some x29)) (app2 m__law_value (some s5.2) (some v_gains_27)))) (fun (x29 : (T2 (T2 Int Int) (T2 Int Int))) => (some x29)))) (some (0 : Int))) fun (v_best_28 : (T2 (T2 Int Int) (T2 Int Int))) => (Option.bind (Option.bind (some v_told_9) (lcL (fun (x31 : (T2 (T2 Int Int) (T2 Int Int))) => (lift2 (fun x y => decide (x = y)) (app2 m__law_at (lift1 T2.a (some x31)) (some v_best_28)) (lift1 T2.b (some x31)))) (fun (x31 : (T2 (T2 Int Int) (T2 Int Int))) => (lift1 T2.a (some x31))))) fun (v_own_30 : (List (T2 Int Int))) => (Option.bind (lift1 (fun x => !x) (app2 m__law_lies (some v_own_30) (some v_gains_27))) fun t => bindOut (bif t then (Option.bind (some false) fun r => some (Out.rt r)) else (some (Out.nx ()))) fun (s32 : Unit) => (some (Out.nx ()))))))) () l) fun (s25 : Unit) => (Option.bind (lift2 (fun x y => decide (x = y)) (Option.bind (some s5.2) (lcL (fun (x34 : (T2 (T2 Int Int) (T2 Int Int))) => (orG (lift2 (fun i j => decide (j < i)) (lift1 T2.b (lift1 T2.a (some x34))) (some (1 : Int))) (lift2 (fun i j => decide (j < i)) (lift1 T2.b (lift1 T2.b (some x34))) (some (1 : Int))))) (fun (x34 : (T2 (T2 Int Int) (T2 Int Int))) => (some x34)))) (Option.bind (some ([] : List (T2 (T2 Int Int) (T2 Int Int)))) szG)) fun (v_whole_33 : Bool) => (Option.bind (lift2 (fun i j => i != j) (lift2 (fun x y => decide (x = y)) (Option.bind (some v_told_9) (lcL (fun (x35 : (T2 (T2 Int Int) (T2 Int Int))) => (lift2 (fun i j => decide (j < i)) (lift1 T2.b (some x35.b)) (some (1 : Int)))) (fun (x35 : (T2 (T2 Int Int) (T2 Int Int))) => (some x35.b)))) (Option.bind (some ([] : List (T2 Int Int))) szG)) (some v_whole_33)) fun t => bindOut (bif t then (Option.bind (some false) fun r => some (Out.rt r)) else (some (Out.nx ()))) fun (s36 : Unit) => (Option.bind (Option.bind (some v_told_9) (lcL (fun (x38 : (T2 (T2 Int Int) (T2 Int Int))) => (some true)) (fun (x38 : (T2 (T2 Int Int) (T2 Int Int))) => (lift2 T2.mk (some x38.a) (lift1 T2.a (some x38.b)))))) fun (v_small_37 : (List (T2 (T2 Int Int) Int))) => (Option.bind (lift2 (fun x y => decide (x = y)) (Option.bind (some v_small_37) (lcL (fun (x40 : (T2 (T2 Int Int) Int)) => (orG (lift2 (fun i j => decide (j < i)) (lift2 (fun i j => if j > i then j else i) (lift1 (fun i => if i < 0 then -i else i) (lift1 T2.a (lift1 T2.a (some x40)))) (lift1 (fun i => if i < 0 then -i else i) (lift1 T2.b (lift1 T2.a (some x40))))) (some (10 : Int))) (lift2 (fun i j => decide (j < i)) (lift1 (fun i => if i < 0 then -i else i) (lift1 T2.b (some x40))) (some (100 : Int))))) (fun (x40 : (T2 (T2 Int Int) Int)) => (some x40)))) (Option.bind (some ([] : List (T2 (T2 Int Int) Int))) szG)) fun (v_fits_39 : Bool) => (Option.bind (andG (some v_whole_33) (andG (some v_fits_39) (chainG cLe cLe (some (3 : Int)) (lift1 (fun l => (l.length : Int)) (some v_small_37)) (some (8 : Int))))) fun t => bindOut (bif t then (Option.bind (orG (lift2 (fun i j => !decide (i = j)) (app1 m_is_dually_whole (some v_small_37)) (some true)) (lift2 (fun i j => !decide (i = j)) (Option.bind (app1 m_full_rows (some v_small_37)) fun x => reprD (enc x)) (Option.bind (some v_told_9) fun x => reprD (enc x)))) fun t => bindOut (bif t then (Option.bind (some false) fun r => some (Out.rt r)) else (some (Out.nx ()))) fun (s42 : Unit) => (some (Out.nx ()))) else (some (Out.nx ()))) fun (s41 : Unit) => (bind2 (fun l x => Option.bind (roomG 0 l) fun _ => (Option.bind (andG (lift2 (fun i j => decide (i = j)) (Option.bind (app1 m_full_rows (some s5.1)) fun x => reprD (enc x)) (Option.bind (Option.bind (some s12) sortD) fun x => reprD (enc x))) (lift2 (fun i j => decide (i = j)) (Option.bind (some s5.1) fun x => reprD (enc x)) (some v_kept_8))) fun r => some (Out.rt r))) (some v_told_9) (lift1 Tup.mk (Option.bind (some ([] : List Int)) szG)))))))))))))))))))))
def m_law (a_script : (List Int)) : Option Bool := finO none (b_law a_script)
end Lay.K36

set_option Elab.async false
set_option linter.all false
set_option maxRecDepth 100000
namespace Lay.K36
open PySem PySem.Spec PyProof.Rows L2 Lay
open Lay.Enc (enc)
def topS (i : Nat) : Stmt := PySem.Challenge.pw_wholebest_k36_whole_full_rows.main.body.getD i (.Pass ⟨0, 0, 0, 0⟩)
abbrev st__law_draws : Stmt := topS 42
abbrev N__law_draws : List Str := ["script", "draws", "k", "rest", "turn", "mixed"]
theorem fs__law_draws : FnScope N__law_draws ["script"] (defScope st__law_draws) := ⟨rfl, rfl, rfl, by decide +kernel, rfl, by decide +kernel, by decide +kernel⟩
abbrev st__law_low : Stmt := topS 44
abbrev N__law_low : List Str := ["n", "d", "one", "two"]
theorem fs__law_low : FnScope N__law_low ["n", "d"] (defScope st__law_low) := ⟨rfl, rfl, rfl, by decide +kernel, rfl, by decide +kernel, by decide +kernel⟩
abbrev st__law_less : Stmt := topS 47
abbrev N__law_less : List Str := ["one", "two"]
theorem fs__law_less : FnScope N__law_less ["one", "two"] (defScope st__law_less) := ⟨rfl, rfl, rfl, by decide +kernel, rfl, by decide +kernel, by decide +kernel⟩
abbrev st__law_at : Stmt := topS 46
abbrev N__law_at : List Str := ["numbers", "spot"]
theorem fs__law_at : FnScope N__law_at ["numbers", "spot"] (defScope st__law_at) := ⟨rfl, rfl, rfl, by decide +kernel, rfl, by decide +kernel, by decide +kernel⟩
abbrev st__law_corners : Stmt := topS 48
abbrev N__law_corners : List Str := ["system", "found", "i", "j", "m", "n", "spot", "a", "b", "c", "d", "place", "row", "one"]
theorem fs__law_corners : FnScope N__law_corners ["system"] (defScope st__law_corners) := ⟨rfl, rfl, rfl, by decide +kernel, rfl, by decide +kernel, by decide +kernel⟩
abbrev st_is_endless : Stmt := topS 24
abbrev N_is_endless : List Str := ["system", "_", "p", "q", "x", "y", "a", "b"]
theorem fs_is_endless : FnScope N_is_endless ["system"] (defScope st_is_endless) := ⟨rfl, rfl, rfl, by decide +kernel, rfl, by decide +kernel, by decide +kernel⟩
abbrev st_fraction : Stmt := topS 8
abbrev N_fraction : List Str := ["number", "by", "common"]
theorem fs_fraction : FnScope N_fraction ["number", "by"] (defScope st_fraction) := ⟨rfl, rfl, rfl, by decide +kernel, rfl, by decide +kernel, by decide +kernel⟩
abbrev st_minus : Stmt := topS 10
abbrev N_minus : List Str := ["one", "two"]
theorem fs_minus : FnScope N_minus ["one", "two"] (defScope st_minus) := ⟨rfl, rfl, rfl, by decide +kernel, rfl, by decide +kernel, by decide +kernel⟩
abbrev st_times : Stmt := topS 11
abbrev N_times : List Str := ["one", "two"]
theorem fs_times : FnScope N_times ["one", "two"] (defScope st_times) := ⟨rfl, rfl, rfl, by decide +kernel, rfl, by decide +kernel, by decide +kernel⟩
abbrev st_is_wide : Stmt := topS 25
abbrev N_is_wide : List Str := ["spots", "one", "two", "gap", "other"]
theorem fs_is_wide : FnScope N_is_wide ["spots"] (defScope st_is_wide) := ⟨rfl, rfl, rfl, by decide +kernel, rfl, by decide +kernel, by decide +kernel⟩
abbrev st_crossing : Stmt := topS 20
abbrev N_crossing : List Str := ["one", "two", "whole", "first", "second", "a", "b", "c", "d"]
theorem fs_crossing : FnScope N_crossing ["one", "two"] (defScope st_crossing) := ⟨rfl, rfl, rfl, by decide +kernel, rfl, by decide +kernel, by decide +kernel⟩
abbrev st_is_less : Stmt := topS 12
abbrev N_is_less : List Str := ["one", "two"]
theorem fs_is_less : FnScope N_is_less ["one", "two"] (defScope st_is_less) := ⟨rfl, rfl, rfl, by decide +kernel, rfl, by decide +kernel, by decide +kernel⟩
abbrev st_plus : Stmt := topS 9
abbrev N_plus : List Str := ["one", "two"]
theorem fs_plus : FnScope N_plus ["one", "two"] (defScope st_plus) := ⟨rfl, rfl, rfl, by decide +kernel, rfl, by decide +kernel, by decide +kernel⟩
abbrev st_sum_at : Stmt := topS 19
abbrev N_sum_at : List Str := ["numbers", "spot"]
theorem fs_sum_at : FnScope N_sum_at ["numbers", "spot"] (defScope st_sum_at) := ⟨rfl, rfl, rfl, by decide +kernel, rfl, by decide +kernel, by decide +kernel⟩
abbrev st_is_in : Stmt := topS 21
abbrev N_is_in : List Str := ["system", "spot", "numbers", "limit"]
theorem fs_is_in : FnScope N_is_in ["system", "spot"] (defScope st_is_in) := ⟨rfl, rfl, rfl, by decide +kernel, rfl, by decide +kernel, by decide +kernel⟩
abbrev st_precedes : Stmt := topS 22
abbrev N_precedes : List Str := ["one", "two"]
theorem fs_precedes : FnScope N_precedes ["one", "two"] (defScope st_precedes) := ⟨rfl, rfl, rfl, by decide +kernel, rfl, by decide +kernel, by decide +kernel⟩
abbrev st_corners_of : Stmt := topS 23
abbrev N_corners_of : List Str := ["system", "found", "k", "one", "two", "spot", "at", "other"]
theorem fs_corners_of : FnScope N_corners_of ["system"] (defScope st_corners_of) := ⟨rfl, rfl, rfl, by decide +kernel, rfl, by decide +kernel, by decide +kernel⟩
abbrev st_check_system : Stmt := topS 26
abbrev N_check_system : List Str := ["system", "k", "numbers", "limit", "number"]
theorem fs_check_system : FnScope N_check_system ["system"] (defScope st_check_system) := ⟨rfl, rfl, rfl, by decide +kernel, rfl, by decide +kernel, by decide +kernel⟩
abbrev st_side : Stmt := topS 33
abbrev N_side : List Str := ["one", "two"]
theorem fs_side : FnScope N_side ["one", "two"] (defScope st_side) := ⟨rfl, rfl, rfl, by decide +kernel, rfl, by decide +kernel, by decide +kernel⟩
abbrev st_in_cone : Stmt := topS 35
abbrev N_in_cone : List Str := ["ends", "told"]
theorem fs_in_cone : FnScope N_in_cone ["ends", "told"] (defScope st_in_cone) := ⟨rfl, rfl, rfl, by decide +kernel, rfl, by decide +kernel, by decide +kernel⟩
abbrev st_plain_of : Stmt := topS 36
abbrev N_plain_of : List Str := ["ends", "whole", "corners", "found", "x", "plain", "one", "first", "last", "y", "rests", "two", "rest"]
theorem fs_plain_of : FnScope N_plain_of ["ends"] (defScope st_plain_of) := ⟨rfl, rfl, rfl, by decide +kernel, rfl, by decide +kernel, by decide +kernel⟩
abbrev st_sum_at__2 : Stmt := topS 19
abbrev N_sum_at__2 : List Str := ["numbers", "spot"]
theorem fs_sum_at__2 : FnScope N_sum_at__2 ["numbers", "spot"] (defScope st_sum_at__2) := ⟨rfl, rfl, rfl, by decide +kernel, rfl, by decide +kernel, by decide +kernel⟩
abbrev st_tight_at : Stmt := topS 31
abbrev N_tight_at : List Str := ["system", "spot", "k", "numbers", "limit"]
theorem fs_tight_at : FnScope N_tight_at ["system", "spot"] (defScope st_tight_at) := ⟨rfl, rfl, rfl, by decide +kernel, rfl, by decide +kernel, by decide +kernel⟩
abbrev st_ends_of : Stmt := topS 34
abbrev N_ends_of : List Str := ["system", "spot", "own", "k", "first", "last", "common", "_", "p", "q", "one", "two"]
theorem fs_ends_of : FnScope N_ends_of ["system", "spot"] (defScope st_ends_of) := ⟨rfl, rfl, rfl, by decide +kernel, rfl, by decide +kernel, by decide +kernel⟩
abbrev st_full_rows : Stmt := topS 40
abbrev N_full_rows : List Str := ["system", "found", "spot", "one", "row"]
theorem fs_full_rows : FnScope N_full_rows ["system"] (defScope st_full_rows) := ⟨rfl, rfl, rfl, by decide +kernel, rfl, by decide +kernel, by decide +kernel⟩
abbrev st_plain_pairs : Stmt := topS 37
abbrev N_plain_pairs : List Str := ["system", "spot"]
theorem fs_plain_pairs : FnScope N_plain_pairs ["system"] (defScope st_plain_pairs) := ⟨rfl, rfl, rfl, by decide +kernel, rfl, by decide +kernel, by decide +kernel⟩
abbrev st__law_mix : Stmt := topS 43
abbrev N__law_mix : List Str := ["draws", "k", "many", "cell"]
theorem fs__law_mix : FnScope N__law_mix ["draws", "k", "many"] (defScope st__law_mix) := ⟨rfl, rfl, rfl, by decide +kernel, rfl, by decide +kernel, by decide +kernel⟩
abbrev st__law_system : Stmt := topS 45
abbrev N__law_system : List Str := ["draws", "k", "top", "far", "rows", "t", "p", "q"]
theorem fs__law_system : FnScope N__law_system ["draws", "k"] (defScope st__law_system) := ⟨rfl, rfl, rfl, by decide +kernel, rfl, by decide +kernel, by decide +kernel⟩
abbrev st__law_is_wide : Stmt := topS 49
abbrev N__law_is_wide : List Str := ["spots", "one", "two", "p", "q", "j"]
theorem fs__law_is_wide : FnScope N__law_is_wide ["spots"] (defScope st__law_is_wide) := ⟨rfl, rfl, rfl, by decide +kernel, rfl, by decide +kernel, by decide +kernel⟩
abbrev st__law_good : Stmt := topS 50
abbrev N__law_good : List Str := ["draws", "k", "system"]
theorem fs__law_good : FnScope N__law_good ["draws", "k"] (defScope st__law_good) := ⟨rfl, rfl, rfl, by decide +kernel, rfl, by decide +kernel, by decide +kernel⟩
abbrev st__law_side : Stmt := topS 52
abbrev N__law_side : List Str := ["one", "two"]
theorem fs__law_side : FnScope N__law_side ["one", "two"] (defScope st__law_side) := ⟨rfl, rfl, rfl, by decide +kernel, rfl, by decide +kernel, by decide +kernel⟩
abbrev st__law_lies : Stmt := topS 53
abbrev N__law_lies : List Str := ["own", "gains", "one", "two", "whole", "a", "b"]
theorem fs__law_lies : FnScope N__law_lies ["own", "gains"] (defScope st__law_lies) := ⟨rfl, rfl, rfl, by decide +kernel, rfl, by decide +kernel, by decide +kernel⟩
abbrev st_corners : Stmt := topS 28
abbrev N_corners : List Str := ["system"]
theorem fs_corners : FnScope N_corners ["system"] (defScope st_corners) := ⟨rfl, rfl, rfl, by decide +kernel, rfl, by decide +kernel, by decide +kernel⟩
abbrev st__law_value : Stmt := topS 51
abbrev N__law_value : List Str := ["spots", "gains", "best", "spot", "here"]
theorem fs__law_value : FnScope N__law_value ["spots", "gains"] (defScope st__law_value) := ⟨rfl, rfl, rfl, by decide +kernel, rfl, by decide +kernel, by decide +kernel⟩
abbrev st_broken_of : Stmt := topS 38
abbrev N_broken_of : List Str := ["system", "found", "spot", "own", "k", "one"]
theorem fs_broken_of : FnScope N_broken_of ["system"] (defScope st_broken_of) := ⟨rfl, rfl, rfl, by decide +kernel, rfl, by decide +kernel, by decide +kernel⟩
abbrev st_is_dually_whole : Stmt := topS 39
abbrev N_is_dually_whole : List Str := ["system"]
theorem fs_is_dually_whole : FnScope N_is_dually_whole ["system"] (defScope st_is_dually_whole) := ⟨rfl, rfl, rfl, by decide +kernel, rfl, by decide +kernel, by decide +kernel⟩
abbrev st_check_gains : Stmt := topS 27
abbrev N_check_gains : List Str := ["gains", "k", "gain"]
theorem fs_check_gains : FnScope N_check_gains ["gains"] (defScope st_check_gains) := ⟨rfl, rfl, rfl, by decide +kernel, rfl, by decide +kernel, by decide +kernel⟩
abbrev st_top_of : Stmt := topS 29
abbrev N_top_of : List Str := ["system", "gains", "best", "spot", "here"]
theorem fs_top_of : FnScope N_top_of ["system", "gains"] (defScope st_top_of) := ⟨rfl, rfl, rfl, by decide +kernel, rfl, by decide +kernel, by decide +kernel⟩
abbrev st_value : Stmt := topS 30
abbrev N_value : List Str := ["system", "gains"]
theorem fs_value : FnScope N_value ["system", "gains"] (defScope st_value) := ⟨rfl, rfl, rfl, by decide +kernel, rfl, by decide +kernel, by decide +kernel⟩
abbrev st_law : Stmt := topS 54
abbrev N_law : List Str := ["script", "draws", "system", "spots", "kept", "told", "due", "every", "t", "turn", "whole", "small", "fits", "numbers", "limit", "gains", "best", "own", "row", "spot", "one"]
theorem fs_law : FnScope N_law ["script"] (defScope st_law) := ⟨rfl, rfl, rfl, by decide +kernel, rfl, by decide +kernel, by decide +kernel⟩
structure Facts (mg : Str → Option Value) : Prop where
  abs_ : mg "abs" = none
  all_ : mg "all" = none
  any_ : mg "any" = none
  c_LEAST_ROWS_ : ∃ t, mg "LEAST_ROWS" = some (.int 3 t)
  c_MOST_GAIN_ : ∃ t, mg "MOST_GAIN" = some (.int 12 t)
  c_MOST_LIMIT_ : ∃ t, mg "MOST_LIMIT" = some (.int 100 t)
  c_MOST_NUMBER_ : ∃ t, mg "MOST_NUMBER" = some (.int 10 t)
  c_MOST_ROWS_ : ∃ t, mg "MOST_ROWS" = some (.int 8 t)
  enumerate_ : mg "enumerate" = none
  gcd_ : mg "gcd" = some (.builtin "math.gcd")
  int_ : mg "int" = none
  len_ : mg "len" = none
  max_ : mg "max" = none
  min_ : mg "min" = none
  range_ : mg "range" = none
  repr_ : mg "repr" = none
  sorted_ : mg "sorted" = none
end Lay.K36

set_option Elab.async false
set_option linter.all false
set_option maxRecDepth 100000
namespace Lay.K36
open PySem PySem.Spec PyProof.Rows L2 Lay
open Lay.Enc (enc)
set_option maxHeartbeats 0
theorem bk__law_draws {X : Cx} (C : Ctx X N__law_draws (defScope st__law_draws) none 0) (hF : Facts X.mg)  (a_script : (List Int)) :
    SV X (.rd (a_script.map enc) :: List.replicate 5 .un) (defBody st__law_draws) (fun _ : Unit => List.replicate 6 .un) (fun _ : Unit => List.replicate 6 .un) ⟨.dd, false⟩ (b__law_draws a_script) := by
  unfold b__law_draws
  refine sv_setO (i := 1) C (by decide +kernel) (Nat.le_of_ble_eq_true rfl) (eo_list (al_nil (α := Int))) fun v_draws_1 => ?_
  refine sv_for (S1 := (List Int)) (P1 := fun s2 => [.rd (a_script.map enc), .own (s2.map enc), .un, .un, .un, .un]) (s0 := v_draws_1) C (it_rng1 C (by decide +kernel) hF.range_ (ed_min2 C (by decide +kernel) hF.min_ ed_num (ed_len C (by decide +kernel) hF.len_ (er_rd (i := 0) C (by decide +kernel) rfl)))) (pgN (i := 2) C (by decide +kernel)) (tgt_name (i := 2)) (fun s2 => rfl) (wk_ops [] rfl) (fun s2 y3 => ?_) (fun s2 => ?_)
  · refine sv_set (i := 3) C (by decide +kernel) (ed_abs C (by decide +kernel) hF.abs_ (ed_ixR (i := 0) C (by decide +kernel) rfl (ed_var (i := 2) C (by decide +kernel) rfl))) fun v_rest_4 => ?_
    refine sv_if (S' := (List Int)) (P' := fun s5 => [.rd (a_script.map enc), .own (s5.map enc), .dat (enc y3), .un, .un, .un]) (eb_cmp (ec_ge (ed_var (i := 3) C (by decide +kernel) rfl) (ed_pow ed_num ed_num))) ?_ ?_ fun s5 => ?_
    · refine sv_for (S1 := ((List Int) × Int)) (P1 := fun s6 => [.rd (a_script.map enc), .own (s6.1.map enc), .dat (enc y3), .dat (enc s6.2), .un, .un]) (s0 := (s2, v_rest_4)) C (it_rng1 C (by decide +kernel) hF.range_ ed_num) (pgN (i := 4) C (by decide +kernel)) (tgt_name (i := 4)) (fun s6 => rfl) (wk_ops [] rfl) (fun s6 y7 => ?_) (fun s6 => ?_)
      · refine sv_if (S' := ((List Int) × Int)) (P' := fun s8 => [.rd (a_script.map enc), .own (s8.1.map enc), .dat (enc y3), .dat (enc s8.2), .dat (enc y7), .un]) (eb_cmp (ec_gt (ed_var (i := 3) C (by decide +kernel) rfl) ed_num)) ?_ ?_ fun s8 => ?_
        · refine sv_app (i := 1) C (by decide +kernel) rfl (ed_mod (ed_int C (by decide +kernel) hF.int_ (ed_var (i := 3) C (by decide +kernel) rfl)) ed_num) fun v9 => ?_
          refine sv_set (i := 3) C (by decide +kernel) (ed_fdiv (ed_var (i := 3) C (by decide +kernel) rfl) ed_num) fun v_rest_10 => ?_
          exact sv_nil (wk_ops [] rfl)
        · exact sv_nil (wk_ops [] rfl)
        exact sv_nil (wk_ops [.un 4] rfl)
      exact sv_nil (wk_ops [.un 3] rfl)
    · refine sv_set (i := 5) C (by decide +kernel) (ed_mod (ed_int C (by decide +kernel) hF.int_ (ed_add (ed_mul (ed_var (i := 3) C (by decide +kernel) rfl) ed_num) (ed_mul (ed_add (ed_var (i := 2) C (by decide +kernel) rfl) ed_num) ed_num))) ed_num) fun v_mixed_11 => ?_
      refine sv_set (i := 5) C (by decide +kernel) (ed_mod (ed_int C (by decide +kernel) hF.int_ (ed_add (ed_add (ed_mul (ed_var (i := 5) C (by decide +kernel) rfl) ed_num) (ed_mul ed_num (ed_var (i := 2) C (by decide +kernel) rfl))) ed_num)) ed_num) fun v_mixed_12 => ?_
      refine sv_app (i := 1) C (by decide +kernel) rfl (ed_mod (ed_int C (by decide +kernel) hF.int_ (ed_var (i := 5) C (by decide +kernel) rfl)) ed_num) fun v13 => ?_
      refine sv_app (i := 1) C (by decide +kernel) rfl (ed_mod (ed_int C (by decide +kernel) hF.int_ (ed_fdiv (ed_var (i := 5) C (by decide +kernel) rfl) ed_num)) ed_num) fun v14 => ?_
      exact sv_nil (wk_ops [.un 3, .un 5] rfl)
    exact sv_nil (wk_ops [.un 2] rfl)
  refine sv_wk (wk_ops [.fz 1] rfl) ?_
  exact sv_ret (ed_var (i := 1) C (by decide +kernel) rfl)
theorem ok__law_draws {P : Program} {w : World} {K : PySem.W.Frag} {mg : Str → Option Value} {base : Heap} {f : Addr} {fd : FuncData} (F : Fun K "_law_draws" "_law_draws" st__law_draws f fd) (hF : Facts mg)  : FnG P w K mg base CX0 1 f fd ["script"] (spR K .dd m__law_draws) :=
  ok_rd F fs__law_draws 6 rfl (by decide) fun X h1 h2 h3 h4 h5 C l r hr => by subst h1 h2 h3 h4 h5; exact body_of (bk__law_draws C hF  l) hr (fun x h => nomatch h)
theorem bk__law_low {X : Cx} (C : Ctx X N__law_low (defScope st__law_low) none 0) (hF : Facts X.mg)  (a_n : Int) (a_d : Int) :
    SV X (dats 4 [enc a_n, enc a_d]) (defBody st__law_low) (fun _ : Unit => List.replicate 4 .un) (fun _ : Unit => List.replicate 4 .un) ⟨.dd, false⟩ (b__law_low a_n a_d) := by
  unfold b__law_low
  refine sv_par (i := 2) (j := 3) C (by decide +kernel) (by decide +kernel) (by decide) (by decide +kernel) (by decide +kernel) (ed_abs C (by decide +kernel) hF.abs_ (ed_var (i := 0) C (by decide +kernel) rfl)) (ed_abs C (by decide +kernel) hF.abs_ (ed_var (i := 1) C (by decide +kernel) rfl)) fun v_one_1 v_two_2 => ?_
  refine sv_while (S1 := (Int × Int)) (P1 := fun s3 => [.dat (enc a_n), .dat (enc a_d), .dat (enc s3.1), .dat (enc s3.2)]) (s0 := (v_one_1, v_two_2)) (n := (v_one_1.natAbs + v_two_2.natAbs + 2)) C (wk_ops [] rfl) (fun s3 => (eb_cmp (ec_neI (ed_var (i := 3) C (by decide +kernel) rfl) ed_num))) (fun s3 => ?_) (fun s3 => ?_)
  · refine sv_par (i := 2) (j := 3) C (by decide +kernel) (by decide +kernel) (by decide) (by decide +kernel) (by decide +kernel) (ed_var (i := 3) C (by decide +kernel) rfl) (ed_mod (ed_int C (by decide +kernel) hF.int_ (ed_var (i := 2) C (by decide +kernel) rfl)) (ed_var (i := 3) C (by decide +kernel) rfl)) fun v_one_4 v_two_5 => ?_
    exact sv_nil (wk_ops [] rfl)
  refine sv_if (S' := Int) (P' := fun s6 => [.dat (enc a_n), .dat (enc a_d), .dat (enc s6), .dat (enc s3.2)]) (eb_cmp (ec_lt (ed_var (i := 1) C (by decide +kernel) rfl) ed_num)) ?_ ?_ fun s6 => ?_
  · refine sv_set (i := 2) C (by decide +kernel) (ed_neg (ed_var (i := 2) C (by decide +kernel) rfl)) fun v_one_7 => ?_
    exact sv_nil (wk_ops [] rfl)
  · exact sv_nil (wk_ops [] rfl)
  exact sv_ret (ed_t2 (ed_fdivN (ed_var (i := 0) C (by decide +kernel) rfl) (ed_var (i := 2) C (by decide +kernel) rfl)) (ed_fdivN (ed_var (i := 1) C (by decide +kernel) rfl) (ed_var (i := 2) C (by decide +kernel) rfl)))
theorem ok__law_low {P : Program} {w : World} {K : PySem.W.Frag} {mg : Str → Option Value} {base : Heap} {f : Addr} {fd : FuncData} (F : Fun K "_law_low" "_law_low" st__law_low f fd) (hF : Facts mg)  : FnG P w K mg base CX0 1 f fd ["n", "d"] (spD K .dd (g2 m__law_low)) :=
  ok_def F fs__law_low (fun ds r h => by obtain ⟨x0, x1, y, e, _, _⟩ := h; rw [e]; rfl) 4 rfl (by decide) fun X h1 h2 h3 h4 h5 C ds r h => by subst h1 h2 h3 h4 h5; obtain ⟨x0, x1, y, e1, e2, e3⟩ := h; subst e1 e3; exact body_of (bk__law_low C hF  x0 x1) e2 (fun x h => nomatch h)
theorem bk__law_less {X : Cx} (C : Ctx X N__law_less (defScope st__law_less) none 0) (hF : Facts X.mg)  (a_one : (T2 Int Int)) (a_two : (T2 Int Int)) :
    SV X (dats 2 [enc a_one, enc a_two]) (defBody st__law_less) (fun _ : Unit => List.replicate 2 .un) (fun _ : Unit => List.replicate 2 .un) ⟨.dd, false⟩ (b__law_less a_one a_two) := by
  unfold b__law_less
  exact sv_ret (ed_cmp (ec_lt (ed_mul (ed_20 (ed_var (i := 0) C (by decide +kernel) rfl)) (ed_21 (ed_var (i := 1) C (by decide +kernel) rfl))) (ed_mul (ed_20 (ed_var (i := 1) C (by decide +kernel) rfl)) (ed_21 (ed_var (i := 0) C (by decide +kernel) rfl)))))
theorem ok__law_less {P : Program} {w : World} {K : PySem.W.Frag} {mg : Str → Option Value} {base : Heap} {f : Addr} {fd : FuncData} (F : Fun K "_law_less" "_law_less" st__law_less f fd) (hF : Facts mg)  : FnG P w K mg base CX0 1 f fd ["one", "two"] (spD K .dd (g2 m__law_less)) :=
  ok_def F fs__law_less (fun ds r h => by obtain ⟨x0, x1, y, e, _, _⟩ := h; rw [e]; rfl) 2 rfl (by decide) fun X h1 h2 h3 h4 h5 C ds r h => by subst h1 h2 h3 h4 h5; obtain ⟨x0, x1, y, e1, e2, e3⟩ := h; subst e1 e3; exact body_of (bk__law_less C hF  x0 x1) e2 (fun x h => nomatch h)
theorem bk__law_at {X : Cx} (C : Ctx X N__law_at (defScope st__law_at) none 1) (hF : Facts X.mg) (hC__law_low : Cal X.prog X.w X.K X.mg X.base CX0 1 "_law_low" ["n", "d"] (spD X.K .dd (g2 m__law_low))) (a_numbers : (T2 Int Int)) (a_spot : (T2 (T2 Int Int) (T2 Int Int))) :
    SV X (dats 2 [enc a_numbers, enc a_spot]) (defBody st__law_at) (fun _ : Unit => List.replicate 2 .un) (fun _ : Unit => List.replicate 2 .un) ⟨.dd, false⟩ (b__law_at a_numbers a_spot) := by
  unfold b__law_at
  exact sv_ret (ed_call C hC__law_low (by decide) (by decide +kernel) (ad_cons (ed_add (ed_mul (ed_mul (ed_20 (ed_var (i := 0) C (by decide +kernel) rfl)) (ed_20 (ed_20 (ed_var (i := 1) C (by decide +kernel) rfl)))) (ed_21 (ed_21 (ed_var (i := 1) C (by decide +kernel) rfl)))) (ed_mul (ed_mul (ed_21 (ed_var (i := 0) C (by decide +kernel) rfl)) (ed_20 (ed_21 (ed_var (i := 1) C (by decide +kernel) rfl)))) (ed_21 (ed_20 (ed_var (i := 1) C (by decide +kernel) rfl))))) (ad_cons (ed_mul (ed_21 (ed_20 (ed_var (i := 1) C (by decide +kernel) rfl))) (ed_21 (ed_21 (ed_var (i := 1) C (by decide +kernel) rfl)))) ad_nil)) go2)
theorem ok__law_at {P : Program} {w : World} {K : PySem.W.Frag} {mg : Str → Option Value} {base : Heap} {f : Addr} {fd : FuncData} (F : Fun K "_law_at" "_law_at" st__law_at f fd) (hF : Facts mg) (hC__law_low : Cal P w K mg base CX0 1 "_law_low" ["n", "d"] (spD K .dd (g2 m__law_low))) : FnG P w K mg base CX0 2 f fd ["numbers", "spot"] (spD K .dd (g2 m__law_at)) :=
  ok_def F fs__law_at (fun ds r h => by obtain ⟨x0, x1, y, e, _, _⟩ := h; rw [e]; rfl) 2 rfl (by decide) fun X h1 h2 h3 h4 h5 C ds r h => by subst h1 h2 h3 h4 h5; obtain ⟨x0, x1, y, e1, e2, e3⟩ := h; subst e1 e3; exact body_of (bk__law_at C hF hC__law_low x0 x1) e2 (fun x h => nomatch h)
theorem bk__law_corners {X : Cx} (C : Ctx X N__law_corners (defScope st__law_corners) none 2) (hF : Facts X.mg) (hC__law_low : Cal X.prog X.w X.K X.mg X.base CX0 1 "_law_low" ["n", "d"] (spD X.K .dd (g2 m__law_low))) (hC__law_less : Cal X.prog X.w X.K X.mg X.base CX0 1 "_law_less" ["one", "two"] (spD X.K .dd (g2 m__law_less))) (hC__law_at : Cal X.prog X.w X.K X.mg X.base CX0 2 "_law_at" ["numbers", "spot"] (spD X.K .dd (g2 m__law_at))) (a_system : (List (T2 (T2 Int Int) Int))) :
    SV X (dats 14 [enc a_system]) (defBody st__law_corners) (fun _ : Unit => List.replicate 14 .un) (fun _ : Unit => List.replicate 14 .un) ⟨.dd, false⟩ (b__law_corners a_system) := by
  unfold b__law_corners
  refine sv_set (i := 1) C (by decide +kernel) (ed_of_eo (eo_list (al_nil (α := (T2 (T2 Int Int) (T2 Int Int)))))) fun v_found_1 => ?_
  refine sv_for (S1 := (List (T2 (T2 Int Int) (T2 Int Int)))) (P1 := fun s2 => [.dat (enc a_system), .dat (enc s2), .un, .un, .un, .un, .un, .un, .un, .un, .un, .un, .un, .un]) (s0 := v_found_1) C (it_rng1 C (by decide +kernel) hF.range_ (ed_len C (by decide +kernel) hF.len_ (er_of_ed (ed_var (i := 0) C (by decide +kernel) rfl)))) (pgN (i := 2) C (by decide +kernel)) (tgt_name (i := 2)) (fun s2 => rfl) (wk_ops [] rfl) (fun s2 y3 => ?_) (fun s2 => ?_)
  · refine sv_for (S1 := (List (T2 (T2 Int Int) (T2 Int Int)))) (P1 := fun s4 => [.dat (enc a_system), .dat (enc s4), .dat (enc y3), .un, .un, .un, .un, .un, .un, .un, .un, .un, .un, .un]) (s0 := s2) C (it_rng1 C (by decide +kernel) hF.range_ (ed_var (i := 2) C (by decide +kernel) rfl)) (pgN (i := 3) C (by decide +kernel)) (tgt_name (i := 3)) (fun s4 => rfl) (wk_ops [] rfl) (fun s4 y5 => ?_) (fun s4 => ?_)
    · refine sv_unpack (pg_tup (Ctx.calm C) (pgs_cons (pg_tup (Ctx.calm C) (pgs_cons (pgN (i := 7) C (by decide +kernel)) (pgs_cons (pgN (i := 8) C (by decide +kernel)) pgs_nil))) (pgs_cons (pgN (i := 4) C (by decide +kernel)) pgs_nil))) (tgt_t2 (tgt_t2 (tgt_name (i := 7)) (tgt_name (i := 8))) (tgt_name (i := 4))) rfl (ed_ix (ed_var (i := 0) C (by decide +kernel) rfl) (ed_var (i := 2) C (by decide +kernel) rfl)) fun u6 => ?_
      refine sv_unpack (pg_tup (Ctx.calm C) (pgs_cons (pg_tup (Ctx.calm C) (pgs_cons (pgN (i := 9) C (by decide +kernel)) (pgs_cons (pgN (i := 10) C (by decide +kernel)) pgs_nil))) (pgs_cons (pgN (i := 5) C (by decide +kernel)) pgs_nil))) (tgt_t2 (tgt_t2 (tgt_name (i := 9)) (tgt_name (i := 10))) (tgt_name (i := 5))) rfl (ed_ix (ed_var (i := 0) C (by decide +kernel) rfl) (ed_var (i := 3) C (by decide +kernel) rfl)) fun u7 => ?_
      refine sv_if (S' := (List (T2 (T2 Int Int) (T2 Int Int)))) (P' := fun s8 => [.dat (enc a_system), .dat (enc s8), .dat (enc y3), .dat (enc y5), .dat (enc u6.b), .dat (enc u7.b), .un, .dat (enc u6.a.a), .dat (enc u6.a.b), .dat (enc u7.a.a), .dat (enc u7.a.b), .un, .un, .un]) (eb_cmp (ec_neI (ed_mul (ed_var (i := 7) C (by decide +kernel) rfl) (ed_var (i := 10) C (by decide +kernel) rfl)) (ed_mul (ed_var (i := 8) C (by decide +kernel) rfl) (ed_var (i := 9) C (by decide +kernel) rfl)))) ?_ ?_ fun s8 => ?_
      · refine sv_set (i := 6) C (by decide +kernel) (ed_t2 (ed_call C hC__law_low (by decide) (by decide +kernel) (ad_cons (ed_sub (ed_mul (ed_var (i := 4) C (by decide +kernel) rfl) (ed_var (i := 10) C (by decide +kernel) rfl)) (ed_mul (ed_var (i := 8) C (by decide +kernel) rfl) (ed_var (i := 5) C (by decide +kernel) rfl))) (ad_cons (ed_sub (ed_mul (ed_var (i := 7) C (by decide +kernel) rfl) (ed_var (i := 10) C (by decide +kernel) rfl)) (ed_mul (ed_var (i := 8) C (by decide +kernel) rfl) (ed_var (i := 9) C (by decide +kernel) rfl))) ad_nil)) go2) (ed_call C hC__law_low (by decide) (by decide +kernel) (ad_cons (ed_sub (ed_mul (ed_var (i := 7) C (by decide +kernel) rfl) (ed_var (i := 5) C (by decide +kernel) rfl)) (ed_mul (ed_var (i := 4) C (by decide +kernel) rfl) (ed_var (i := 9) C (by decide +kernel) rfl))) (ad_cons (ed_sub (ed_mul (ed_var (i := 7) C (by decide +kernel) rfl) (ed_var (i := 10) C (by decide +kernel) rfl)) (ed_mul (ed_var (i := 8) C (by decide +kernel) rfl) (ed_var (i := 9) C (by decide +kernel) rfl))) ad_nil)) go2)) fun v_spot_9 => ?_
        refine sv_if (S' := (List (T2 (T2 Int Int) (T2 Int Int)))) (P' := fun s11 => [.dat (enc a_system), .dat (enc s11), .dat (enc y3), .dat (enc y5), .dat (enc u6.b), .dat (enc u7.b), .dat (enc v_spot_9), .dat (enc u6.a.a), .dat (enc u6.a.b), .dat (enc u7.a.a), .dat (enc u7.a.b), .un, .un, .un]) (eb_bool (ew_and (eb_cmp (ec_notIn C (ed_var (i := 6) C (by decide +kernel) rfl) (er_of_ed (ed_var (i := 1) C (by decide +kernel) rfl)))) (ew_and1 (eb_cmp (ec_eqD C (ed_of_eo (eo_lc (lc_mk (own := [("row", 12)]) C (it_list (ed_var (i := 0) C (by decide +kernel) rfl)) (by decide +kernel) (fun s10 H10 Ca10 cl10 fp10 => (pgN (i := 12) (Ctx.blk C s10 H10 _ Ca10 cl10 fp10 rfl) (by decide +kernel))) (tgt_name (i := 12)) (by decide) rfl (fun s10 H10 Ca10 cl10 fp10 x10 => (ets_one (eb_of_ed (ed_call (Ctx.blk C s10 H10 _ Ca10 cl10 fp10 rfl) hC__law_less (by decide) (by decide +kernel) (ad_cons (ed_t2 (ed_21 (ed_var (i := 12) (Ctx.blk C s10 H10 _ Ca10 cl10 fp10 rfl) (by decide +kernel) rfl)) ed_num) (ad_cons (ed_call (Ctx.blk C s10 H10 _ Ca10 cl10 fp10 rfl) hC__law_at (by decide) (by decide +kernel) (ad_cons (ed_20 (ed_var (i := 12) (Ctx.blk C s10 H10 _ Ca10 cl10 fp10 rfl) (by decide +kernel) rfl)) (ad_cons (ed_var (i := 6) (Ctx.blk C s10 H10 _ Ca10 cl10 fp10 rfl) (by decide +kernel) rfl) ad_nil)) go2) ad_nil)) go2)))) (fun s10 H10 Ca10 cl10 fp10 x10 => (ed_var (i := 12) (Ctx.blk C s10 H10 _ Ca10 cl10 fp10 rfl) (by decide +kernel) rfl))))) (ed_of_eo (eo_list (al_nil (α := (T2 (T2 Int Int) Int)))))))))) ?_ ?_ fun s11 => ?_
        · refine sv_set (i := 11) C (by decide +kernel) (ed_len C (by decide +kernel) hF.len_ (er_of_eo (eo_lc (lc_mk (own := [("one", 13)]) C (it_list (ed_var (i := 1) C (by decide +kernel) rfl)) (by decide +kernel) (fun s13 H13 Ca13 cl13 fp13 => (pgN (i := 13) (Ctx.blk C s13 H13 _ Ca13 cl13 fp13 rfl) (by decide +kernel))) (tgt_name (i := 13)) (by decide) rfl (fun s13 H13 Ca13 cl13 fp13 x13 => (ets_one (eb_bool (ew_or (eb_of_ed (ed_call (Ctx.blk C s13 H13 _ Ca13 cl13 fp13 rfl) hC__law_less (by decide) (by decide +kernel) (ad_cons (ed_20 (ed_var (i := 13) (Ctx.blk C s13 H13 _ Ca13 cl13 fp13 rfl) (by decide +kernel) rfl)) (ad_cons (ed_20 (ed_var (i := 6) (Ctx.blk C s13 H13 _ Ca13 cl13 fp13 rfl) (by decide +kernel) rfl)) ad_nil)) go2)) (ew_or1 (eb_bool (ew_and (eb_cmp (ec_eqD (Ctx.blk C s13 H13 _ Ca13 cl13 fp13 rfl) (ed_20 (ed_var (i := 13) (Ctx.blk C s13 H13 _ Ca13 cl13 fp13 rfl) (by decide +kernel) rfl)) (ed_20 (ed_var (i := 6) (Ctx.blk C s13 H13 _ Ca13 cl13 fp13 rfl) (by decide +kernel) rfl)))) (ew_and1 (eb_of_ed (ed_call (Ctx.blk C s13 H13 _ Ca13 cl13 fp13 rfl) hC__law_less (by decide) (by decide +kernel) (ad_cons (ed_21 (ed_var (i := 13) (Ctx.blk C s13 H13 _ Ca13 cl13 fp13 rfl) (by decide +kernel) rfl)) (ad_cons (ed_21 (ed_var (i := 6) (Ctx.blk C s13 H13 _ Ca13 cl13 fp13 rfl) (by decide +kernel) rfl)) ad_nil)) go2)))))))))) (fun s13 H13 Ca13 cl13 fp13 x13 => (ed_var (i := 13) (Ctx.blk C s13 H13 _ Ca13 cl13 fp13 rfl) (by decide +kernel) rfl)))))) fun v_place_12 => ?_
          refine sv_set (i := 1) C (by decide +kernel) (ed_of_eo (eo_cat (ed_of_eo (eo_cat (ed_of_eo (eo_slice (ed_var (i := 1) C (by decide +kernel) rfl) ep_none (ep_some (ed_var (i := 11) C (by decide +kernel) rfl)))) (ed_of_eo (eo_list (al_cons (ed_var (i := 6) C (by decide +kernel) rfl) (al_nil (α := (T2 (T2 Int Int) (T2 Int Int))))))))) (ed_of_eo (eo_slice (ed_var (i := 1) C (by decide +kernel) rfl) (ep_some (ed_var (i := 11) C (by decide +kernel) rfl)) ep_none)))) fun v_found_14 => ?_
          exact sv_nil (wk_ops [.un 11] rfl)
        · exact sv_nil (wk_ops [] rfl)
        exact sv_nil (wk_ops [.un 6] rfl)
      · exact sv_nil (wk_ops [] rfl)
      exact sv_nil (wk_ops [.un 3, .un 4, .un 5, .un 7, .un 8, .un 9, .un 10] rfl)
    exact sv_nil (wk_ops [.un 2] rfl)
  exact sv_ret (ed_var (i := 1) C (by decide +kernel) rfl)
theorem ok__law_corners {P : Program} {w : World} {K : PySem.W.Frag} {mg : Str → Option Value} {base : Heap} {f : Addr} {fd : FuncData} (F : Fun K "_law_corners" "_law_corners" st__law_corners f fd) (hF : Facts mg) (hC__law_low : Cal P w K mg base CX0 1 "_law_low" ["n", "d"] (spD K .dd (g2 m__law_low))) (hC__law_less : Cal P w K mg base CX0 1 "_law_less" ["one", "two"] (spD K .dd (g2 m__law_less))) (hC__law_at : Cal P w K mg base CX0 2 "_law_at" ["numbers", "spot"] (spD K .dd (g2 m__law_at))) : FnG P w K mg base CX0 3 f fd ["system"] (spD K .dd (g1 m__law_corners)) :=
  ok_def F fs__law_corners (fun ds r h => by obtain ⟨x0, y, e, _, _⟩ := h; rw [e]; rfl) 14 rfl (by decide) fun X h1 h2 h3 h4 h5 C ds r h => by subst h1 h2 h3 h4 h5; obtain ⟨x0, y, e1, e2, e3⟩ := h; subst e1 e3; exact body_of (bk__law_corners C hF hC__law_low hC__law_less hC__law_at x0) e2 (fun x h => nomatch h)
theorem bk_is_endless {X : Cx} (C : Ctx X N_is_endless (defScope st_is_endless) none 0) (hF : Facts X.mg)  (a_system : (List (T2 (T2 Int Int) Int))) :
    SV X (dats 8 [enc a_system]) (defBody st_is_endless) (fun _ : Unit => List.replicate 8 .un) (fun _ : Unit => List.replicate 8 .un) ⟨.dd, false⟩ (b_is_endless a_system) := by
  unfold b_is_endless
  refine sv_for (S1 := Unit) (P1 := fun s1 => [.dat (enc a_system), .un, .un, .un, .un, .un, .un, .un]) (s0 := ()) C (it_list (ed_var (i := 0) C (by decide +kernel) rfl)) (pg_tup (Ctx.calm C) (pgs_cons (pg_tup (Ctx.calm C) (pgs_cons (pgN (i := 2) C (by decide +kernel)) (pgs_cons (pgN (i := 3) C (by decide +kernel)) pgs_nil))) (pgs_cons (pgN (i := 1) C (by decide +kernel)) pgs_nil))) (tgt_t2 (tgt_t2 (tgt_name (i := 2)) (tgt_name (i := 3))) (tgt_name (i := 1))) (fun s1 => rfl) (wk_ops [] rfl) (fun s1 y2 => ?_) (fun s1 => ?_)
  · refine sv_for (S1 := Unit) (P1 := fun s3 => [.dat (enc a_system), .dat (enc y2.b), .dat (enc y2.a.a), .dat (enc y2.a.b), .un, .un, .un, .un]) (s0 := ()) C (it_tup (ed_tp2 (ed_t2 (ed_t2 (ed_neg (ed_var (i := 3) C (by decide +kernel) rfl)) (ed_var (i := 2) C (by decide +kernel) rfl)) (ed_t2 (ed_var (i := 3) C (by decide +kernel) rfl) (ed_neg (ed_var (i := 2) C (by decide +kernel) rfl)))))) (pg_tup (Ctx.calm C) (pgs_cons (pgN (i := 4) C (by decide +kernel)) (pgs_cons (pgN (i := 5) C (by decide +kernel)) pgs_nil))) (tgt_t2 (tgt_name (i := 4)) (tgt_name (i := 5))) (fun s3 => rfl) (wk_ops [] rfl) (fun s3 y4 => ?_) (fun s3 => ?_)
    · refine sv_if (S' := Unit) (P' := fun s6 => [.dat (enc a_system), .dat (enc y2.b), .dat (enc y2.a.a), .dat (enc y2.a.b), .dat (enc y4.a), .dat (enc y4.b), .un, .un]) (eb_of_ed (ed_all C (by decide +kernel) hF.all_ (er_of_eo (eo_lc (lc_mk (own := [("_", 1), ("a", 6), ("b", 7)]) C (it_list (ed_var (i := 0) C (by decide +kernel) rfl)) (by decide +kernel) (fun s5 H5 Ca5 cl5 fp5 => (pg_tup (Ctx.calm (Ctx.blk C s5 H5 _ Ca5 cl5 fp5 rfl)) (pgs_cons (pg_tup (Ctx.calm (Ctx.blk C s5 H5 _ Ca5 cl5 fp5 rfl)) (pgs_cons (pgN (i := 6) (Ctx.blk C s5 H5 _ Ca5 cl5 fp5 rfl) (by decide +kernel)) (pgs_cons (pgN (i := 7) (Ctx.blk C s5 H5 _ Ca5 cl5 fp5 rfl) (by decide +kernel)) pgs_nil))) (pgs_cons (pgN (i := 1) (Ctx.blk C s5 H5 _ Ca5 cl5 fp5 rfl) (by decide +kernel)) pgs_nil)))) (tgt_t2 (tgt_t2 (tgt_name (i := 6)) (tgt_name (i := 7))) (tgt_name (i := 1))) (by decide) rfl (fun s5 H5 Ca5 cl5 fp5 x5 => ets_nil) (fun s5 H5 Ca5 cl5 fp5 x5 => (ed_cmp (ec_le (ed_add (ed_mul (ed_var (i := 6) (Ctx.blk C s5 H5 _ Ca5 cl5 fp5 rfl) (by decide +kernel) rfl) (ed_var (i := 4) (Ctx.blk C s5 H5 _ Ca5 cl5 fp5 rfl) (by decide +kernel) rfl)) (ed_mul (ed_var (i := 7) (Ctx.blk C s5 H5 _ Ca5 cl5 fp5 rfl) (by decide +kernel) rfl) (ed_var (i := 5) (Ctx.blk C s5 H5 _ Ca5 cl5 fp5 rfl) (by decide +kernel) rfl))) ed_num)))))))) ?_ ?_ fun s6 => ?_
      · exact sv_ret ed_bl
      · exact sv_nil (wk_ops [] rfl)
      exact sv_nil (wk_ops [.un 4, .un 5] rfl)
    exact sv_nil (wk_ops [.un 1, .un 2, .un 3] rfl)
  exact sv_ret ed_bl
theorem ok_is_endless {P : Program} {w : World} {K : PySem.W.Frag} {mg : Str → Option Value} {base : Heap} {f : Addr} {fd : FuncData} (F : Fun K "is_endless" "is_endless" st_is_endless f fd) (hF : Facts mg)  : FnG P w K mg base CX0 1 f fd ["system"] (spD K .dd (g1 m_is_endless)) :=
  ok_def F fs_is_endless (fun ds r h => by obtain ⟨x0, y, e, _, _⟩ := h; rw [e]; rfl) 8 rfl (by decide) fun X h1 h2 h3 h4 h5 C ds r h => by subst h1 h2 h3 h4 h5; obtain ⟨x0, y, e1, e2, e3⟩ := h; subst e1 e3; exact body_of (bk_is_endless C hF  x0) e2 (fun x h => nomatch h)
theorem bk_fraction {X : Cx} (C : Ctx X N_fraction (defScope st_fraction) none 0) (hF : Facts X.mg)  (a_number : Int) (a_by : Int) :
    SV X (dats 3 [enc a_number, enc a_by]) (defBody st_fraction) (fun _ : Unit => List.replicate 3 .un) (fun _ : Unit => List.replicate 3 .un) ⟨.dd, false⟩ (b_fraction a_number a_by) := by
  unfold b_fraction
  refine sv_if (S' := (Int × Int)) (P' := fun s1 => [.dat (enc s1.1), .dat (enc s1.2), .un]) (eb_cmp (ec_lt (ed_var (i := 1) C (by decide +kernel) rfl) ed_num)) ?_ ?_ fun s1 => ?_
  · refine sv_par (i := 0) (j := 1) C (by decide +kernel) (by decide +kernel) (by decide) (by decide +kernel) (by decide +kernel) (ed_neg (ed_var (i := 0) C (by decide +kernel) rfl)) (ed_neg (ed_var (i := 1) C (by decide +kernel) rfl)) fun v_number_2 v_by_3 => ?_
    exact sv_nil (wk_ops [] rfl)
  · exact sv_nil (wk_ops [] rfl)
  refine sv_set (i := 2) C (by decide +kernel) (ed_gcd C (by decide +kernel) hF.gcd_ (ed_var (i := 0) C (by decide +kernel) rfl) (ed_var (i := 1) C (by decide +kernel) rfl)) fun v_common_4 => ?_
  exact sv_ret (ed_t2 (ed_fdiv (ed_var (i := 0) C (by decide +kernel) rfl) (ed_var (i := 2) C (by decide +kernel) rfl)) (ed_fdiv (ed_var (i := 1) C (by decide +kernel) rfl) (ed_var (i := 2) C (by decide +kernel) rfl)))
theorem ok_fraction {P : Program} {w : World} {K : PySem.W.Frag} {mg : Str → Option Value} {base : Heap} {f : Addr} {fd : FuncData} (F : Fun K "fraction" "fraction" st_fraction f fd) (hF : Facts mg)  : FnG P w K mg base CX0 1 f fd ["number", "by"] (spD K .dd (g2 m_fraction)) :=
  ok_def F fs_fraction (fun ds r h => by obtain ⟨x0, x1, y, e, _, _⟩ := h; rw [e]; rfl) 3 rfl (by decide) fun X h1 h2 h3 h4 h5 C ds r h => by subst h1 h2 h3 h4 h5; obtain ⟨x0, x1, y, e1, e2, e3⟩ := h; subst e1 e3; exact body_of (bk_fraction C hF  x0 x1) e2 (fun x h => nomatch h)
theorem bk_minus {X : Cx} (C : Ctx X N_minus (defScope st_minus) none 1) (hF : Facts X.mg) (hC_fraction : Cal X.prog X.w X.K X.mg X.base CX0 1 "fraction" ["number", "by"] (spD X.K .dd (g2 m_fraction))) (a_one : (T2 Int Int)) (a_two : (T2 Int Int)) :
    SV X (dats 2 [enc a_one, enc a_two]) (defBody st_minus) (fun _ : Unit => List.replicate 2 .un) (fun _ : Unit => List.replicate 2 .un) ⟨.dd, false⟩ (b_minus a_one a_two) := by
  unfold b_minus
  exact sv_ret (ed_call C hC_fraction (by decide) (by decide +kernel) (ad_cons (ed_sub (ed_mul (ed_20 (ed_var (i := 0) C (by decide +kernel) rfl)) (ed_21 (ed_var (i := 1) C (by decide +kernel) rfl))) (ed_mul (ed_20 (ed_var (i := 1) C (by decide +kernel) rfl)) (ed_21 (ed_var (i := 0) C (by decide +kernel) rfl)))) (ad_cons (ed_mul (ed_21 (ed_var (i := 0) C (by decide +kernel) rfl)) (ed_21 (ed_var (i := 1) C (by decide +kernel) rfl))) ad_nil)) go2)
theorem ok_minus {P : Program} {w : World} {K : PySem.W.Frag} {mg : Str → Option Value} {base : Heap} {f : Addr} {fd : FuncData} (F : Fun K "minus" "minus" st_minus f fd) (hF : Facts mg) (hC_fraction : Cal P w K mg base CX0 1 "fraction" ["number", "by"] (spD K .dd (g2 m_fraction))) : FnG P w K mg base CX0 2 f fd ["one", "two"] (spD K .dd (g2 m_minus)) :=
  ok_def F fs_minus (fun ds r h => by obtain ⟨x0, x1, y, e, _, _⟩ := h; rw [e]; rfl) 2 rfl (by decide) fun X h1 h2 h3 h4 h5 C ds r h => by subst h1 h2 h3 h4 h5; obtain ⟨x0, x1, y, e1, e2, e3⟩ := h; subst e1 e3; exact body_of (bk_minus C hF hC_fraction x0 x1) e2 (fun x h => nomatch h)
theorem bk_times {X : Cx} (C : Ctx X N_times (defScope st_times) none 1) (hF : Facts X.mg) (hC_fraction : Cal X.prog X.w X.K X.mg X.base CX0 1 "fraction" ["number", "by"] (spD X.K .dd (g2 m_fraction))) (a_one : (T2 Int Int)) (a_two : (T2 Int Int)) :
    SV X (dats 2 [enc a_one, enc a_two]) (defBody st_times) (fun _ : Unit => List.replicate 2 .un) (fun _ : Unit => List.replicate 2 .un) ⟨.dd, false⟩ (b_times a_one a_two) := by
  unfold b_times
  exact sv_ret (ed_call C hC_fraction (by decide) (by decide +kernel) (ad_cons (ed_mul (ed_20 (ed_var (i := 0) C (by decide +kernel) rfl)) (ed_20 (ed_var (i := 1) C (by decide +kernel) rfl))) (ad_cons (ed_mul (ed_21 (ed_var (i := 0) C (by decide +kernel) rfl)) (ed_21 (ed_var (i := 1) C (by decide +kernel) rfl))) ad_nil)) go2)
theorem ok_times {P : Program} {w : World} {K : PySem.W.Frag} {mg : Str → Option Value} {base : Heap} {f : Addr} {fd : FuncData} (F : Fun K "times" "times" st_times f fd) (hF : Facts mg) (hC_fraction : Cal P w K mg base CX0 1 "fraction" ["number", "by"] (spD K .dd (g2 m_fraction))) : FnG P w K mg base CX0 2 f fd ["one", "two"] (spD K .dd (g2 m_times)) :=
  ok_def F fs_times (fun ds r h => by obtain ⟨x0, x1, y, e, _, _⟩ := h; rw [e]; rfl) 2 rfl (by decide) fun X h1 h2 h3 h4 h5 C ds r h => by subst h1 h2 h3 h4 h5; obtain ⟨x0, x1, y, e1, e2, e3⟩ := h; subst e1 e3; exact body_of (bk_times C hF hC_fraction x0 x1) e2 (fun x h => nomatch h)
theorem bk_is_wide {X : Cx} (C : Ctx X N_is_wide (defScope st_is_wide) none 2) (hF : Facts X.mg) (hC_minus : Cal X.prog X.w X.K X.mg X.base CX0 2 "minus" ["one", "two"] (spD X.K .dd (g2 m_minus))) (hC_times : Cal X.prog X.w X.K X.mg X.base CX0 2 "times" ["one", "two"] (spD X.K .dd (g2 m_times))) (a_spots : (List (T2 (T2 Int Int) (T2 Int Int)))) :
    SV X (dats 5 [enc a_spots]) (defBody st_is_wide) (fun _ : Unit => List.replicate 5 .un) (fun _ : Unit => List.replicate 5 .un) ⟨.dd, false⟩ (b_is_wide a_spots) := by
  unfold b_is_wide
  refine sv_for (S1 := Unit) (P1 := fun s1 => [.dat (enc a_spots), .un, .un, .un, .un]) (s0 := ()) C (it_list (ed_var (i := 0) C (by decide +kernel) rfl)) (pgN (i := 1) C (by decide +kernel)) (tgt_name (i := 1)) (fun s1 => rfl) (wk_ops [] rfl) (fun s1 y2 => ?_) (fun s1 => ?_)
  · refine sv_for (S1 := Unit) (P1 := fun s3 => [.dat (enc a_spots), .dat (enc y2), .un, .un, .un]) (s0 := ()) C (it_list (ed_var (i := 0) C (by decide +kernel) rfl)) (pgN (i := 2) C (by decide +kernel)) (tgt_name (i := 2)) (fun s3 => rfl) (wk_ops [] rfl) (fun s3 y4 => ?_) (fun s3 => ?_)
    · refine sv_set (i := 3) C (by decide +kernel) (ed_t2 (ed_call C hC_minus (by decide) (by decide +kernel) (ad_cons (ed_20 (ed_var (i := 1) C (by decide +kernel) rfl)) (ad_cons (ed_20 (ed_ix (ed_var (i := 0) C (by decide +kernel) rfl) ed_num)) ad_nil)) go2) (ed_call C hC_minus (by decide) (by decide +kernel) (ad_cons (ed_21 (ed_var (i := 1) C (by decide +kernel) rfl)) (ad_cons (ed_21 (ed_ix (ed_var (i := 0) C (by decide +kernel) rfl) ed_num)) ad_nil)) go2)) fun v_gap_5 => ?_
      refine sv_set (i := 4) C (by decide +kernel) (ed_t2 (ed_call C hC_minus (by decide) (by decide +kernel) (ad_cons (ed_20 (ed_var (i := 2) C (by decide +kernel) rfl)) (ad_cons (ed_20 (ed_ix (ed_var (i := 0) C (by decide +kernel) rfl) ed_num)) ad_nil)) go2) (ed_call C hC_minus (by decide) (by decide +kernel) (ad_cons (ed_21 (ed_var (i := 2) C (by decide +kernel) rfl)) (ad_cons (ed_21 (ed_ix (ed_var (i := 0) C (by decide +kernel) rfl) ed_num)) ad_nil)) go2)) fun v_other_6 => ?_
      refine sv_if (S' := Unit) (P' := fun s7 => [.dat (enc a_spots), .dat (enc y2), .dat (enc y4), .dat (enc v_gap_5), .dat (enc v_other_6)]) (eb_cmp (ec_neD C (ed_call C hC_times (by decide) (by decide +kernel) (ad_cons (ed_20 (ed_var (i := 3) C (by decide +kernel) rfl)) (ad_cons (ed_21 (ed_var (i := 4) C (by decide +kernel) rfl)) ad_nil)) go2) (ed_call C hC_times (by decide) (by decide +kernel) (ad_cons (ed_21 (ed_var (i := 3) C (by decide +kernel) rfl)) (ad_cons (ed_20 (ed_var (i := 4) C (by decide +kernel) rfl)) ad_nil)) go2))) ?_ ?_ fun s7 => ?_
      · exact sv_ret ed_bl
      · exact sv_nil (wk_ops [] rfl)
      exact sv_nil (wk_ops [.un 2, .un 3, .un 4] rfl)
    exact sv_nil (wk_ops [.un 1] rfl)
  exact sv_ret ed_bl
theorem ok_is_wide {P : Program} {w : World} {K : PySem.W.Frag} {mg : Str → Option Value} {base : Heap} {f : Addr} {fd : FuncData} (F : Fun K "is_wide" "is_wide" st_is_wide f fd) (hF : Facts mg) (hC_minus : Cal P w K mg base CX0 2 "minus" ["one", "two"] (spD K .dd (g2 m_minus))) (hC_times : Cal P w K mg base CX0 2 "times" ["one", "two"] (spD K .dd (g2 m_times))) : FnG P w K mg base CX0 3 f fd ["spots"] (spD K .dd (g1 m_is_wide)) :=
  ok_def F fs_is_wide (fun ds r h => by obtain ⟨x0, y, e, _, _⟩ := h; rw [e]; rfl) 5 rfl (by decide) fun X h1 h2 h3 h4 h5 C ds r h => by subst h1 h2 h3 h4 h5; obtain ⟨x0, y, e1, e2, e3⟩ := h; subst e1 e3; exact body_of (bk_is_wide C hF hC_minus hC_times x0) e2 (fun x h => nomatch h)
theorem bk_crossing {X : Cx} (C : Ctx X N_crossing (defScope st_crossing) none 1) (hF : Facts X.mg) (hC_fraction : Cal X.prog X.w X.K X.mg X.base CX0 1 "fraction" ["number", "by"] (spD X.K .dd (g2 m_fraction))) (a_one : (T2 (T2 Int Int) Int)) (a_two : (T2 (T2 Int Int) Int)) :
    SV X (dats 9 [enc a_one, enc a_two]) (defBody st_crossing) (fun _ : Unit => List.replicate 9 .un) (fun _ : Unit => List.replicate 9 .un) ⟨.dd, false⟩ (b_crossing a_one a_two) := by
  unfold b_crossing
  refine sv_unpack (pg_tup (Ctx.calm C) (pgs_cons (pg_tup (Ctx.calm C) (pgs_cons (pgN (i := 5) C (by decide +kernel)) (pgs_cons (pgN (i := 6) C (by decide +kernel)) pgs_nil))) (pgs_cons (pgN (i := 3) C (by decide +kernel)) pgs_nil))) (tgt_t2 (tgt_t2 (tgt_name (i := 5)) (tgt_name (i := 6))) (tgt_name (i := 3))) rfl (ed_var (i := 0) C (by decide +kernel) rfl) fun u1 => ?_
  refine sv_unpack (pg_tup (Ctx.calm C) (pgs_cons (pg_tup (Ctx.calm C) (pgs_cons (pgN (i := 7) C (by decide +kernel)) (pgs_cons (pgN (i := 8) C (by decide +kernel)) pgs_nil))) (pgs_cons (pgN (i := 4) C (by decide +kernel)) pgs_nil))) (tgt_t2 (tgt_t2 (tgt_name (i := 7)) (tgt_name (i := 8))) (tgt_name (i := 4))) rfl (ed_var (i := 1) C (by decide +kernel) rfl) fun u2 => ?_
  refine sv_set (i := 2) C (by decide +kernel) (ed_sub (ed_mul (ed_var (i := 5) C (by decide +kernel) rfl) (ed_var (i := 8) C (by decide +kernel) rfl)) (ed_mul (ed_var (i := 6) C (by decide +kernel) rfl) (ed_var (i := 7) C (by decide +kernel) rfl))) fun v_whole_3 => ?_
  refine sv_if (S' := Unit) (P' := fun s4 => [.dat (enc a_one), .dat (enc a_two), .dat (enc v_whole_3), .dat (enc u1.b), .dat (enc u2.b), .dat (enc u1.a.a), .dat (enc u1.a.b), .dat (enc u2.a.a), .dat (enc u2.a.b)]) (eb_cmp (ec_eqI (ed_var (i := 2) C (by decide +kernel) rfl) ed_num)) ?_ ?_ fun s4 => ?_
  · exact sv_ret ed_none
  · exact sv_nil (wk_ops [] rfl)
  exact sv_ret (ed_some (ed_t2 (ed_call C hC_fraction (by decide) (by decide +kernel) (ad_cons (ed_sub (ed_mul (ed_var (i := 3) C (by decide +kernel) rfl) (ed_var (i := 8) C (by decide +kernel) rfl)) (ed_mul (ed_var (i := 6) C (by decide +kernel) rfl) (ed_var (i := 4) C (by decide +kernel) rfl))) (ad_cons (ed_var (i := 2) C (by decide +kernel) rfl) ad_nil)) go2) (ed_call C hC_fraction (by decide) (by decide +kernel) (ad_cons (ed_sub (ed_mul (ed_var (i := 5) C (by decide +kernel) rfl) (ed_var (i := 4) C (by decide +kernel) rfl)) (ed_mul (ed_var (i := 3) C (by decide +kernel) rfl) (ed_var (i := 7) C (by decide +kernel) rfl))) (ad_cons (ed_var (i := 2) C (by decide +kernel) rfl) ad_nil)) go2)))
theorem ok_crossing {P : Program} {w : World} {K : PySem.W.Frag} {mg : Str → Option Value} {base : Heap} {f : Addr} {fd : FuncData} (F : Fun K "crossing" "crossing" st_crossing f fd) (hF : Facts mg) (hC_fraction : Cal P w K mg base CX0 1 "fraction" ["number", "by"] (spD K .dd (g2 m_fraction))) : FnG P w K mg base CX0 2 f fd ["one", "two"] (spD K .dd (g2 m_crossing)) :=
  ok_def F fs_crossing (fun ds r h => by obtain ⟨x0, x1, y, e, _, _⟩ := h; rw [e]; rfl) 9 rfl (by decide) fun X h1 h2 h3 h4 h5 C ds r h => by subst h1 h2 h3 h4 h5; obtain ⟨x0, x1, y, e1, e2, e3⟩ := h; subst e1 e3; exact body_of (bk_crossing C hF hC_fraction x0 x1) e2 (fun x h => nomatch h)
theorem bk_is_less {X : Cx} (C : Ctx X N_is_less (defScope st_is_less) none 0) (hF : Facts X.mg)  (a_one : (T2 Int Int)) (a_two : (T2 Int Int)) :
    SV X (dats 2 [enc a_one, enc a_two]) (defBody st_is_less) (fun _ : Unit => List.replicate 2 .un) (fun _ : Unit => List.replicate 2 .un) ⟨.dd, false⟩ (b_is_less a_one a_two) := by
  unfold b_is_less
  exact sv_ret (ed_cmp (ec_lt (ed_mul (ed_20 (ed_var (i := 0) C (by decide +kernel) rfl)) (ed_21 (ed_var (i := 1) C (by decide +kernel) rfl))) (ed_mul (ed_20 (ed_var (i := 1) C (by decide +kernel) rfl)) (ed_21 (ed_var (i := 0) C (by decide +kernel) rfl)))))
theorem ok_is_less {P : Program} {w : World} {K : PySem.W.Frag} {mg : Str → Option Value} {base : Heap} {f : Addr} {fd : FuncData} (F : Fun K "is_less" "is_less" st_is_less f fd) (hF : Facts mg)  : FnG P w K mg base CX0 1 f fd ["one", "two"] (spD K .dd (g2 m_is_less)) :=
  ok_def F fs_is_less (fun ds r h => by obtain ⟨x0, x1, y, e, _, _⟩ := h; rw [e]; rfl) 2 rfl (by decide) fun X h1 h2 h3 h4 h5 C ds r h => by subst h1 h2 h3 h4 h5; obtain ⟨x0, x1, y, e1, e2, e3⟩ := h; subst e1 e3; exact body_of (bk_is_less C hF  x0 x1) e2 (fun x h => nomatch h)
theorem bk_plus {X : Cx} (C : Ctx X N_plus (defScope st_plus) none 1) (hF : Facts X.mg) (hC_fraction : Cal X.prog X.w X.K X.mg X.base CX0 1 "fraction" ["number", "by"] (spD X.K .dd (g2 m_fraction))) (a_one : (T2 Int Int)) (a_two : (T2 Int Int)) :
    SV X (dats 2 [enc a_one, enc a_two]) (defBody st_plus) (fun _ : Unit => List.replicate 2 .un) (fun _ : Unit => List.replicate 2 .un) ⟨.dd, false⟩ (b_plus a_one a_two) := by
  unfold b_plus
  exact sv_ret (ed_call C hC_fraction (by decide) (by decide +kernel) (ad_cons (ed_add (ed_mul (ed_20 (ed_var (i := 0) C (by decide +kernel) rfl)) (ed_21 (ed_var (i := 1) C (by decide +kernel) rfl))) (ed_mul (ed_20 (ed_var (i := 1) C (by decide +kernel) rfl)) (ed_21 (ed_var (i := 0) C (by decide +kernel) rfl)))) (ad_cons (ed_mul (ed_21 (ed_var (i := 0) C (by decide +kernel) rfl)) (ed_21 (ed_var (i := 1) C (by decide +kernel) rfl))) ad_nil)) go2)
theorem ok_plus {P : Program} {w : World} {K : PySem.W.Frag} {mg : Str → Option Value} {base : Heap} {f : Addr} {fd : FuncData} (F : Fun K "plus" "plus" st_plus f fd) (hF : Facts mg) (hC_fraction : Cal P w K mg base CX0 1 "fraction" ["number", "by"] (spD K .dd (g2 m_fraction))) : FnG P w K mg base CX0 2 f fd ["one", "two"] (spD K .dd (g2 m_plus)) :=
  ok_def F fs_plus (fun ds r h => by obtain ⟨x0, x1, y, e, _, _⟩ := h; rw [e]; rfl) 2 rfl (by decide) fun X h1 h2 h3 h4 h5 C ds r h => by subst h1 h2 h3 h4 h5; obtain ⟨x0, x1, y, e1, e2, e3⟩ := h; subst e1 e3; exact body_of (bk_plus C hF hC_fraction x0 x1) e2 (fun x h => nomatch h)
theorem bk_sum_at {X : Cx} (C : Ctx X N_sum_at (defScope st_sum_at) none 2) (hF : Facts X.mg) (hC_plus : Cal X.prog X.w X.K X.mg X.base CX0 2 "plus" ["one", "two"] (spD X.K .dd (g2 m_plus))) (hC_times : Cal X.prog X.w X.K X.mg X.base CX0 2 "times" ["one", "two"] (spD X.K .dd (g2 m_times))) (a_numbers : (T2 Int Int)) (a_spot : (Option (T2 (T2 Int Int) (T2 Int Int)))) :
    SV X (dats 2 [enc a_numbers, enc a_spot]) (defBody st_sum_at) (fun _ : Unit => List.replicate 2 .un) (fun _ : Unit => List.replicate 2 .un) ⟨.dd, false⟩ (b_sum_at a_numbers a_spot) := by
  unfold b_sum_at
  exact sv_ret (ed_call C hC_plus (by decide) (by decide +kernel) (ad_cons (ed_call C hC_times (by decide) (by decide +kernel) (ad_cons (ed_t2 (ed_20 (ed_var (i := 0) C (by decide +kernel) rfl)) ed_num) (ad_cons (ed_20 (ed_get (ed_var (i := 1) C (by decide +kernel) rfl))) ad_nil)) go2) (ad_cons (ed_call C hC_times (by decide) (by decide +kernel) (ad_cons (ed_t2 (ed_21 (ed_var (i := 0) C (by decide +kernel) rfl)) ed_num) (ad_cons (ed_21 (ed_get (ed_var (i := 1) C (by decide +kernel) rfl))) ad_nil)) go2) ad_nil)) go2)
theorem ok_sum_at {P : Program} {w : World} {K : PySem.W.Frag} {mg : Str → Option Value} {base : Heap} {f : Addr} {fd : FuncData} (F : Fun K "sum_at" "sum_at" st_sum_at f fd) (hF : Facts mg) (hC_plus : Cal P w K mg base CX0 2 "plus" ["one", "two"] (spD K .dd (g2 m_plus))) (hC_times : Cal P w K mg base CX0 2 "times" ["one", "two"] (spD K .dd (g2 m_times))) : FnG P w K mg base CX0 3 f fd ["numbers", "spot"] (spD K .dd (g2 m_sum_at)) :=
  ok_def F fs_sum_at (fun ds r h => by obtain ⟨x0, x1, y, e, _, _⟩ := h; rw [e]; rfl) 2 rfl (by decide) fun X h1 h2 h3 h4 h5 C ds r h => by subst h1 h2 h3 h4 h5; obtain ⟨x0, x1, y, e1, e2, e3⟩ := h; subst e1 e3; exact body_of (bk_sum_at C hF hC_plus hC_times x0 x1) e2 (fun x h => nomatch h)
theorem bk_is_in {X : Cx} (C : Ctx X N_is_in (defScope st_is_in) none 3) (hF : Facts X.mg) (hC_is_less : Cal X.prog X.w X.K X.mg X.base CX0 1 "is_less" ["one", "two"] (spD X.K .dd (g2 m_is_less))) (hC_sum_at : Cal X.prog X.w X.K X.mg X.base CX0 3 "sum_at" ["numbers", "spot"] (spD X.K .dd (g2 m_sum_at))) (a_system : (List (T2 (T2 Int Int) Int))) (a_spot : (Option (T2 (T2 Int Int) (T2 Int Int)))) :
    SV X (dats 4 [enc a_system, enc a_spot]) (defBody st_is_in) (fun _ : Unit => List.replicate 4 .un) (fun _ : Unit => List.replicate 4 .un) ⟨.dd, false⟩ (b_is_in a_system a_spot) := by
  unfold b_is_in
  exact sv_ret (ed_not (ed_any C (by decide +kernel) hF.any_ (er_of_eo (eo_lc (lc_mk (own := [("limit", 3), ("numbers", 2)]) C (it_list (ed_var (i := 0) C (by decide +kernel) rfl)) (by decide +kernel) (fun s1 H1 Ca1 cl1 fp1 => (pg_tup (Ctx.calm (Ctx.blk C s1 H1 _ Ca1 cl1 fp1 rfl)) (pgs_cons (pgN (i := 2) (Ctx.blk C s1 H1 _ Ca1 cl1 fp1 rfl) (by decide +kernel)) (pgs_cons (pgN (i := 3) (Ctx.blk C s1 H1 _ Ca1 cl1 fp1 rfl) (by decide +kernel)) pgs_nil)))) (tgt_t2 (tgt_name (i := 2)) (tgt_name (i := 3))) (by decide) rfl (fun s1 H1 Ca1 cl1 fp1 x1 => ets_nil) (fun s1 H1 Ca1 cl1 fp1 x1 => (ed_call (Ctx.blk C s1 H1 _ Ca1 cl1 fp1 rfl) hC_is_less (by decide) (by decide +kernel) (ad_cons (ed_t2 (ed_var (i := 3) (Ctx.blk C s1 H1 _ Ca1 cl1 fp1 rfl) (by decide +kernel) rfl) ed_num) (ad_cons (ed_call (Ctx.blk C s1 H1 _ Ca1 cl1 fp1 rfl) hC_sum_at (by decide) (by decide +kernel) (ad_cons (ed_var (i := 2) (Ctx.blk C s1 H1 _ Ca1 cl1 fp1 rfl) (by decide +kernel) rfl) (ad_cons (ed_var (i := 1) (Ctx.blk C s1 H1 _ Ca1 cl1 fp1 rfl) (by decide +kernel) rfl) ad_nil)) go2) ad_nil)) go2)))))))
theorem ok_is_in {P : Program} {w : World} {K : PySem.W.Frag} {mg : Str → Option Value} {base : Heap} {f : Addr} {fd : FuncData} (F : Fun K "is_in" "is_in" st_is_in f fd) (hF : Facts mg) (hC_is_less : Cal P w K mg base CX0 1 "is_less" ["one", "two"] (spD K .dd (g2 m_is_less))) (hC_sum_at : Cal P w K mg base CX0 3 "sum_at" ["numbers", "spot"] (spD K .dd (g2 m_sum_at))) : FnG P w K mg base CX0 4 f fd ["system", "spot"] (spD K .dd (g2 m_is_in)) :=
  ok_def F fs_is_in (fun ds r h => by obtain ⟨x0, x1, y, e, _, _⟩ := h; rw [e]; rfl) 4 rfl (by decide) fun X h1 h2 h3 h4 h5 C ds r h => by subst h1 h2 h3 h4 h5; obtain ⟨x0, x1, y, e1, e2, e3⟩ := h; subst e1 e3; exact body_of (bk_is_in C hF hC_is_less hC_sum_at x0 x1) e2 (fun x h => nomatch h)
theorem bk_precedes {X : Cx} (C : Ctx X N_precedes (defScope st_precedes) none 1) (hF : Facts X.mg) (hC_is_less : Cal X.prog X.w X.K X.mg X.base CX0 1 "is_less" ["one", "two"] (spD X.K .dd (g2 m_is_less))) (a_one : (T2 (T2 Int Int) (T2 Int Int))) (a_two : (Option (T2 (T2 Int Int) (T2 Int Int)))) :
    SV X (dats 2 [enc a_one, enc a_two]) (defBody st_precedes) (fun _ : Unit => List.replicate 2 .un) (fun _ : Unit => List.replicate 2 .un) ⟨.dd, false⟩ (b_precedes a_one a_two) := by
  unfold b_precedes
  exact sv_ret (ed_or (ed_call C hC_is_less (by decide) (by decide +kernel) (ad_cons (ed_20 (ed_var (i := 0) C (by decide +kernel) rfl)) (ad_cons (ed_20 (ed_get (ed_var (i := 1) C (by decide +kernel) rfl))) ad_nil)) go2) (ed_one (ed_and (ed_cmp (ec_eqD C (ed_20 (ed_var (i := 0) C (by decide +kernel) rfl)) (ed_20 (ed_get (ed_var (i := 1) C (by decide +kernel) rfl))))) (ed_one (ed_call C hC_is_less (by decide) (by decide +kernel) (ad_cons (ed_21 (ed_var (i := 0) C (by decide +kernel) rfl)) (ad_cons (ed_21 (ed_get (ed_var (i := 1) C (by decide +kernel) rfl))) ad_nil)) go2)))))
theorem ok_precedes {P : Program} {w : World} {K : PySem.W.Frag} {mg : Str → Option Value} {base : Heap} {f : Addr} {fd : FuncData} (F : Fun K "precedes" "precedes" st_precedes f fd) (hF : Facts mg) (hC_is_less : Cal P w K mg base CX0 1 "is_less" ["one", "two"] (spD K .dd (g2 m_is_less))) : FnG P w K mg base CX0 2 f fd ["one", "two"] (spD K .dd (g2 m_precedes)) :=
  ok_def F fs_precedes (fun ds r h => by obtain ⟨x0, x1, y, e, _, _⟩ := h; rw [e]; rfl) 2 rfl (by decide) fun X h1 h2 h3 h4 h5 C ds r h => by subst h1 h2 h3 h4 h5; obtain ⟨x0, x1, y, e1, e2, e3⟩ := h; subst e1 e3; exact body_of (bk_precedes C hF hC_is_less x0 x1) e2 (fun x h => nomatch h)
theorem bk_corners_of {X : Cx} (C : Ctx X N_corners_of (defScope st_corners_of) none 4) (hF : Facts X.mg) (hC_crossing : Cal X.prog X.w X.K X.mg X.base CX0 2 "crossing" ["one", "two"] (spD X.K .dd (g2 m_crossing))) (hC_is_in : Cal X.prog X.w X.K X.mg X.base CX0 4 "is_in" ["system", "spot"] (spD X.K .dd (g2 m_is_in))) (hC_precedes : Cal X.prog X.w X.K X.mg X.base CX0 2 "precedes" ["one", "two"] (spD X.K .dd (g2 m_precedes))) (a_system : (List (T2 (T2 Int Int) Int))) :
    SV X (dats 8 [enc a_system]) (defBody st_corners_of) (fun _ : Unit => List.replicate 8 .un) (fun _ : Unit => List.replicate 8 .un) ⟨.dd, false⟩ (b_corners_of a_system) := by
  unfold b_corners_of
  refine sv_set (i := 1) C (by decide +kernel) (ed_of_eo (eo_list (al_nil (α := (T2 (T2 Int Int) (T2 Int Int)))))) fun v_found_1 => ?_
  refine sv_for (S1 := (List (T2 (T2 Int Int) (T2 Int Int)))) (P1 := fun s2 => [.dat (enc a_system), .dat (enc s2), .un, .un, .un, .un, .un, .un]) (s0 := v_found_1) C (it_enum C (by decide +kernel) hF.enumerate_ (ed_var (i := 0) C (by decide +kernel) rfl)) (pg_tup (Ctx.calm C) (pgs_cons (pgN (i := 2) C (by decide +kernel)) (pgs_cons (pgN (i := 3) C (by decide +kernel)) pgs_nil))) (tgt_t2 (tgt_name (i := 2)) (tgt_name (i := 3))) (fun s2 => rfl) (wk_ops [] rfl) (fun s2 y3 => ?_) (fun s2 => ?_)
  · refine sv_for (S1 := (List (T2 (T2 Int Int) (T2 Int Int)))) (P1 := fun s4 => [.dat (enc a_system), .dat (enc s4), .dat (enc y3.a), .dat (enc y3.b), .un, .un, .un, .un]) (s0 := s2) C (it_list (ed_of_eo (eo_slice (ed_var (i := 0) C (by decide +kernel) rfl) ep_none (ep_some (ed_var (i := 2) C (by decide +kernel) rfl))))) (pgN (i := 4) C (by decide +kernel)) (tgt_name (i := 4)) (fun s4 => rfl) (wk_ops [] rfl) (fun s4 y5 => ?_) (fun s4 => ?_)
    · refine sv_set (i := 5) C (by decide +kernel) (ed_call C hC_crossing (by decide) (by decide +kernel) (ad_cons (ed_var (i := 3) C (by decide +kernel) rfl) (ad_cons (ed_var (i := 4) C (by decide +kernel) rfl) ad_nil)) go2) fun v_spot_6 => ?_
      refine sv_if (S' := (List (T2 (T2 Int Int) (T2 Int Int)))) (P' := fun s7 => [.dat (enc a_system), .dat (enc s7), .dat (enc y3.a), .dat (enc y3.b), .dat (enc y5), .dat (enc v_spot_6), .un, .un]) (eb_bool (ew_and (eb_cmp (ec_notN (ed_var (i := 5) C (by decide +kernel) rfl))) (ew_and (eb_cmp (ec_notIn C (ed_get (ed_var (i := 5) C (by decide +kernel) rfl)) (er_of_ed (ed_var (i := 1) C (by decide +kernel) rfl)))) (ew_and1 (eb_of_ed (ed_call C hC_is_in (by decide) (by decide +kernel) (ad_cons (ed_var (i := 0) C (by decide +kernel) rfl) (ad_cons (ed_var (i := 5) C (by decide +kernel) rfl) ad_nil)) go2)))))) ?_ ?_ fun s7 => ?_
      · refine sv_set (i := 6) C (by decide +kernel) (ed_len C (by decide +kernel) hF.len_ (er_of_eo (eo_lc (lc_mk (own := [("other", 7)]) C (it_list (ed_var (i := 1) C (by decide +kernel) rfl)) (by decide +kernel) (fun s9 H9 Ca9 cl9 fp9 => (pgN (i := 7) (Ctx.blk C s9 H9 _ Ca9 cl9 fp9 rfl) (by decide +kernel))) (tgt_name (i := 7)) (by decide) rfl (fun s9 H9 Ca9 cl9 fp9 x9 => (ets_one (eb_of_ed (ed_call (Ctx.blk C s9 H9 _ Ca9 cl9 fp9 rfl) hC_precedes (by decide) (by decide +kernel) (ad_cons (ed_var (i := 7) (Ctx.blk C s9 H9 _ Ca9 cl9 fp9 rfl) (by decide +kernel) rfl) (ad_cons (ed_var (i := 5) (Ctx.blk C s9 H9 _ Ca9 cl9 fp9 rfl) (by decide +kernel) rfl) ad_nil)) go2)))) (fun s9 H9 Ca9 cl9 fp9 x9 => (ed_var (i := 7) (Ctx.blk C s9 H9 _ Ca9 cl9 fp9 rfl) (by decide +kernel) rfl)))))) fun v_at_8 => ?_
        refine sv_set (i := 1) C (by decide +kernel) (ed_of_eo (eo_cat (ed_of_eo (eo_cat (ed_of_eo (eo_slice (ed_var (i := 1) C (by decide +kernel) rfl) ep_none (ep_some (ed_var (i := 6) C (by decide +kernel) rfl)))) (ed_of_eo (eo_list (al_cons (ed_get (ed_var (i := 5) C (by decide +kernel) rfl)) (al_nil (α := (T2 (T2 Int Int) (T2 Int Int))))))))) (ed_of_eo (eo_slice (ed_var (i := 1) C (by decide +kernel) rfl) (ep_some (ed_var (i := 6) C (by decide +kernel) rfl)) ep_none)))) fun v_found_10 => ?_
        exact sv_nil (wk_ops [.un 6] rfl)
      · exact sv_nil (wk_ops [] rfl)
      exact sv_nil (wk_ops [.un 4, .un 5] rfl)
    exact sv_nil (wk_ops [.un 2, .un 3] rfl)
  exact sv_ret (ed_var (i := 1) C (by decide +kernel) rfl)
theorem ok_corners_of {P : Program} {w : World} {K : PySem.W.Frag} {mg : Str → Option Value} {base : Heap} {f : Addr} {fd : FuncData} (F : Fun K "corners_of" "corners_of" st_corners_of f fd) (hF : Facts mg) (hC_crossing : Cal P w K mg base CX0 2 "crossing" ["one", "two"] (spD K .dd (g2 m_crossing))) (hC_is_in : Cal P w K mg base CX0 4 "is_in" ["system", "spot"] (spD K .dd (g2 m_is_in))) (hC_precedes : Cal P w K mg base CX0 2 "precedes" ["one", "two"] (spD K .dd (g2 m_precedes))) : FnG P w K mg base CX0 5 f fd ["system"] (spD K .dd (g1 m_corners_of)) :=
  ok_def F fs_corners_of (fun ds r h => by obtain ⟨x0, y, e, _, _⟩ := h; rw [e]; rfl) 8 rfl (by decide) fun X h1 h2 h3 h4 h5 C ds r h => by subst h1 h2 h3 h4 h5; obtain ⟨x0, y, e1, e2, e3⟩ := h; subst e1 e3; exact body_of (bk_corners_of C hF hC_crossing hC_is_in hC_precedes x0) e2 (fun x h => nomatch h)
theorem bk_check_system {X : Cx} (C : Ctx X N_check_system (defScope st_check_system) none 5) (hF : Facts X.mg) (hC_is_endless : Cal X.prog X.w X.K X.mg X.base CX0 1 "is_endless" ["system"] (spD X.K .dd (g1 m_is_endless))) (hC_is_wide : Cal X.prog X.w X.K X.mg X.base CX0 3 "is_wide" ["spots"] (spD X.K .dd (g1 m_is_wide))) (hC_corners_of : Cal X.prog X.w X.K X.mg X.base CX0 5 "corners_of" ["system"] (spD X.K .dd (g1 m_corners_of))) (a_system : (List (T2 (T2 Int Int) Int))) :
    SV X (dats 5 [enc a_system]) (defBody st_check_system) (fun _ : Unit => List.replicate 5 .un) (fun _ : Unit => List.replicate 5 .un) ⟨.dd, false⟩ (b_check_system a_system) := by
  unfold b_check_system
  refine sv_if (S' := Unit) (P' := fun s1 => [.dat (enc a_system), .un, .un, .un, .un]) (eb_not (eb_chLeLe rfl (ed_glb C (by decide +kernel) hF.c_LEAST_ROWS_) (ed_len C (by decide +kernel) hF.len_ (er_of_ed (ed_var (i := 0) C (by decide +kernel) rfl))) (ed_glb C (by decide +kernel) hF.c_MOST_ROWS_))) ?_ ?_ fun s1 => ?_
  · exact sv_raise
  · exact sv_nil (wk_ops [] rfl)
  refine sv_for (S1 := Unit) (P1 := fun s2 => [.dat (enc a_system), .un, .un, .un, .un]) (s0 := ()) C (it_enum C (by decide +kernel) hF.enumerate_ (ed_var (i := 0) C (by decide +kernel) rfl)) (pg_tup (Ctx.calm C) (pgs_cons (pgN (i := 1) C (by decide +kernel)) (pgs_cons (pg_tup (Ctx.calm C) (pgs_cons (pgN (i := 2) C (by decide +kernel)) (pgs_cons (pgN (i := 3) C (by decide +kernel)) pgs_nil))) pgs_nil))) (tgt_t2 (tgt_name (i := 1)) (tgt_t2 (tgt_name (i := 2)) (tgt_name (i := 3)))) (fun s2 => rfl) (wk_ops [] rfl) (fun s2 y3 => ?_) (fun s2 => ?_)
  · refine sv_if (S' := Unit) (P' := fun s5 => [.dat (enc a_system), .dat (enc y3.a), .dat (enc y3.b.a), .dat (enc y3.b.b), .un]) (eb_bool (ew_or (eb_cmp (ec_eqD C (ed_var (i := 2) C (by decide +kernel) rfl) (ed_t2 ed_num ed_num))) (ew_or1 (eb_not (eb_of_ed (ed_all C (by decide +kernel) hF.all_ (er_of_eo (eo_lc (lc_mk (own := [("number", 4)]) C (it_tup (ed_tp2 (ed_var (i := 2) C (by decide +kernel) rfl))) (by decide +kernel) (fun s4 H4 Ca4 cl4 fp4 => (pgN (i := 4) (Ctx.blk C s4 H4 _ Ca4 cl4 fp4 rfl) (by decide +kernel))) (tgt_name (i := 4)) (by decide) rfl (fun s4 H4 Ca4 cl4 fp4 x4 => ets_nil) (fun s4 H4 Ca4 cl4 fp4 x4 => (ed_chLeLe rfl (ed_neg (ed_glb (Ctx.blk C s4 H4 _ Ca4 cl4 fp4 rfl) (by decide +kernel) hF.c_MOST_NUMBER_)) (ed_var (i := 4) (Ctx.blk C s4 H4 _ Ca4 cl4 fp4 rfl) (by decide +kernel) rfl) (ed_glb (Ctx.blk C s4 H4 _ Ca4 cl4 fp4 rfl) (by decide +kernel) hF.c_MOST_NUMBER_)))))))))))) ?_ ?_ fun s5 => ?_
    · exact sv_raise
    · exact sv_nil (wk_ops [] rfl)
    refine sv_if (S' := Unit) (P' := fun s6 => [.dat (enc a_system), .dat (enc y3.a), .dat (enc y3.b.a), .dat (enc y3.b.b), .un]) (eb_not (eb_chLeLe rfl (ed_neg (ed_glb C (by decide +kernel) hF.c_MOST_LIMIT_)) (ed_var (i := 3) C (by decide +kernel) rfl) (ed_glb C (by decide +kernel) hF.c_MOST_LIMIT_))) ?_ ?_ fun s6 => ?_
    · exact sv_raise
    · exact sv_nil (wk_ops [] rfl)
    exact sv_nil (wk_ops [.un 1, .un 2, .un 3] rfl)
  refine sv_if (S' := Unit) (P' := fun s7 => [.dat (enc a_system), .un, .un, .un, .un]) (eb_bool (ew_or (eb_of_ed (ed_call C hC_is_endless (by decide) (by decide +kernel) (ad_cons (ed_var (i := 0) C (by decide +kernel) rfl) ad_nil) go1)) (ew_or1 (eb_not (eb_of_ed (ed_call C hC_is_wide (by decide) (by decide +kernel) (ad_cons (ed_call C hC_corners_of (by decide) (by decide +kernel) (ad_cons (ed_var (i := 0) C (by decide +kernel) rfl) ad_nil) go1) ad_nil) go1)))))) ?_ ?_ fun s7 => ?_
  · exact sv_raise
  · exact sv_nil (wk_ops [] rfl)
  exact sv_nil (wkR_all rfl)
theorem ok_check_system {P : Program} {w : World} {K : PySem.W.Frag} {mg : Str → Option Value} {base : Heap} {f : Addr} {fd : FuncData} (F : Fun K "check_system" "check_system" st_check_system f fd) (hF : Facts mg) (hC_is_endless : Cal P w K mg base CX0 1 "is_endless" ["system"] (spD K .dd (g1 m_is_endless))) (hC_is_wide : Cal P w K mg base CX0 3 "is_wide" ["spots"] (spD K .dd (g1 m_is_wide))) (hC_corners_of : Cal P w K mg base CX0 5 "corners_of" ["system"] (spD K .dd (g1 m_corners_of))) : FnG P w K mg base CX0 6 f fd ["system"] (spD K .dd (g1 m_check_system)) :=
  ok_def F fs_check_system (fun ds r h => by obtain ⟨x0, y, e, _, _⟩ := h; rw [e]; rfl) 5 rfl (by decide) fun X h1 h2 h3 h4 h5 C ds r h => by subst h1 h2 h3 h4 h5; obtain ⟨x0, y, e1, e2, e3⟩ := h; subst e1 e3; exact body_of (bk_check_system C hF hC_is_endless hC_is_wide hC_corners_of x0) e2 (fun x h => by cases h; exact ⟨rfl, rfl⟩)
theorem bk_side {X : Cx} (C : Ctx X N_side (defScope st_side) none 0) (hF : Facts X.mg)  (a_one : (T2 Int Int)) (a_two : (T2 Int Int)) :
    SV X (dats 2 [enc a_one, enc a_two]) (defBody st_side) (fun _ : Unit => List.replicate 2 .un) (fun _ : Unit => List.replicate 2 .un) ⟨.dd, false⟩ (b_side a_one a_two) := by
  unfold b_side
  exact sv_ret (ed_sub (ed_mul (ed_20 (ed_var (i := 0) C (by decide +kernel) rfl)) (ed_21 (ed_var (i := 1) C (by decide +kernel) rfl))) (ed_mul (ed_21 (ed_var (i := 0) C (by decide +kernel) rfl)) (ed_20 (ed_var (i := 1) C (by decide +kernel) rfl))))
theorem ok_side {P : Program} {w : World} {K : PySem.W.Frag} {mg : Str → Option Value} {base : Heap} {f : Addr} {fd : FuncData} (F : Fun K "side" "side" st_side f fd) (hF : Facts mg)  : FnG P w K mg base CX0 1 f fd ["one", "two"] (spD K .dd (g2 m_side)) :=
  ok_def F fs_side (fun ds r h => by obtain ⟨x0, x1, y, e, _, _⟩ := h; rw [e]; rfl) 2 rfl (by decide) fun X h1 h2 h3 h4 h5 C ds r h => by subst h1 h2 h3 h4 h5; obtain ⟨x0, x1, y, e1, e2, e3⟩ := h; subst e1 e3; exact body_of (bk_side C hF  x0 x1) e2 (fun x h => nomatch h)
theorem bk_in_cone {X : Cx} (C : Ctx X N_in_cone (defScope st_in_cone) none 1) (hF : Facts X.mg) (hC_side : Cal X.prog X.w X.K X.mg X.base CX0 1 "side" ["one", "two"] (spD X.K .dd (g2 m_side))) (a_ends : (T2 (T2 Int Int) (T2 Int Int))) (a_told : (T2 Int Int)) :
    SV X (dats 2 [enc a_ends, enc a_told]) (defBody st_in_cone) (fun _ : Unit => List.replicate 2 .un) (fun _ : Unit => List.replicate 2 .un) ⟨.dd, false⟩ (b_in_cone a_ends a_told) := by
  unfold b_in_cone
  exact sv_ret (ed_and (ed_cmp (ec_ge (ed_call C hC_side (by decide) (by decide +kernel) (ad_cons (ed_20 (ed_var (i := 0) C (by decide +kernel) rfl)) (ad_cons (ed_var (i := 1) C (by decide +kernel) rfl) ad_nil)) go2) ed_num)) (ed_one (ed_cmp (ec_ge (ed_call C hC_side (by decide) (by decide +kernel) (ad_cons (ed_var (i := 1) C (by decide +kernel) rfl) (ad_cons (ed_21 (ed_var (i := 0) C (by decide +kernel) rfl)) ad_nil)) go2) ed_num))))
theorem ok_in_cone {P : Program} {w : World} {K : PySem.W.Frag} {mg : Str → Option Value} {base : Heap} {f : Addr} {fd : FuncData} (F : Fun K "in_cone" "in_cone" st_in_cone f fd) (hF : Facts mg) (hC_side : Cal P w K mg base CX0 1 "side" ["one", "two"] (spD K .dd (g2 m_side))) : FnG P w K mg base CX0 2 f fd ["ends", "told"] (spD K .dd (g2 m_in_cone)) :=
  ok_def F fs_in_cone (fun ds r h => by obtain ⟨x0, x1, y, e, _, _⟩ := h; rw [e]; rfl) 2 rfl (by decide) fun X h1 h2 h3 h4 h5 C ds r h => by subst h1 h2 h3 h4 h5; obtain ⟨x0, x1, y, e1, e2, e3⟩ := h; subst e1 e3; exact body_of (bk_in_cone C hF hC_side x0 x1) e2 (fun x h => nomatch h)
theorem bk_plain_of {X : Cx} (C : Ctx X N_plain_of (defScope st_plain_of) none 2) (hF : Facts X.mg) (hC_side : Cal X.prog X.w X.K X.mg X.base CX0 1 "side" ["one", "two"] (spD X.K .dd (g2 m_side))) (hC_in_cone : Cal X.prog X.w X.K X.mg X.base CX0 2 "in_cone" ["ends", "told"] (spD X.K .dd (g2 m_in_cone))) (a_ends : (T2 (T2 Int Int) (T2 Int Int))) :
    SV X (dats 13 [enc a_ends]) (defBody st_plain_of) (fun _ : Unit => List.replicate 13 .un) (fun _ : Unit => List.replicate 13 .un) ⟨.dd, false⟩ (b_plain_of a_ends) := by
  unfold b_plain_of
  refine sv_unpack (pg_tup (Ctx.calm C) (pgs_cons (pgN (i := 7) C (by decide +kernel)) (pgs_cons (pgN (i := 8) C (by decide +kernel)) pgs_nil))) (tgt_t2 (tgt_name (i := 7)) (tgt_name (i := 8))) rfl (ed_var (i := 0) C (by decide +kernel) rfl) fun u1 => ?_
  refine sv_set (i := 1) C (by decide +kernel) (ed_call C hC_side (by decide) (by decide +kernel) (ad_cons (ed_var (i := 7) C (by decide +kernel) rfl) (ad_cons (ed_var (i := 8) C (by decide +kernel) rfl) ad_nil)) go2) fun v_whole_2 => ?_
  refine sv_set (i := 2) C (by decide +kernel) (ed_of_eo (eo_list (al_cons (ed_t2 ed_num ed_num) (al_cons (ed_var (i := 7) C (by decide +kernel) rfl) (al_cons (ed_var (i := 8) C (by decide +kernel) rfl) (al_cons (ed_t2 (ed_add (ed_20 (ed_var (i := 7) C (by decide +kernel) rfl)) (ed_20 (ed_var (i := 8) C (by decide +kernel) rfl))) (ed_add (ed_21 (ed_var (i := 7) C (by decide +kernel) rfl)) (ed_21 (ed_var (i := 8) C (by decide +kernel) rfl)))) (al_nil (α := (T2 Int Int))))))))) fun v_corners_3 => ?_
  refine sv_setO (i := 3) C (by decide +kernel) (Nat.le_of_ble_eq_true rfl) (eo_list (al_nil (α := (T2 Int Int)))) fun v_found_4 => ?_
  refine sv_for (S1 := (List (T2 Int Int))) (P1 := fun s7 => [.dat (enc a_ends), .dat (enc v_whole_2), .dat (enc v_corners_3), .own (s7.map enc), .un, .un, .un, .dat (enc u1.a), .dat (enc u1.b), .un, .un, .un, .un]) (s0 := v_found_4) C (it_rng2N C (by decide +kernel) hF.range_ (ed_minL C (by decide +kernel) hF.min_ (er_of_eo (eo_lc (lc_mk (own := [("one", 6)]) C (it_list (ed_var (i := 2) C (by decide +kernel) rfl)) (by decide +kernel) (fun s5 H5 Ca5 cl5 fp5 => (pgN (i := 6) (Ctx.blk C s5 H5 _ Ca5 cl5 fp5 rfl) (by decide +kernel))) (tgt_name (i := 6)) (by decide) rfl (fun s5 H5 Ca5 cl5 fp5 x5 => ets_nil) (fun s5 H5 Ca5 cl5 fp5 x5 => (ed_20 (ed_var (i := 6) (Ctx.blk C s5 H5 _ Ca5 cl5 fp5 rfl) (by decide +kernel) rfl))))))) (ed_add (ed_maxL C (by decide +kernel) hF.max_ (er_of_eo (eo_lc (lc_mk (own := [("one", 6)]) C (it_list (ed_var (i := 2) C (by decide +kernel) rfl)) (by decide +kernel) (fun s6 H6 Ca6 cl6 fp6 => (pgN (i := 6) (Ctx.blk C s6 H6 _ Ca6 cl6 fp6 rfl) (by decide +kernel))) (tgt_name (i := 6)) (by decide) rfl (fun s6 H6 Ca6 cl6 fp6 x6 => ets_nil) (fun s6 H6 Ca6 cl6 fp6 x6 => (ed_20 (ed_var (i := 6) (Ctx.blk C s6 H6 _ Ca6 cl6 fp6 rfl) (by decide +kernel) rfl))))))) ed_num)) (pgN (i := 4) C (by decide +kernel)) (tgt_name (i := 4)) (fun s7 => rfl) (wk_ops [] rfl) (fun s7 y8 => ?_) (fun s7 => ?_)
  · refine sv_for (S1 := (List (T2 Int Int))) (P1 := fun s11 => [.dat (enc a_ends), .dat (enc v_whole_2), .dat (enc v_corners_3), .own (s11.map enc), .dat (enc y8), .un, .un, .dat (enc u1.a), .dat (enc u1.b), .un, .un, .un, .un]) (s0 := s7) C (it_rng2N C (by decide +kernel) hF.range_ (ed_minL C (by decide +kernel) hF.min_ (er_of_eo (eo_lc (lc_mk (own := [("one", 6)]) C (it_list (ed_var (i := 2) C (by decide +kernel) rfl)) (by decide +kernel) (fun s9 H9 Ca9 cl9 fp9 => (pgN (i := 6) (Ctx.blk C s9 H9 _ Ca9 cl9 fp9 rfl) (by decide +kernel))) (tgt_name (i := 6)) (by decide) rfl (fun s9 H9 Ca9 cl9 fp9 x9 => ets_nil) (fun s9 H9 Ca9 cl9 fp9 x9 => (ed_21 (ed_var (i := 6) (Ctx.blk C s9 H9 _ Ca9 cl9 fp9 rfl) (by decide +kernel) rfl))))))) (ed_add (ed_maxL C (by decide +kernel) hF.max_ (er_of_eo (eo_lc (lc_mk (own := [("one", 6)]) C (it_list (ed_var (i := 2) C (by decide +kernel) rfl)) (by decide +kernel) (fun s10 H10 Ca10 cl10 fp10 => (pgN (i := 6) (Ctx.blk C s10 H10 _ Ca10 cl10 fp10 rfl) (by decide +kernel))) (tgt_name (i := 6)) (by decide) rfl (fun s10 H10 Ca10 cl10 fp10 x10 => ets_nil) (fun s10 H10 Ca10 cl10 fp10 x10 => (ed_21 (ed_var (i := 6) (Ctx.blk C s10 H10 _ Ca10 cl10 fp10 rfl) (by decide +kernel) rfl))))))) ed_num)) (pgN (i := 9) C (by decide +kernel)) (tgt_name (i := 9)) (fun s11 => rfl) (wk_ops [] rfl) (fun s11 y12 => ?_) (fun s11 => ?_)
    · refine sv_set (i := 6) C (by decide +kernel) (ed_t2 (ed_var (i := 4) C (by decide +kernel) rfl) (ed_var (i := 9) C (by decide +kernel) rfl)) fun v_one_13 => ?_
      refine sv_if (S' := (List (T2 Int Int))) (P' := fun s14 => [.dat (enc a_ends), .dat (enc v_whole_2), .dat (enc v_corners_3), .own (s14.map enc), .dat (enc y8), .un, .dat (enc v_one_13), .dat (enc u1.a), .dat (enc u1.b), .dat (enc y12), .un, .un, .un]) (eb_bool (ew_and (eb_cmp (ec_neD C (ed_var (i := 6) C (by decide +kernel) rfl) (ed_t2 ed_num ed_num))) (ew_and (eb_chLeLe rfl ed_num (ed_call C hC_side (by decide) (by decide +kernel) (ad_cons (ed_var (i := 6) C (by decide +kernel) rfl) (ad_cons (ed_var (i := 8) C (by decide +kernel) rfl) ad_nil)) go2) (ed_var (i := 1) C (by decide +kernel) rfl)) (ew_and1 (eb_chLeLe rfl ed_num (ed_call C hC_side (by decide) (by decide +kernel) (ad_cons (ed_var (i := 7) C (by decide +kernel) rfl) (ad_cons (ed_var (i := 6) C (by decide +kernel) rfl) ad_nil)) go2) (ed_var (i := 1) C (by decide +kernel) rfl)))))) ?_ ?_ fun s14 => ?_
      · refine sv_app (i := 3) C (by decide +kernel) rfl (ed_var (i := 6) C (by decide +kernel) rfl) fun v15 => ?_
        exact sv_nil (wk_ops [] rfl)
      · exact sv_nil (wk_ops [] rfl)
      exact sv_nil (wk_ops [.un 6, .un 9] rfl)
    exact sv_nil (wk_ops [.un 4] rfl)
  refine sv_setO (i := 5) C (by decide +kernel) (Nat.le_of_ble_eq_true rfl) (eo_list (al_nil (α := (T2 Int Int)))) fun v_plain_16 => ?_
  refine sv_wk (wk_ops [.fz 3] rfl) ?_
  refine sv_for (S1 := (List (T2 Int Int))) (P1 := fun s17 => [.dat (enc a_ends), .dat (enc v_whole_2), .dat (enc v_corners_3), .dat (enc s7), .un, .own (s17.map enc), .un, .dat (enc u1.a), .dat (enc u1.b), .un, .un, .un, .un]) (s0 := v_plain_16) C (it_list (ed_var (i := 3) C (by decide +kernel) rfl)) (pgN (i := 6) C (by decide +kernel)) (tgt_name (i := 6)) (fun s17 => rfl) (wk_ops [] rfl) (fun s17 y18 => ?_) (fun s17 => ?_)
  · refine sv_setL (i := 10) C (by decide +kernel) (by decide +kernel) (lc_mk (own := [("two", 11)]) C (it_list (ed_var (i := 3) C (by decide +kernel) rfl)) (by decide +kernel) (fun s20 H20 Ca20 cl20 fp20 => (pgN (i := 11) (Ctx.blk C s20 H20 _ Ca20 cl20 fp20 rfl) (by decide +kernel))) (tgt_name (i := 11)) (by decide) rfl (fun s20 H20 Ca20 cl20 fp20 x20 => (ets_one (eb_cmp (ec_neD (Ctx.blk C s20 H20 _ Ca20 cl20 fp20 rfl) (ed_var (i := 11) (Ctx.blk C s20 H20 _ Ca20 cl20 fp20 rfl) (by decide +kernel) rfl) (ed_var (i := 6) (Ctx.blk C s20 H20 _ Ca20 cl20 fp20 rfl) (by decide +kernel) rfl))))) (fun s20 H20 Ca20 cl20 fp20 x20 => (ed_t2 (ed_sub (ed_20 (ed_var (i := 6) (Ctx.blk C s20 H20 _ Ca20 cl20 fp20 rfl) (by decide +kernel) rfl)) (ed_20 (ed_var (i := 11) (Ctx.blk C s20 H20 _ Ca20 cl20 fp20 rfl) (by decide +kernel) rfl))) (ed_sub (ed_21 (ed_var (i := 6) (Ctx.blk C s20 H20 _ Ca20 cl20 fp20 rfl) (by decide +kernel) rfl)) (ed_21 (ed_var (i := 11) (Ctx.blk C s20 H20 _ Ca20 cl20 fp20 rfl) (by decide +kernel) rfl)))))) fun v_rests_19 => ?_
    refine sv_if (S' := (List (T2 Int Int))) (P' := fun s22 => [.dat (enc a_ends), .dat (enc v_whole_2), .dat (enc v_corners_3), .dat (enc s7), .un, .own (s22.map enc), .dat (enc y18), .dat (enc u1.a), .dat (enc u1.b), .un, .dat (enc v_rests_19), .un, .un]) (eb_not (eb_of_ed (ed_any C (by decide +kernel) hF.any_ (er_of_eo (eo_lc (lc_mk (own := [("rest", 12)]) C (it_list (ed_var (i := 10) C (by decide +kernel) rfl)) (by decide +kernel) (fun s21 H21 Ca21 cl21 fp21 => (pgN (i := 12) (Ctx.blk C s21 H21 _ Ca21 cl21 fp21 rfl) (by decide +kernel))) (tgt_name (i := 12)) (by decide) rfl (fun s21 H21 Ca21 cl21 fp21 x21 => ets_nil) (fun s21 H21 Ca21 cl21 fp21 x21 => (ed_and (ed_cmp (ec_neD (Ctx.blk C s21 H21 _ Ca21 cl21 fp21 rfl) (ed_var (i := 12) (Ctx.blk C s21 H21 _ Ca21 cl21 fp21 rfl) (by decide +kernel) rfl) (ed_t2 ed_num ed_num))) (ed_one (ed_call (Ctx.blk C s21 H21 _ Ca21 cl21 fp21 rfl) hC_in_cone (by decide) (by decide +kernel) (ad_cons (ed_var (i := 0) (Ctx.blk C s21 H21 _ Ca21 cl21 fp21 rfl) (by decide +kernel) rfl) (ad_cons (ed_var (i := 12) (Ctx.blk C s21 H21 _ Ca21 cl21 fp21 rfl) (by decide +kernel) rfl) ad_nil)) go2)))))))))) ?_ ?_ fun s22 => ?_
    · refine sv_app (i := 5) C (by decide +kernel) rfl (ed_var (i := 6) C (by decide +kernel) rfl) fun v23 => ?_
      exact sv_nil (wk_ops [] rfl)
    · exact sv_nil (wk_ops [] rfl)
    exact sv_nil (wk_ops [.un 6, .un 10] rfl)
  exact sv_ret (ed_of_eo (eo_sortedD C (by decide +kernel) hF.sorted_ (er_own (i := 5) C (by decide +kernel) rfl)))
theorem ok_plain_of {P : Program} {w : World} {K : PySem.W.Frag} {mg : Str → Option Value} {base : Heap} {f : Addr} {fd : FuncData} (F : Fun K "plain_of" "plain_of" st_plain_of f fd) (hF : Facts mg) (hC_side : Cal P w K mg base CX0 1 "side" ["one", "two"] (spD K .dd (g2 m_side))) (hC_in_cone : Cal P w K mg base CX0 2 "in_cone" ["ends", "told"] (spD K .dd (g2 m_in_cone))) : FnG P w K mg base CX0 3 f fd ["ends"] (spD K .dd (g1 m_plain_of)) :=
  ok_def F fs_plain_of (fun ds r h => by obtain ⟨x0, y, e, _, _⟩ := h; rw [e]; rfl) 13 rfl (by decide) fun X h1 h2 h3 h4 h5 C ds r h => by subst h1 h2 h3 h4 h5; obtain ⟨x0, y, e1, e2, e3⟩ := h; subst e1 e3; exact body_of (bk_plain_of C hF hC_side hC_in_cone x0) e2 (fun x h => nomatch h)
theorem bk_sum_at__2 {X : Cx} (C : Ctx X N_sum_at__2 (defScope st_sum_at__2) none 2) (hF : Facts X.mg) (hC_plus : Cal X.prog X.w X.K X.mg X.base CX0 2 "plus" ["one", "two"] (spD X.K .dd (g2 m_plus))) (hC_times : Cal X.prog X.w X.K X.mg X.base CX0 2 "times" ["one", "two"] (spD X.K .dd (g2 m_times))) (a_numbers : (T2 Int Int)) (a_spot : (T2 (T2 Int Int) (T2 Int Int))) :
    SV X (dats 2 [enc a_numbers, enc a_spot]) (defBody st_sum_at__2) (fun _ : Unit => List.replicate 2 .un) (fun _ : Unit => List.replicate 2 .un) ⟨.dd, false⟩ (b_sum_at__2 a_numbers a_spot) := by
  unfold b_sum_at__2
  exact sv_ret (ed_call C hC_plus (by decide) (by decide +kernel) (ad_cons (ed_call C hC_times (by decide) (by decide +kernel) (ad_cons (ed_t2 (ed_20 (ed_var (i := 0) C (by decide +kernel) rfl)) ed_num) (ad_cons (ed_20 (ed_var (i := 1) C (by decide +kernel) rfl)) ad_nil)) go2) (ad_cons (ed_call C hC_times (by decide) (by decide +kernel) (ad_cons (ed_t2 (ed_21 (ed_var (i := 0) C (by decide +kernel) rfl)) ed_num) (ad_cons (ed_21 (ed_var (i := 1) C (by decide +kernel) rfl)) ad_nil)) go2) ad_nil)) go2)
theorem ok_sum_at__2 {P : Program} {w : World} {K : PySem.W.Frag} {mg : Str → Option Value} {base : Heap} {f : Addr} {fd : FuncData} (F : Fun K "sum_at" "sum_at" st_sum_at__2 f fd) (hF : Facts mg) (hC_plus : Cal P w K mg base CX0 2 "plus" ["one", "two"] (spD K .dd (g2 m_plus))) (hC_times : Cal P w K mg base CX0 2 "times" ["one", "two"] (spD K .dd (g2 m_times))) : FnG P w K mg base CX0 3 f fd ["numbers", "spot"] (spD K .dd (g2 m_sum_at__2)) :=
  ok_def F fs_sum_at__2 (fun ds r h => by obtain ⟨x0, x1, y, e, _, _⟩ := h; rw [e]; rfl) 2 rfl (by decide) fun X h1 h2 h3 h4 h5 C ds r h => by subst h1 h2 h3 h4 h5; obtain ⟨x0, x1, y, e1, e2, e3⟩ := h; subst e1 e3; exact body_of (bk_sum_at__2 C hF hC_plus hC_times x0 x1) e2 (fun x h => nomatch h)
theorem bk_tight_at {X : Cx} (C : Ctx X N_tight_at (defScope st_tight_at) none 3) (hF : Facts X.mg) (hC_sum_at__2 : Cal X.prog X.w X.K X.mg X.base CX0 3 "sum_at" ["numbers", "spot"] (spD X.K .dd (g2 m_sum_at__2))) (a_system : (List (T2 (T2 Int Int) Int))) (a_spot : (T2 (T2 Int Int) (T2 Int Int))) :
    SV X (dats 5 [enc a_system, enc a_spot]) (defBody st_tight_at) (fun _ : Unit => List.replicate 5 .un) (fun _ : Unit => List.replicate 5 .un) ⟨.dd, false⟩ (b_tight_at a_system a_spot) := by
  unfold b_tight_at
  exact sv_ret (ed_of_eo (eo_lc (lc_mk (own := [("k", 2), ("limit", 4), ("numbers", 3)]) C (it_enum C (by decide +kernel) hF.enumerate_ (ed_var (i := 0) C (by decide +kernel) rfl)) (by decide +kernel) (fun s1 H1 Ca1 cl1 fp1 => (pg_tup (Ctx.calm (Ctx.blk C s1 H1 _ Ca1 cl1 fp1 rfl)) (pgs_cons (pgN (i := 2) (Ctx.blk C s1 H1 _ Ca1 cl1 fp1 rfl) (by decide +kernel)) (pgs_cons (pg_tup (Ctx.calm (Ctx.blk C s1 H1 _ Ca1 cl1 fp1 rfl)) (pgs_cons (pgN (i := 3) (Ctx.blk C s1 H1 _ Ca1 cl1 fp1 rfl) (by decide +kernel)) (pgs_cons (pgN (i := 4) (Ctx.blk C s1 H1 _ Ca1 cl1 fp1 rfl) (by decide +kernel)) pgs_nil))) pgs_nil)))) (tgt_t2 (tgt_name (i := 2)) (tgt_t2 (tgt_name (i := 3)) (tgt_name (i := 4)))) (by decide) rfl (fun s1 H1 Ca1 cl1 fp1 x1 => (ets_one (eb_cmp (ec_eqD (Ctx.blk C s1 H1 _ Ca1 cl1 fp1 rfl) (ed_call (Ctx.blk C s1 H1 _ Ca1 cl1 fp1 rfl) hC_sum_at__2 (by decide) (by decide +kernel) (ad_cons (ed_var (i := 3) (Ctx.blk C s1 H1 _ Ca1 cl1 fp1 rfl) (by decide +kernel) rfl) (ad_cons (ed_var (i := 1) (Ctx.blk C s1 H1 _ Ca1 cl1 fp1 rfl) (by decide +kernel) rfl) ad_nil)) go2) (ed_t2 (ed_var (i := 4) (Ctx.blk C s1 H1 _ Ca1 cl1 fp1 rfl) (by decide +kernel) rfl) ed_num))))) (fun s1 H1 Ca1 cl1 fp1 x1 => (ed_var (i := 2) (Ctx.blk C s1 H1 _ Ca1 cl1 fp1 rfl) (by decide +kernel) rfl)))))
theorem ok_tight_at {P : Program} {w : World} {K : PySem.W.Frag} {mg : Str → Option Value} {base : Heap} {f : Addr} {fd : FuncData} (F : Fun K "tight_at" "tight_at" st_tight_at f fd) (hF : Facts mg) (hC_sum_at__2 : Cal P w K mg base CX0 3 "sum_at" ["numbers", "spot"] (spD K .dd (g2 m_sum_at__2))) : FnG P w K mg base CX0 4 f fd ["system", "spot"] (spD K .dd (g2 m_tight_at)) :=
  ok_def F fs_tight_at (fun ds r h => by obtain ⟨x0, x1, y, e, _, _⟩ := h; rw [e]; rfl) 5 rfl (by decide) fun X h1 h2 h3 h4 h5 C ds r h => by subst h1 h2 h3 h4 h5; obtain ⟨x0, x1, y, e1, e2, e3⟩ := h; subst e1 e3; exact body_of (bk_tight_at C hF hC_sum_at__2 x0 x1) e2 (fun x h => nomatch h)
theorem bk_ends_of {X : Cx} (C : Ctx X N_ends_of (defScope st_ends_of) none 4) (hF : Facts X.mg) (hC_tight_at : Cal X.prog X.w X.K X.mg X.base CX0 4 "tight_at" ["system", "spot"] (spD X.K .dd (g2 m_tight_at))) (hC_side : Cal X.prog X.w X.K X.mg X.base CX0 1 "side" ["one", "two"] (spD X.K .dd (g2 m_side))) (a_system : (List (T2 (T2 Int Int) Int))) (a_spot : (T2 (T2 Int Int) (T2 Int Int))) :
    SV X (dats 12 [enc a_system, enc a_spot]) (defBody st_ends_of) (fun _ : Unit => List.replicate 12 .un) (fun _ : Unit => List.replicate 12 .un) ⟨.dd, false⟩ (b_ends_of a_system a_spot) := by
  unfold b_ends_of
  refine sv_setO (i := 2) C (by decide +kernel) (Nat.le_of_ble_eq_true rfl) (eo_list (al_nil (α := (T2 Int Int)))) fun v_own_1 => ?_
  refine sv_for (S1 := (List (T2 Int Int))) (P1 := fun s2 => [.dat (enc a_system), .dat (enc a_spot), .own (s2.map enc), .un, .un, .un, .un, .un, .un, .un, .un, .un]) (s0 := v_own_1) C (it_list (ed_call C hC_tight_at (by decide) (by decide +kernel) (ad_cons (ed_var (i := 0) C (by decide +kernel) rfl) (ad_cons (ed_var (i := 1) C (by decide +kernel) rfl) ad_nil)) go2)) (pgN (i := 3) C (by decide +kernel)) (tgt_name (i := 3)) (fun s2 => rfl) (wk_ops [] rfl) (fun s2 y3 => ?_) (fun s2 => ?_)
  · refine sv_unpack (pg_tup (Ctx.calm C) (pgs_cons (pg_tup (Ctx.calm C) (pgs_cons (pgN (i := 8) C (by decide +kernel)) (pgs_cons (pgN (i := 9) C (by decide +kernel)) pgs_nil))) (pgs_cons (pgN (i := 7) C (by decide +kernel)) pgs_nil))) (tgt_t2 (tgt_t2 (tgt_name (i := 8)) (tgt_name (i := 9))) (tgt_name (i := 7))) rfl (ed_ix (ed_var (i := 0) C (by decide +kernel) rfl) (ed_var (i := 3) C (by decide +kernel) rfl)) fun u4 => ?_
    refine sv_set (i := 6) C (by decide +kernel) (ed_gcd C (by decide +kernel) hF.gcd_ (ed_var (i := 8) C (by decide +kernel) rfl) (ed_var (i := 9) C (by decide +kernel) rfl)) fun v_common_5 => ?_
    refine sv_app (i := 2) C (by decide +kernel) rfl (ed_t2 (ed_fdiv (ed_var (i := 8) C (by decide +kernel) rfl) (ed_var (i := 6) C (by decide +kernel) rfl)) (ed_fdiv (ed_var (i := 9) C (by decide +kernel) rfl) (ed_var (i := 6) C (by decide +kernel) rfl))) fun v6 => ?_
    exact sv_nil (wk_ops [.un 3, .un 6, .un 7, .un 8, .un 9] rfl)
  refine sv_set (i := 4) C (by decide +kernel) (ed_lendF (ed_ix (ed_of_eo (eo_lc (lc_mk (own := [("one", 10)]) C (it_list (ed_var (i := 2) C (by decide +kernel) rfl)) (by decide +kernel) (fun s8 H8 Ca8 cl8 fp8 => (pgN (i := 10) (Ctx.blk C s8 H8 _ Ca8 cl8 fp8 rfl) (by decide +kernel))) (tgt_name (i := 10)) (by decide) rfl (fun s8 H8 Ca8 cl8 fp8 x8 => (ets_one (eb_of_ed (ed_all (Ctx.blk C s8 H8 _ Ca8 cl8 fp8 rfl) (by decide +kernel) hF.all_ (er_of_eo (eo_lc (lc_mk (own := [("two", 11)]) (Ctx.blk C s8 H8 _ Ca8 cl8 fp8 rfl) (it_list (ed_var (i := 2) (Ctx.blk C s8 H8 _ Ca8 cl8 fp8 rfl) (by decide +kernel) rfl)) (by decide +kernel) (fun s9 H9 Ca9 cl9 fp9 => (pgN (i := 11) (Ctx.blk (Ctx.blk C s8 H8 _ Ca8 cl8 fp8 rfl) s9 H9 _ Ca9 cl9 fp9 rfl) (by decide +kernel))) (tgt_name (i := 11)) (by decide) rfl (fun s9 H9 Ca9 cl9 fp9 x9 => ets_nil) (fun s9 H9 Ca9 cl9 fp9 x9 => (ed_cmp (ec_ge (ed_call (Ctx.blk (Ctx.blk C s8 H8 _ Ca8 cl8 fp8 rfl) s9 H9 _ Ca9 cl9 fp9 rfl) hC_side (by decide) (by decide +kernel) (ad_cons (ed_var (i := 10) (Ctx.blk (Ctx.blk C s8 H8 _ Ca8 cl8 fp8 rfl) s9 H9 _ Ca9 cl9 fp9 rfl) (by decide +kernel) rfl) (ad_cons (ed_var (i := 11) (Ctx.blk (Ctx.blk C s8 H8 _ Ca8 cl8 fp8 rfl) s9 H9 _ Ca9 cl9 fp9 rfl) (by decide +kernel) rfl) ad_nil)) go2) ed_num)))))))))) (fun s8 H8 Ca8 cl8 fp8 x8 => (ed_var (i := 10) (Ctx.blk C s8 H8 _ Ca8 cl8 fp8 rfl) (by decide +kernel) rfl))))) ed_num)) fun v_first_7 => ?_
  refine sv_set (i := 5) C (by decide +kernel) (ed_lendF (ed_ix (ed_of_eo (eo_lc (lc_mk (own := [("one", 10)]) C (it_list (ed_var (i := 2) C (by decide +kernel) rfl)) (by decide +kernel) (fun s11 H11 Ca11 cl11 fp11 => (pgN (i := 10) (Ctx.blk C s11 H11 _ Ca11 cl11 fp11 rfl) (by decide +kernel))) (tgt_name (i := 10)) (by decide) rfl (fun s11 H11 Ca11 cl11 fp11 x11 => (ets_one (eb_of_ed (ed_all (Ctx.blk C s11 H11 _ Ca11 cl11 fp11 rfl) (by decide +kernel) hF.all_ (er_of_eo (eo_lc (lc_mk (own := [("two", 11)]) (Ctx.blk C s11 H11 _ Ca11 cl11 fp11 rfl) (it_list (ed_var (i := 2) (Ctx.blk C s11 H11 _ Ca11 cl11 fp11 rfl) (by decide +kernel) rfl)) (by decide +kernel) (fun s12 H12 Ca12 cl12 fp12 => (pgN (i := 11) (Ctx.blk (Ctx.blk C s11 H11 _ Ca11 cl11 fp11 rfl) s12 H12 _ Ca12 cl12 fp12 rfl) (by decide +kernel))) (tgt_name (i := 11)) (by decide) rfl (fun s12 H12 Ca12 cl12 fp12 x12 => ets_nil) (fun s12 H12 Ca12 cl12 fp12 x12 => (ed_cmp (ec_ge (ed_call (Ctx.blk (Ctx.blk C s11 H11 _ Ca11 cl11 fp11 rfl) s12 H12 _ Ca12 cl12 fp12 rfl) hC_side (by decide) (by decide +kernel) (ad_cons (ed_var (i := 11) (Ctx.blk (Ctx.blk C s11 H11 _ Ca11 cl11 fp11 rfl) s12 H12 _ Ca12 cl12 fp12 rfl) (by decide +kernel) rfl) (ad_cons (ed_var (i := 10) (Ctx.blk (Ctx.blk C s11 H11 _ Ca11 cl11 fp11 rfl) s12 H12 _ Ca12 cl12 fp12 rfl) (by decide +kernel) rfl) ad_nil)) go2) ed_num)))))))))) (fun s11 H11 Ca11 cl11 fp11 x11 => (ed_var (i := 10) (Ctx.blk C s11 H11 _ Ca11 cl11 fp11 rfl) (by decide +kernel) rfl))))) ed_num)) fun v_last_10 => ?_
  exact sv_ret (ed_t2 (ed_var (i := 4) C (by decide +kernel) rfl) (ed_var (i := 5) C (by decide +kernel) rfl))
theorem ok_ends_of {P : Program} {w : World} {K : PySem.W.Frag} {mg : Str → Option Value} {base : Heap} {f : Addr} {fd : FuncData} (F : Fun K "ends_of" "ends_of" st_ends_of f fd) (hF : Facts mg) (hC_tight_at : Cal P w K mg base CX0 4 "tight_at" ["system", "spot"] (spD K .dd (g2 m_tight_at))) (hC_side : Cal P w K mg base CX0 1 "side" ["one", "two"] (spD K .dd (g2 m_side))) : FnG P w K mg base CX0 5 f fd ["system", "spot"] (spD K .dd (g2 m_ends_of)) :=
  ok_def F fs_ends_of (fun ds r h => by obtain ⟨x0, x1, y, e, _, _⟩ := h; rw [e]; rfl) 12 rfl (by decide) fun X h1 h2 h3 h4 h5 C ds r h => by subst h1 h2 h3 h4 h5; obtain ⟨x0, x1, y, e1, e2, e3⟩ := h; subst e1 e3; exact body_of (bk_ends_of C hF hC_tight_at hC_side x0 x1) e2 (fun x h => nomatch h)
theorem bk_full_rows {X : Cx} (C : Ctx X N_full_rows (defScope st_full_rows) none 6) (hF : Facts X.mg) (hC_check_system : Cal X.prog X.w X.K X.mg X.base CX0 6 "check_system" ["system"] (spD X.K .dd (g1 m_check_system))) (hC_corners_of : Cal X.prog X.w X.K X.mg X.base CX0 5 "corners_of" ["system"] (spD X.K .dd (g1 m_corners_of))) (hC_plain_of : Cal X.prog X.w X.K X.mg X.base CX0 3 "plain_of" ["ends"] (spD X.K .dd (g1 m_plain_of))) (hC_ends_of : Cal X.prog X.w X.K X.mg X.base CX0 5 "ends_of" ["system", "spot"] (spD X.K .dd (g2 m_ends_of))) (hC_sum_at__2 : Cal X.prog X.w X.K X.mg X.base CX0 3 "sum_at" ["numbers", "spot"] (spD X.K .dd (g2 m_sum_at__2))) (a_system : (List (T2 (T2 Int Int) Int))) :
    SV X (dats 5 [enc a_system]) (defBody st_full_rows) (fun _ : Unit => List.replicate 5 .un) (fun _ : Unit => List.replicate 5 .un) ⟨.ow, false⟩ (b_full_rows a_system) := by
  unfold b_full_rows
  refine sv_expr (ed_call C hC_check_system (by decide) (by decide +kernel) (ad_cons (ed_var (i := 0) C (by decide +kernel) rfl) ad_nil) go1) ?_
  refine sv_setO (i := 1) C (by decide +kernel) (Nat.le_of_ble_eq_true rfl) (eo_list (al_nil (α := (T2 (T2 Int Int) (T2 Int Int))))) fun v_found_1 => ?_
  refine sv_for (S1 := (List (T2 (T2 Int Int) (T2 Int Int)))) (P1 := fun s2 => [.dat (enc a_system), .own (s2.map enc), .un, .un, .un]) (s0 := v_found_1) C (it_list (ed_call C hC_corners_of (by decide) (by decide +kernel) (ad_cons (ed_var (i := 0) C (by decide +kernel) rfl) ad_nil) go1)) (pgN (i := 2) C (by decide +kernel)) (tgt_name (i := 2)) (fun s2 => rfl) (wk_ops [] rfl) (fun s2 y3 => ?_) (fun s2 => ?_)
  · refine sv_for (S1 := (List (T2 (T2 Int Int) (T2 Int Int)))) (P1 := fun s4 => [.dat (enc a_system), .own (s4.map enc), .dat (enc y3), .un, .un]) (s0 := s2) C (it_list (ed_call C hC_plain_of (by decide) (by decide +kernel) (ad_cons (ed_call C hC_ends_of (by decide) (by decide +kernel) (ad_cons (ed_var (i := 0) C (by decide +kernel) rfl) (ad_cons (ed_var (i := 2) C (by decide +kernel) rfl) ad_nil)) go2) ad_nil) go1)) (pgN (i := 3) C (by decide +kernel)) (tgt_name (i := 3)) (fun s4 => rfl) (wk_ops [] rfl) (fun s4 y5 => ?_) (fun s4 => ?_)
    · refine sv_set (i := 4) C (by decide +kernel) (ed_t2 (ed_var (i := 3) C (by decide +kernel) rfl) (ed_call C hC_sum_at__2 (by decide) (by decide +kernel) (ad_cons (ed_var (i := 3) C (by decide +kernel) rfl) (ad_cons (ed_var (i := 2) C (by decide +kernel) rfl) ad_nil)) go2)) fun v_row_6 => ?_
      refine sv_if (S' := (List (T2 (T2 Int Int) (T2 Int Int)))) (P' := fun s7 => [.dat (enc a_system), .own (s7.map enc), .dat (enc y3), .dat (enc y5), .dat (enc v_row_6)]) (eb_cmp (ec_notIn C (ed_var (i := 4) C (by decide +kernel) rfl) (er_own (i := 1) C (by decide +kernel) rfl))) ?_ ?_ fun s7 => ?_
      · refine sv_app (i := 1) C (by decide +kernel) rfl (ed_var (i := 4) C (by decide +kernel) rfl) fun v8 => ?_
        exact sv_nil (wk_ops [] rfl)
      · exact sv_nil (wk_ops [] rfl)
      exact sv_nil (wk_ops [.un 3, .un 4] rfl)
    exact sv_nil (wk_ops [.un 2] rfl)
  exact sv_retO (eo_sortedD C (by decide +kernel) hF.sorted_ (er_own (i := 1) C (by decide +kernel) rfl))
theorem ok_full_rows {P : Program} {w : World} {K : PySem.W.Frag} {mg : Str → Option Value} {base : Heap} {f : Addr} {fd : FuncData} (F : Fun K "full_rows" "full_rows" st_full_rows f fd) (hF : Facts mg) (hC_check_system : Cal P w K mg base CX0 6 "check_system" ["system"] (spD K .dd (g1 m_check_system))) (hC_corners_of : Cal P w K mg base CX0 5 "corners_of" ["system"] (spD K .dd (g1 m_corners_of))) (hC_plain_of : Cal P w K mg base CX0 3 "plain_of" ["ends"] (spD K .dd (g1 m_plain_of))) (hC_ends_of : Cal P w K mg base CX0 5 "ends_of" ["system", "spot"] (spD K .dd (g2 m_ends_of))) (hC_sum_at__2 : Cal P w K mg base CX0 3 "sum_at" ["numbers", "spot"] (spD K .dd (g2 m_sum_at__2))) : FnG P w K mg base CX0 7 f fd ["system"] (spD K .ow (g1 m_full_rows)) :=
  ok_def F fs_full_rows (fun ds r h => by obtain ⟨x0, y, e, _, _⟩ := h; rw [e]; rfl) 5 rfl (by decide) fun X h1 h2 h3 h4 h5 C ds r h => by subst h1 h2 h3 h4 h5; obtain ⟨x0, y, e1, e2, e3⟩ := h; subst e1 e3; exact body_of (bk_full_rows C hF hC_check_system hC_corners_of hC_plain_of hC_ends_of hC_sum_at__2 x0) e2 (fun x h => nomatch h)
theorem bk_plain_pairs {X : Cx} (C : Ctx X N_plain_pairs (defScope st_plain_pairs) none 6) (hF : Facts X.mg) (hC_check_system : Cal X.prog X.w X.K X.mg X.base CX0 6 "check_system" ["system"] (spD X.K .dd (g1 m_check_system))) (hC_corners_of : Cal X.prog X.w X.K X.mg X.base CX0 5 "corners_of" ["system"] (spD X.K .dd (g1 m_corners_of))) (hC_plain_of : Cal X.prog X.w X.K X.mg X.base CX0 3 "plain_of" ["ends"] (spD X.K .dd (g1 m_plain_of))) (hC_ends_of : Cal X.prog X.w X.K X.mg X.base CX0 5 "ends_of" ["system", "spot"] (spD X.K .dd (g2 m_ends_of))) (a_system : (List (T2 (T2 Int Int) Int))) :
    SV X (dats 2 [enc a_system]) (defBody st_plain_pairs) (fun _ : Unit => List.replicate 2 .un) (fun _ : Unit => List.replicate 2 .un) ⟨.dd, false⟩ (b_plain_pairs a_system) := by
  unfold b_plain_pairs
  refine sv_expr (ed_call C hC_check_system (by decide) (by decide +kernel) (ad_cons (ed_var (i := 0) C (by decide +kernel) rfl) ad_nil) go1) ?_
  exact sv_ret (ed_of_eo (eo_lc (lc_mk (own := [("spot", 1)]) C (it_list (ed_call C hC_corners_of (by decide) (by decide +kernel) (ad_cons (ed_var (i := 0) C (by decide +kernel) rfl) ad_nil) go1)) (by decide +kernel) (fun s1 H1 Ca1 cl1 fp1 => (pgN (i := 1) (Ctx.blk C s1 H1 _ Ca1 cl1 fp1 rfl) (by decide +kernel))) (tgt_name (i := 1)) (by decide) rfl (fun s1 H1 Ca1 cl1 fp1 x1 => ets_nil) (fun s1 H1 Ca1 cl1 fp1 x1 => (ed_call (Ctx.blk C s1 H1 _ Ca1 cl1 fp1 rfl) hC_plain_of (by decide) (by decide +kernel) (ad_cons (ed_call (Ctx.blk C s1 H1 _ Ca1 cl1 fp1 rfl) hC_ends_of (by decide) (by decide +kernel) (ad_cons (ed_var (i := 0) (Ctx.blk C s1 H1 _ Ca1 cl1 fp1 rfl) (by decide +kernel) rfl) (ad_cons (ed_var (i := 1) (Ctx.blk C s1 H1 _ Ca1 cl1 fp1 rfl) (by decide +kernel) rfl) ad_nil)) go2) ad_nil) go1)))))
theorem ok_plain_pairs {P : Program} {w : World} {K : PySem.W.Frag} {mg : Str → Option Value} {base : Heap} {f : Addr} {fd : FuncData} (F : Fun K "plain_pairs" "plain_pairs" st_plain_pairs f fd) (hF : Facts mg) (hC_check_system : Cal P w K mg base CX0 6 "check_system" ["system"] (spD K .dd (g1 m_check_system))) (hC_corners_of : Cal P w K mg base CX0 5 "corners_of" ["system"] (spD K .dd (g1 m_corners_of))) (hC_plain_of : Cal P w K mg base CX0 3 "plain_of" ["ends"] (spD K .dd (g1 m_plain_of))) (hC_ends_of : Cal P w K mg base CX0 5 "ends_of" ["system", "spot"] (spD K .dd (g2 m_ends_of))) : FnG P w K mg base CX0 7 f fd ["system"] (spD K .dd (g1 m_plain_pairs)) :=
  ok_def F fs_plain_pairs (fun ds r h => by obtain ⟨x0, y, e, _, _⟩ := h; rw [e]; rfl) 2 rfl (by decide) fun X h1 h2 h3 h4 h5 C ds r h => by subst h1 h2 h3 h4 h5; obtain ⟨x0, y, e1, e2, e3⟩ := h; subst e1 e3; exact body_of (bk_plain_pairs C hF hC_check_system hC_corners_of hC_plain_of hC_ends_of x0) e2 (fun x h => nomatch h)
theorem bk__law_mix {X : Cx} (C : Ctx X N__law_mix (defScope st__law_mix) none 0) (hF : Facts X.mg)  (a_draws : (List Int)) (a_k : Int) (a_many : Int) :
    SV X (dats 4 [enc a_draws, enc a_k, enc a_many]) (defBody st__law_mix) (fun _ : Unit => List.replicate 4 .un) (fun _ : Unit => List.replicate 4 .un) ⟨.dd, false⟩ (b__law_mix a_draws a_k a_many) := by
  unfold b__law_mix
  refine sv_set (i := 3) C (by decide +kernel) ed_num fun v_cell_1 => ?_
  refine sv_if (S' := Int) (P' := fun s2 => [.dat (enc a_draws), .dat (enc a_k), .dat (enc a_many), .dat (enc s2)]) (eb_cmp (ec_gt (ed_len C (by decide +kernel) hF.len_ (er_of_ed (ed_var (i := 0) C (by decide +kernel) rfl))) ed_num)) ?_ ?_ fun s2 => ?_
  · refine sv_set (i := 3) C (by decide +kernel) (ed_ix (ed_var (i := 0) C (by decide +kernel) rfl) (ed_mod (ed_int C (by decide +kernel) hF.int_ (ed_var (i := 1) C (by decide +kernel) rfl)) (ed_len C (by decide +kernel) hF.len_ (er_of_ed (ed_var (i := 0) C (by decide +kernel) rfl))))) fun v_cell_3 => ?_
    exact sv_nil (wk_ops [] rfl)
  · exact sv_nil (wk_ops [] rfl)
  refine sv_if (S' := Unit) (P' := fun s4 => [.dat (enc a_draws), .dat (enc a_k), .dat (enc a_many), .dat (enc s2)]) (eb_cmp (ec_lt (ed_var (i := 1) C (by decide +kernel) rfl) (ed_len C (by decide +kernel) hF.len_ (er_of_ed (ed_var (i := 0) C (by decide +kernel) rfl))))) ?_ ?_ fun s4 => ?_
  · exact sv_ret (ed_mod (ed_int C (by decide +kernel) hF.int_ (ed_var (i := 3) C (by decide +kernel) rfl)) (ed_var (i := 2) C (by decide +kernel) rfl))
  · exact sv_nil (wk_ops [] rfl)
  exact sv_ret (ed_mod (ed_int C (by decide +kernel) hF.int_ (ed_fdiv (ed_int C (by decide +kernel) hF.int_ (ed_add (ed_mul (ed_var (i := 3) C (by decide +kernel) rfl) ed_num) (ed_mul (ed_var (i := 1) C (by decide +kernel) rfl) ed_num))) ed_num)) (ed_var (i := 2) C (by decide +kernel) rfl))
theorem ok__law_mix {P : Program} {w : World} {K : PySem.W.Frag} {mg : Str → Option Value} {base : Heap} {f : Addr} {fd : FuncData} (F : Fun K "_law_mix" "_law_mix" st__law_mix f fd) (hF : Facts mg)  : FnG P w K mg base CX0 1 f fd ["draws", "k", "many"] (spD K .dd (g3 m__law_mix)) :=
  ok_def F fs__law_mix (fun ds r h => by obtain ⟨x0, x1, x2, y, e, _, _⟩ := h; rw [e]; rfl) 4 rfl (by decide) fun X h1 h2 h3 h4 h5 C ds r h => by subst h1 h2 h3 h4 h5; obtain ⟨x0, x1, x2, y, e1, e2, e3⟩ := h; subst e1 e3; exact body_of (bk__law_mix C hF  x0 x1 x2) e2 (fun x h => nomatch h)
theorem bk__law_system {X : Cx} (C : Ctx X N__law_system (defScope st__law_system) none 1) (hF : Facts X.mg) (hC__law_mix : Cal X.prog X.w X.K X.mg X.base CX0 1 "_law_mix" ["draws", "k", "many"] (spD X.K .dd (g3 m__law_mix))) (a_draws : (List Int)) (a_k : Int) :
    SV X (dats 8 [enc a_draws, enc a_k]) (defBody st__law_system) (fun _ : Unit => List.replicate 8 .un) (fun _ : Unit => List.replicate 8 .un) ⟨.dd, false⟩ (b__law_system a_draws a_k) := by
  unfold b__law_system
  refine sv_set (i := 2) C (by decide +kernel) (ed_ix (ed_of_eo (eo_list (al_cons ed_num (al_cons ed_num (al_cons ed_num (al_nil (α := Int))))))) (ed_call C hC__law_mix (by decide) (by decide +kernel) (ad_cons (ed_var (i := 0) C (by decide +kernel) rfl) (ad_cons (ed_var (i := 1) C (by decide +kernel) rfl) (ad_cons ed_num ad_nil))) go3)) fun v_top_1 => ?_
  refine sv_set (i := 3) C (by decide +kernel) (ed_add ed_num (ed_call C hC__law_mix (by decide) (by decide +kernel) (ad_cons (ed_var (i := 0) C (by decide +kernel) rfl) (ad_cons (ed_add (ed_var (i := 1) C (by decide +kernel) rfl) ed_num) (ad_cons ed_num ad_nil))) go3)) fun v_far_2 => ?_
  refine sv_setO (i := 4) C (by decide +kernel) (Nat.le_of_ble_eq_true rfl) (eo_list (al_cons (ed_t2 (ed_t2 ed_num ed_num) (ed_var (i := 3) C (by decide +kernel) rfl)) (al_cons (ed_t2 (ed_t2 (ed_neg ed_num) ed_num) ed_num) (al_cons (ed_t2 (ed_t2 ed_num (ed_neg ed_num)) ed_num) (al_nil (α := (T2 (T2 Int Int) Int))))))) fun v_rows_3 => ?_
  refine sv_if (S' := (List (T2 (T2 Int Int) Int))) (P' := fun s4 => [.dat (enc a_draws), .dat (enc a_k), .dat (enc v_top_1), .dat (enc v_far_2), .own (s4.map enc), .un, .un, .un]) (eb_cmp (ec_eqI (ed_call C hC__law_mix (by decide) (by decide +kernel) (ad_cons (ed_var (i := 0) C (by decide +kernel) rfl) (ad_cons (ed_add (ed_var (i := 1) C (by decide +kernel) rfl) ed_num) (ad_cons ed_num ad_nil))) go3) ed_num)) ?_ ?_ fun s4 => ?_
  · refine sv_set (i := 4) C (by decide +kernel) (ed_of_eo (eo_list (al_cons (ed_t2 (ed_t2 ed_num ed_num) (ed_var (i := 3) C (by decide +kernel) rfl)) (al_cons (ed_t2 (ed_t2 (ed_neg ed_num) ed_num) (ed_call C hC__law_mix (by decide) (by decide +kernel) (ad_cons (ed_var (i := 0) C (by decide +kernel) rfl) (ad_cons (ed_add (ed_var (i := 1) C (by decide +kernel) rfl) ed_num) (ad_cons ed_num ad_nil))) go3)) (al_nil (α := (T2 (T2 Int Int) Int))))))) fun v_rows_5 => ?_
    refine sv_setO (i := 4) C (by decide +kernel) (Nat.le_of_ble_eq_true rfl) (eo_cat (ed_var (i := 4) C (by decide +kernel) rfl) (ed_of_eo (eo_list (al_cons (ed_t2 (ed_t2 ed_num ed_num) (ed_add ed_num (ed_call C hC__law_mix (by decide) (by decide +kernel) (ad_cons (ed_var (i := 0) C (by decide +kernel) rfl) (ad_cons (ed_add (ed_var (i := 1) C (by decide +kernel) rfl) ed_num) (ad_cons ed_num ad_nil))) go3))) (al_cons (ed_t2 (ed_t2 ed_num (ed_neg ed_num)) (ed_call C hC__law_mix (by decide) (by decide +kernel) (ad_cons (ed_var (i := 0) C (by decide +kernel) rfl) (ad_cons (ed_add (ed_var (i := 1) C (by decide +kernel) rfl) ed_num) (ad_cons ed_num ad_nil))) go3)) (al_nil (α := (T2 (T2 Int Int) Int)))))))) fun v_rows_6 => ?_
    exact sv_nil (wk_ops [] rfl)
  · exact sv_nil (wk_ops [] rfl)
  refine sv_for (S1 := (List (T2 (T2 Int Int) Int))) (P1 := fun s7 => [.dat (enc a_draws), .dat (enc a_k), .dat (enc v_top_1), .dat (enc v_far_2), .own (s7.map enc), .un, .un, .un]) (s0 := s4) C (it_rng1 C (by decide +kernel) hF.range_ (ed_call C hC__law_mix (by decide) (by decide +kernel) (ad_cons (ed_var (i := 0) C (by decide +kernel) rfl) (ad_cons (ed_add (ed_var (i := 1) C (by decide +kernel) rfl) ed_num) (ad_cons (ed_sub ed_num (ed_len C (by decide +kernel) hF.len_ (er_own (i := 4) C (by decide +kernel) rfl))) ad_nil))) go3)) (pgN (i := 5) C (by decide +kernel)) (tgt_name (i := 5)) (fun s7 => rfl) (wk_ops [] rfl) (fun s7 y8 => ?_) (fun s7 => ?_)
  · refine sv_par (i := 6) (j := 7) C (by decide +kernel) (by decide +kernel) (by decide) (by decide +kernel) (by decide +kernel) (ed_sub (ed_call C hC__law_mix (by decide) (by decide +kernel) (ad_cons (ed_var (i := 0) C (by decide +kernel) rfl) (ad_cons (ed_add (ed_add (ed_var (i := 1) C (by decide +kernel) rfl) ed_num) (ed_mul ed_num (ed_var (i := 5) C (by decide +kernel) rfl))) (ad_cons (ed_add (ed_mul ed_num (ed_var (i := 2) C (by decide +kernel) rfl)) ed_num) ad_nil))) go3) (ed_var (i := 2) C (by decide +kernel) rfl)) (ed_sub (ed_call C hC__law_mix (by decide) (by decide +kernel) (ad_cons (ed_var (i := 0) C (by decide +kernel) rfl) (ad_cons (ed_add (ed_add (ed_var (i := 1) C (by decide +kernel) rfl) ed_num) (ed_mul ed_num (ed_var (i := 5) C (by decide +kernel) rfl))) (ad_cons (ed_add (ed_mul ed_num (ed_var (i := 2) C (by decide +kernel) rfl)) ed_num) ad_nil))) go3) (ed_var (i := 2) C (by decide +kernel) rfl)) fun v_p_9 v_q_10 => ?_
    refine sv_if (S' := (List (T2 (T2 Int Int) Int))) (P' := fun s11 => [.dat (enc a_draws), .dat (enc a_k), .dat (enc v_top_1), .dat (enc v_far_2), .own (s11.map enc), .dat (enc y8), .dat (enc v_p_9), .dat (enc v_q_10)]) (eb_cmp (ec_neD C (ed_t2 (ed_var (i := 6) C (by decide +kernel) rfl) (ed_var (i := 7) C (by decide +kernel) rfl)) (ed_t2 ed_num ed_num))) ?_ ?_ fun s11 => ?_
    · refine sv_app (i := 4) C (by decide +kernel) rfl (ed_t2 (ed_t2 (ed_var (i := 6) C (by decide +kernel) rfl) (ed_var (i := 7) C (by decide +kernel) rfl)) (ed_sub (ed_call C hC__law_mix (by decide) (by decide +kernel) (ad_cons (ed_var (i := 0) C (by decide +kernel) rfl) (ad_cons (ed_add (ed_add (ed_var (i := 1) C (by decide +kernel) rfl) ed_num) (ed_mul ed_num (ed_var (i := 5) C (by decide +kernel) rfl))) (ad_cons ed_num ad_nil))) go3) ed_num)) fun v12 => ?_
      exact sv_nil (wk_ops [] rfl)
    · exact sv_nil (wk_ops [] rfl)
    exact sv_nil (wk_ops [.un 5, .un 6, .un 7] rfl)
  refine sv_wk (wk_ops [.fz 4] rfl) ?_
  exact sv_ret (ed_var (i := 4) C (by decide +kernel) rfl)
theorem ok__law_system {P : Program} {w : World} {K : PySem.W.Frag} {mg : Str → Option Value} {base : Heap} {f : Addr} {fd : FuncData} (F : Fun K "_law_system" "_law_system" st__law_system f fd) (hF : Facts mg) (hC__law_mix : Cal P w K mg base CX0 1 "_law_mix" ["draws", "k", "many"] (spD K .dd (g3 m__law_mix))) : FnG P w K mg base CX0 2 f fd ["draws", "k"] (spD K .dd (g2 m__law_system)) :=
  ok_def F fs__law_system (fun ds r h => by obtain ⟨x0, x1, y, e, _, _⟩ := h; rw [e]; rfl) 8 rfl (by decide) fun X h1 h2 h3 h4 h5 C ds r h => by subst h1 h2 h3 h4 h5; obtain ⟨x0, x1, y, e1, e2, e3⟩ := h; subst e1 e3; exact body_of (bk__law_system C hF hC__law_mix x0 x1) e2 (fun x h => nomatch h)
theorem bk__law_is_wide {X : Cx} (C : Ctx X N__law_is_wide (defScope st__law_is_wide) none 1) (hF : Facts X.mg) (hC__law_low : Cal X.prog X.w X.K X.mg X.base CX0 1 "_law_low" ["n", "d"] (spD X.K .dd (g2 m__law_low))) (a_spots : (List (T2 (T2 Int Int) (T2 Int Int)))) :
    SV X (dats 6 [enc a_spots]) (defBody st__law_is_wide) (fun _ : Unit => List.replicate 6 .un) (fun _ : Unit => List.replicate 6 .un) ⟨.dd, false⟩ (b__law_is_wide a_spots) := by
  unfold b__law_is_wide
  refine sv_for (S1 := Unit) (P1 := fun s1 => [.dat (enc a_spots), .un, .un, .un, .un, .un]) (s0 := ()) C (it_list (ed_var (i := 0) C (by decide +kernel) rfl)) (pgN (i := 1) C (by decide +kernel)) (tgt_name (i := 1)) (fun s1 => rfl) (wk_ops [] rfl) (fun s1 y2 => ?_) (fun s1 => ?_)
  · refine sv_for (S1 := Unit) (P1 := fun s3 => [.dat (enc a_spots), .dat (enc y2), .un, .un, .un, .un]) (s0 := ()) C (it_list (ed_var (i := 0) C (by decide +kernel) rfl)) (pgN (i := 2) C (by decide +kernel)) (tgt_name (i := 2)) (fun s3 => rfl) (wk_ops [] rfl) (fun s3 y4 => ?_) (fun s3 => ?_)
    · refine sv_setL (i := 3) C (by decide +kernel) (by decide +kernel) (lc_mk (own := [("j", 5)]) C (it_rng1 C (by decide +kernel) hF.range_ ed_num) (by decide +kernel) (fun s6 H6 Ca6 cl6 fp6 => (pgN (i := 5) (Ctx.blk C s6 H6 _ Ca6 cl6 fp6 rfl) (by decide +kernel))) (tgt_name (i := 5)) (by decide) rfl (fun s6 H6 Ca6 cl6 fp6 x6 => ets_nil) (fun s6 H6 Ca6 cl6 fp6 x6 => (ed_call (Ctx.blk C s6 H6 _ Ca6 cl6 fp6 rfl) hC__law_low (by decide) (by decide +kernel) (ad_cons (ed_sub (ed_mul (ed_20 (ed_ixT (ed_tp2 (ed_var (i := 1) (Ctx.blk C s6 H6 _ Ca6 cl6 fp6 rfl) (by decide +kernel) rfl)) (ed_var (i := 5) (Ctx.blk C s6 H6 _ Ca6 cl6 fp6 rfl) (by decide +kernel) rfl))) (ed_21 (ed_ixT (ed_tp2 (ed_ix (ed_var (i := 0) (Ctx.blk C s6 H6 _ Ca6 cl6 fp6 rfl) (by decide +kernel) rfl) ed_num)) (ed_var (i := 5) (Ctx.blk C s6 H6 _ Ca6 cl6 fp6 rfl) (by decide +kernel) rfl)))) (ed_mul (ed_20 (ed_ixT (ed_tp2 (ed_ix (ed_var (i := 0) (Ctx.blk C s6 H6 _ Ca6 cl6 fp6 rfl) (by decide +kernel) rfl) ed_num)) (ed_var (i := 5) (Ctx.blk C s6 H6 _ Ca6 cl6 fp6 rfl) (by decide +kernel) rfl))) (ed_21 (ed_ixT (ed_tp2 (ed_var (i := 1) (Ctx.blk C s6 H6 _ Ca6 cl6 fp6 rfl) (by decide +kernel) rfl)) (ed_var (i := 5) (Ctx.blk C s6 H6 _ Ca6 cl6 fp6 rfl) (by decide +kernel) rfl))))) (ad_cons (ed_mul (ed_21 (ed_ixT (ed_tp2 (ed_var (i := 1) (Ctx.blk C s6 H6 _ Ca6 cl6 fp6 rfl) (by decide +kernel) rfl)) (ed_var (i := 5) (Ctx.blk C s6 H6 _ Ca6 cl6 fp6 rfl) (by decide +kernel) rfl))) (ed_21 (ed_ixT (ed_tp2 (ed_ix (ed_var (i := 0) (Ctx.blk C s6 H6 _ Ca6 cl6 fp6 rfl) (by decide +kernel) rfl) ed_num)) (ed_var (i := 5) (Ctx.blk C s6 H6 _ Ca6 cl6 fp6 rfl) (by decide +kernel) rfl)))) ad_nil)) go2))) fun v_p_5 => ?_
      refine sv_setL (i := 4) C (by decide +kernel) (by decide +kernel) (lc_mk (own := [("j", 5)]) C (it_rng1 C (by decide +kernel) hF.range_ ed_num) (by decide +kernel) (fun s8 H8 Ca8 cl8 fp8 => (pgN (i := 5) (Ctx.blk C s8 H8 _ Ca8 cl8 fp8 rfl) (by decide +kernel))) (tgt_name (i := 5)) (by decide) rfl (fun s8 H8 Ca8 cl8 fp8 x8 => ets_nil) (fun s8 H8 Ca8 cl8 fp8 x8 => (ed_call (Ctx.blk C s8 H8 _ Ca8 cl8 fp8 rfl) hC__law_low (by decide) (by decide +kernel) (ad_cons (ed_sub (ed_mul (ed_20 (ed_ixT (ed_tp2 (ed_var (i := 2) (Ctx.blk C s8 H8 _ Ca8 cl8 fp8 rfl) (by decide +kernel) rfl)) (ed_var (i := 5) (Ctx.blk C s8 H8 _ Ca8 cl8 fp8 rfl) (by decide +kernel) rfl))) (ed_21 (ed_ixT (ed_tp2 (ed_ix (ed_var (i := 0) (Ctx.blk C s8 H8 _ Ca8 cl8 fp8 rfl) (by decide +kernel) rfl) ed_num)) (ed_var (i := 5) (Ctx.blk C s8 H8 _ Ca8 cl8 fp8 rfl) (by decide +kernel) rfl)))) (ed_mul (ed_20 (ed_ixT (ed_tp2 (ed_ix (ed_var (i := 0) (Ctx.blk C s8 H8 _ Ca8 cl8 fp8 rfl) (by decide +kernel) rfl) ed_num)) (ed_var (i := 5) (Ctx.blk C s8 H8 _ Ca8 cl8 fp8 rfl) (by decide +kernel) rfl))) (ed_21 (ed_ixT (ed_tp2 (ed_var (i := 2) (Ctx.blk C s8 H8 _ Ca8 cl8 fp8 rfl) (by decide +kernel) rfl)) (ed_var (i := 5) (Ctx.blk C s8 H8 _ Ca8 cl8 fp8 rfl) (by decide +kernel) rfl))))) (ad_cons (ed_mul (ed_21 (ed_ixT (ed_tp2 (ed_var (i := 2) (Ctx.blk C s8 H8 _ Ca8 cl8 fp8 rfl) (by decide +kernel) rfl)) (ed_var (i := 5) (Ctx.blk C s8 H8 _ Ca8 cl8 fp8 rfl) (by decide +kernel) rfl))) (ed_21 (ed_ixT (ed_tp2 (ed_ix (ed_var (i := 0) (Ctx.blk C s8 H8 _ Ca8 cl8 fp8 rfl) (by decide +kernel) rfl) ed_num)) (ed_var (i := 5) (Ctx.blk C s8 H8 _ Ca8 cl8 fp8 rfl) (by decide +kernel) rfl)))) ad_nil)) go2))) fun v_q_7 => ?_
      refine sv_if (S' := Unit) (P' := fun s9 => [.dat (enc a_spots), .dat (enc y2), .dat (enc y4), .dat (enc v_p_5), .dat (enc v_q_7), .un]) (eb_cmp (ec_neI (ed_mul (ed_mul (ed_mul (ed_20 (ed_ix (ed_var (i := 3) C (by decide +kernel) rfl) ed_num)) (ed_20 (ed_ix (ed_var (i := 4) C (by decide +kernel) rfl) ed_num))) (ed_21 (ed_ix (ed_var (i := 3) C (by decide +kernel) rfl) ed_num))) (ed_21 (ed_ix (ed_var (i := 4) C (by decide +kernel) rfl) ed_num))) (ed_mul (ed_mul (ed_mul (ed_20 (ed_ix (ed_var (i := 3) C (by decide +kernel) rfl) ed_num)) (ed_20 (ed_ix (ed_var (i := 4) C (by decide +kernel) rfl) ed_num))) (ed_21 (ed_ix (ed_var (i := 3) C (by decide +kernel) rfl) ed_num))) (ed_21 (ed_ix (ed_var (i := 4) C (by decide +kernel) rfl) ed_num))))) ?_ ?_ fun s9 => ?_
      · exact sv_ret ed_bl
      · exact sv_nil (wk_ops [] rfl)
      exact sv_nil (wk_ops [.un 2, .un 3, .un 4] rfl)
    exact sv_nil (wk_ops [.un 1] rfl)
  exact sv_ret ed_bl
theorem ok__law_is_wide {P : Program} {w : World} {K : PySem.W.Frag} {mg : Str → Option Value} {base : Heap} {f : Addr} {fd : FuncData} (F : Fun K "_law_is_wide" "_law_is_wide" st__law_is_wide f fd) (hF : Facts mg) (hC__law_low : Cal P w K mg base CX0 1 "_law_low" ["n", "d"] (spD K .dd (g2 m__law_low))) : FnG P w K mg base CX0 2 f fd ["spots"] (spD K .dd (g1 m__law_is_wide)) :=
  ok_def F fs__law_is_wide (fun ds r h => by obtain ⟨x0, y, e, _, _⟩ := h; rw [e]; rfl) 6 rfl (by decide) fun X h1 h2 h3 h4 h5 C ds r h => by subst h1 h2 h3 h4 h5; obtain ⟨x0, y, e1, e2, e3⟩ := h; subst e1 e3; exact body_of (bk__law_is_wide C hF hC__law_low x0) e2 (fun x h => nomatch h)
theorem bk__law_good {X : Cx} (C : Ctx X N__law_good (defScope st__law_good) none 3) (hF : Facts X.mg) (hC__law_system : Cal X.prog X.w X.K X.mg X.base CX0 2 "_law_system" ["draws", "k"] (spD X.K .dd (g2 m__law_system))) (hC__law_is_wide : Cal X.prog X.w X.K X.mg X.base CX0 2 "_law_is_wide" ["spots"] (spD X.K .dd (g1 m__law_is_wide))) (hC__law_corners : Cal X.prog X.w X.K X.mg X.base CX0 3 "_law_corners" ["system"] (spD X.K .dd (g1 m__law_corners))) (a_draws : (List Int)) (a_k : Int) :
    SV X (dats 3 [enc a_draws, enc a_k]) (defBody st__law_good) (fun _ : Unit => List.replicate 3 .un) (fun _ : Unit => List.replicate 3 .un) ⟨.dd, false⟩ (b__law_good a_draws a_k) := by
  unfold b__law_good
  refine sv_set (i := 2) C (by decide +kernel) (ed_call C hC__law_system (by decide) (by decide +kernel) (ad_cons (ed_var (i := 0) C (by decide +kernel) rfl) (ad_cons (ed_var (i := 1) C (by decide +kernel) rfl) ad_nil)) go2) fun v_system_1 => ?_
  refine sv_if (S' := Unit) (P' := fun s2 => [.dat (enc a_draws), .dat (enc a_k), .dat (enc v_system_1)]) (eb_of_ed (ed_call C hC__law_is_wide (by decide) (by decide +kernel) (ad_cons (ed_call C hC__law_corners (by decide) (by decide +kernel) (ad_cons (ed_var (i := 2) C (by decide +kernel) rfl) ad_nil) go1) ad_nil) go1)) ?_ ?_ fun s2 => ?_
  · exact sv_ret (ed_var (i := 2) C (by decide +kernel) rfl)
  · exact sv_nil (wk_ops [] rfl)
  exact sv_ret (ed_of_eo (eo_list (al_cons (ed_t2 (ed_t2 ed_num ed_num) ed_num) (al_cons (ed_t2 (ed_t2 (ed_neg ed_num) ed_num) ed_num) (al_cons (ed_t2 (ed_t2 ed_num ed_num) ed_num) (al_cons (ed_t2 (ed_t2 ed_num (ed_neg ed_num)) ed_num) (al_cons (ed_t2 (ed_t2 ed_num ed_num) ed_num) (al_nil (α := (T2 (T2 Int Int) Int))))))))))
theorem ok__law_good {P : Program} {w : World} {K : PySem.W.Frag} {mg : Str → Option Value} {base : Heap} {f : Addr} {fd : FuncData} (F : Fun K "_law_good" "_law_good" st__law_good f fd) (hF : Facts mg) (hC__law_system : Cal P w K mg base CX0 2 "_law_system" ["draws", "k"] (spD K .dd (g2 m__law_system))) (hC__law_is_wide : Cal P w K mg base CX0 2 "_law_is_wide" ["spots"] (spD K .dd (g1 m__law_is_wide))) (hC__law_corners : Cal P w K mg base CX0 3 "_law_corners" ["system"] (spD K .dd (g1 m__law_corners))) : FnG P w K mg base CX0 4 f fd ["draws", "k"] (spD K .dd (g2 m__law_good)) :=
  ok_def F fs__law_good (fun ds r h => by obtain ⟨x0, x1, y, e, _, _⟩ := h; rw [e]; rfl) 3 rfl (by decide) fun X h1 h2 h3 h4 h5 C ds r h => by subst h1 h2 h3 h4 h5; obtain ⟨x0, x1, y, e1, e2, e3⟩ := h; subst e1 e3; exact body_of (bk__law_good C hF hC__law_system hC__law_is_wide hC__law_corners x0 x1) e2 (fun x h => nomatch h)
theorem bk__law_side {X : Cx} (C : Ctx X N__law_side (defScope st__law_side) none 0) (hF : Facts X.mg)  (a_one : (T2 Int Int)) (a_two : (T2 Int Int)) :
    SV X (dats 2 [enc a_one, enc a_two]) (defBody st__law_side) (fun _ : Unit => List.replicate 2 .un) (fun _ : Unit => List.replicate 2 .un) ⟨.dd, false⟩ (b__law_side a_one a_two) := by
  unfold b__law_side
  exact sv_ret (ed_sub (ed_mul (ed_20 (ed_var (i := 0) C (by decide +kernel) rfl)) (ed_21 (ed_var (i := 1) C (by decide +kernel) rfl))) (ed_mul (ed_21 (ed_var (i := 0) C (by decide +kernel) rfl)) (ed_20 (ed_var (i := 1) C (by decide +kernel) rfl))))
theorem ok__law_side {P : Program} {w : World} {K : PySem.W.Frag} {mg : Str → Option Value} {base : Heap} {f : Addr} {fd : FuncData} (F : Fun K "_law_side" "_law_side" st__law_side f fd) (hF : Facts mg)  : FnG P w K mg base CX0 1 f fd ["one", "two"] (spD K .dd (g2 m__law_side)) :=
  ok_def F fs__law_side (fun ds r h => by obtain ⟨x0, x1, y, e, _, _⟩ := h; rw [e]; rfl) 2 rfl (by decide) fun X h1 h2 h3 h4 h5 C ds r h => by subst h1 h2 h3 h4 h5; obtain ⟨x0, x1, y, e1, e2, e3⟩ := h; subst e1 e3; exact body_of (bk__law_side C hF  x0 x1) e2 (fun x h => nomatch h)
theorem bk__law_lies {X : Cx} (C : Ctx X N__law_lies (defScope st__law_lies) none 1) (hF : Facts X.mg) (hC__law_side : Cal X.prog X.w X.K X.mg X.base CX0 1 "_law_side" ["one", "two"] (spD X.K .dd (g2 m__law_side))) (a_own : (List (T2 Int Int))) (a_gains : (T2 Int Int)) :
    SV X (dats 7 [enc a_own, enc a_gains]) (defBody st__law_lies) (fun _ : Unit => List.replicate 7 .un) (fun _ : Unit => List.replicate 7 .un) ⟨.dd, false⟩ (b__law_lies a_own a_gains) := by
  unfold b__law_lies
  refine sv_for (S1 := Unit) (P1 := fun s1 => [.dat (enc a_own), .dat (enc a_gains), .un, .un, .un, .un, .un]) (s0 := ()) C (it_list (ed_var (i := 0) C (by decide +kernel) rfl)) (pgN (i := 2) C (by decide +kernel)) (tgt_name (i := 2)) (fun s1 => rfl) (wk_ops [] rfl) (fun s1 y2 => ?_) (fun s1 => ?_)
  · refine sv_for (S1 := Unit) (P1 := fun s3 => [.dat (enc a_own), .dat (enc a_gains), .dat (enc y2), .un, .un, .un, .un]) (s0 := ()) C (it_list (ed_var (i := 0) C (by decide +kernel) rfl)) (pgN (i := 3) C (by decide +kernel)) (tgt_name (i := 3)) (fun s3 => rfl) (wk_ops [] rfl) (fun s3 y4 => ?_) (fun s3 => ?_)
    · refine sv_set (i := 4) C (by decide +kernel) (ed_call C hC__law_side (by decide) (by decide +kernel) (ad_cons (ed_var (i := 2) C (by decide +kernel) rfl) (ad_cons (ed_var (i := 3) C (by decide +kernel) rfl) ad_nil)) go2) fun v_whole_5 => ?_
      refine sv_if (S' := Unit) (P' := fun s6 => [.dat (enc a_own), .dat (enc a_gains), .dat (enc y2), .dat (enc y4), .dat (enc v_whole_5), .un, .un]) (eb_cmp (ec_gt (ed_var (i := 4) C (by decide +kernel) rfl) ed_num)) ?_ ?_ fun s6 => ?_
      · refine sv_par (i := 5) (j := 6) C (by decide +kernel) (by decide +kernel) (by decide) (by decide +kernel) (by decide +kernel) (ed_call C hC__law_side (by decide) (by decide +kernel) (ad_cons (ed_var (i := 1) C (by decide +kernel) rfl) (ad_cons (ed_var (i := 3) C (by decide +kernel) rfl) ad_nil)) go2) (ed_call C hC__law_side (by decide) (by decide +kernel) (ad_cons (ed_var (i := 2) C (by decide +kernel) rfl) (ad_cons (ed_var (i := 1) C (by decide +kernel) rfl) ad_nil)) go2) fun v_a_7 v_b_8 => ?_
        refine sv_if (S' := Unit) (P' := fun s9 => [.dat (enc a_own), .dat (enc a_gains), .dat (enc y2), .dat (enc y4), .dat (enc v_whole_5), .dat (enc v_a_7), .dat (enc v_b_8)]) (eb_bool (ew_and (eb_cmp (ec_ge (ed_var (i := 5) C (by decide +kernel) rfl) ed_num)) (ew_and (eb_cmp (ec_ge (ed_var (i := 6) C (by decide +kernel) rfl) ed_num)) (ew_and (eb_cmp (ec_eqI (ed_mod (ed_int C (by decide +kernel) hF.int_ (ed_var (i := 5) C (by decide +kernel) rfl)) (ed_var (i := 4) C (by decide +kernel) rfl)) ed_num)) (ew_and1 (eb_cmp (ec_eqI (ed_mod (ed_int C (by decide +kernel) hF.int_ (ed_var (i := 6) C (by decide +kernel) rfl)) (ed_var (i := 4) C (by decide +kernel) rfl)) ed_num))))))) ?_ ?_ fun s9 => ?_
        · exact sv_ret ed_bl
        · exact sv_nil (wk_ops [] rfl)
        exact sv_nil (wk_ops [.un 5, .un 6] rfl)
      · exact sv_nil (wk_ops [] rfl)
      exact sv_nil (wk_ops [.un 3, .un 4] rfl)
    exact sv_nil (wk_ops [.un 2] rfl)
  exact sv_ret (ed_cmp (ec_eqD C (ed_var (i := 1) C (by decide +kernel) rfl) (ed_t2 ed_num ed_num)))
theorem ok__law_lies {P : Program} {w : World} {K : PySem.W.Frag} {mg : Str → Option Value} {base : Heap} {f : Addr} {fd : FuncData} (F : Fun K "_law_lies" "_law_lies" st__law_lies f fd) (hF : Facts mg) (hC__law_side : Cal P w K mg base CX0 1 "_law_side" ["one", "two"] (spD K .dd (g2 m__law_side))) : FnG P w K mg base CX0 2 f fd ["own", "gains"] (spD K .dd (g2 m__law_lies)) :=
  ok_def F fs__law_lies (fun ds r h => by obtain ⟨x0, x1, y, e, _, _⟩ := h; rw [e]; rfl) 7 rfl (by decide) fun X h1 h2 h3 h4 h5 C ds r h => by subst h1 h2 h3 h4 h5; obtain ⟨x0, x1, y, e1, e2, e3⟩ := h; subst e1 e3; exact body_of (bk__law_lies C hF hC__law_side x0 x1) e2 (fun x h => nomatch h)
theorem bk_corners {X : Cx} (C : Ctx X N_corners (defScope st_corners) none 6) (hF : Facts X.mg) (hC_check_system : Cal X.prog X.w X.K X.mg X.base CX0 6 "check_system" ["system"] (spD X.K .dd (g1 m_check_system))) (hC_corners_of : Cal X.prog X.w X.K X.mg X.base CX0 5 "corners_of" ["system"] (spD X.K .dd (g1 m_corners_of))) (a_system : (List (T2 (T2 Int Int) Int))) :
    SV X (dats 1 [enc a_system]) (defBody st_corners) (fun _ : Unit => List.replicate 1 .un) (fun _ : Unit => List.replicate 1 .un) ⟨.dd, false⟩ (b_corners a_system) := by
  unfold b_corners
  refine sv_expr (ed_call C hC_check_system (by decide) (by decide +kernel) (ad_cons (ed_var (i := 0) C (by decide +kernel) rfl) ad_nil) go1) ?_
  exact sv_ret (ed_call C hC_corners_of (by decide) (by decide +kernel) (ad_cons (ed_var (i := 0) C (by decide +kernel) rfl) ad_nil) go1)
theorem ok_corners {P : Program} {w : World} {K : PySem.W.Frag} {mg : Str → Option Value} {base : Heap} {f : Addr} {fd : FuncData} (F : Fun K "corners" "corners" st_corners f fd) (hF : Facts mg) (hC_check_system : Cal P w K mg base CX0 6 "check_system" ["system"] (spD K .dd (g1 m_check_system))) (hC_corners_of : Cal P w K mg base CX0 5 "corners_of" ["system"] (spD K .dd (g1 m_corners_of))) : FnG P w K mg base CX0 7 f fd ["system"] (spD K .dd (g1 m_corners)) :=
  ok_def F fs_corners (fun ds r h => by obtain ⟨x0, y, e, _, _⟩ := h; rw [e]; rfl) 1 rfl (by decide) fun X h1 h2 h3 h4 h5 C ds r h => by subst h1 h2 h3 h4 h5; obtain ⟨x0, y, e1, e2, e3⟩ := h; subst e1 e3; exact body_of (bk_corners C hF hC_check_system hC_corners_of x0) e2 (fun x h => nomatch h)
theorem bk__law_value {X : Cx} (C : Ctx X N__law_value (defScope st__law_value) none 2) (hF : Facts X.mg) (hC__law_at : Cal X.prog X.w X.K X.mg X.base CX0 2 "_law_at" ["numbers", "spot"] (spD X.K .dd (g2 m__law_at))) (hC__law_less : Cal X.prog X.w X.K X.mg X.base CX0 1 "_law_less" ["one", "two"] (spD X.K .dd (g2 m__law_less))) (a_spots : (List (T2 (T2 Int Int) (T2 Int Int)))) (a_gains : (T2 Int Int)) :
    SV X (dats 5 [enc a_spots, enc a_gains]) (defBody st__law_value) (fun _ : Unit => List.replicate 5 .un) (fun _ : Unit => List.replicate 5 .un) ⟨.dd, false⟩ (b__law_value a_spots a_gains) := by
  unfold b__law_value
  refine sv_set (i := 2) C (by decide +kernel) (ed_call C hC__law_at (by decide) (by decide +kernel) (ad_cons (ed_var (i := 1) C (by decide +kernel) rfl) (ad_cons (ed_ix (ed_var (i := 0) C (by decide +kernel) rfl) ed_num) ad_nil)) go2) fun v_best_1 => ?_
  refine sv_for (S1 := (T2 Int Int)) (P1 := fun s2 => [.dat (enc a_spots), .dat (enc a_gains), .dat (enc s2), .un, .un]) (s0 := v_best_1) C (it_list (ed_var (i := 0) C (by decide +kernel) rfl)) (pgN (i := 3) C (by decide +kernel)) (tgt_name (i := 3)) (fun s2 => rfl) (wk_ops [] rfl) (fun s2 y3 => ?_) (fun s2 => ?_)
  · refine sv_set (i := 4) C (by decide +kernel) (ed_call C hC__law_at (by decide) (by decide +kernel) (ad_cons (ed_var (i := 1) C (by decide +kernel) rfl) (ad_cons (ed_var (i := 3) C (by decide +kernel) rfl) ad_nil)) go2) fun v_here_4 => ?_
    refine sv_set (i := 2) C (by decide +kernel) (ed_ix (ed_of_eo (eo_list (al_cons (ed_var (i := 2) C (by decide +kernel) rfl) (al_cons (ed_var (i := 4) C (by decide +kernel) rfl) (al_nil (α := (T2 Int Int))))))) (ed_intB C (by decide +kernel) hF.int_ (ed_call C hC__law_less (by decide) (by decide +kernel) (ad_cons (ed_var (i := 2) C (by decide +kernel) rfl) (ad_cons (ed_var (i := 4) C (by decide +kernel) rfl) ad_nil)) go2))) fun v_best_5 => ?_
    exact sv_nil (wk_ops [.un 3, .un 4] rfl)
  exact sv_ret (ed_var (i := 2) C (by decide +kernel) rfl)
theorem ok__law_value {P : Program} {w : World} {K : PySem.W.Frag} {mg : Str → Option Value} {base : Heap} {f : Addr} {fd : FuncData} (F : Fun K "_law_value" "_law_value" st__law_value f fd) (hF : Facts mg) (hC__law_at : Cal P w K mg base CX0 2 "_law_at" ["numbers", "spot"] (spD K .dd (g2 m__law_at))) (hC__law_less : Cal P w K mg base CX0 1 "_law_less" ["one", "two"] (spD K .dd (g2 m__law_less))) : FnG P w K mg base CX0 3 f fd ["spots", "gains"] (spD K .dd (g2 m__law_value)) :=
  ok_def F fs__law_value (fun ds r h => by obtain ⟨x0, x1, y, e, _, _⟩ := h; rw [e]; rfl) 5 rfl (by decide) fun X h1 h2 h3 h4 h5 C ds r h => by subst h1 h2 h3 h4 h5; obtain ⟨x0, x1, y, e1, e2, e3⟩ := h; subst e1 e3; exact body_of (bk__law_value C hF hC__law_at hC__law_less x0 x1) e2 (fun x h => nomatch h)
theorem bk_broken_of {X : Cx} (C : Ctx X N_broken_of (defScope st_broken_of) none 5) (hF : Facts X.mg) (hC_corners_of : Cal X.prog X.w X.K X.mg X.base CX0 5 "corners_of" ["system"] (spD X.K .dd (g1 m_corners_of))) (hC_tight_at : Cal X.prog X.w X.K X.mg X.base CX0 4 "tight_at" ["system", "spot"] (spD X.K .dd (g2 m_tight_at))) (hC_plain_of : Cal X.prog X.w X.K X.mg X.base CX0 3 "plain_of" ["ends"] (spD X.K .dd (g1 m_plain_of))) (hC_ends_of : Cal X.prog X.w X.K X.mg X.base CX0 5 "ends_of" ["system", "spot"] (spD X.K .dd (g2 m_ends_of))) (a_system : (List (T2 (T2 Int Int) Int))) :
    SV X (dats 6 [enc a_system]) (defBody st_broken_of) (fun _ : Unit => List.replicate 6 .un) (fun _ : Unit => List.replicate 6 .un) ⟨.dd, false⟩ (b_broken_of a_system) := by
  unfold b_broken_of
  refine sv_setO (i := 1) C (by decide +kernel) (Nat.le_of_ble_eq_true rfl) (eo_list (al_nil (α := (T2 Int Int)))) fun v_found_1 => ?_
  refine sv_for (S1 := (List (T2 Int Int))) (P1 := fun s2 => [.dat (enc a_system), .own (s2.map enc), .un, .un, .un, .un]) (s0 := v_found_1) C (it_list (ed_call C hC_corners_of (by decide) (by decide +kernel) (ad_cons (ed_var (i := 0) C (by decide +kernel) rfl) ad_nil) go1)) (pgN (i := 2) C (by decide +kernel)) (tgt_name (i := 2)) (fun s2 => rfl) (wk_ops [] rfl) (fun s2 y3 => ?_) (fun s2 => ?_)
  · refine sv_set (i := 3) C (by decide +kernel) (ed_of_eo (eo_lc (lc_mk (own := [("k", 4)]) C (it_list (ed_call C hC_tight_at (by decide) (by decide +kernel) (ad_cons (ed_var (i := 0) C (by decide +kernel) rfl) (ad_cons (ed_var (i := 2) C (by decide +kernel) rfl) ad_nil)) go2)) (by decide +kernel) (fun s5 H5 Ca5 cl5 fp5 => (pgN (i := 4) (Ctx.blk C s5 H5 _ Ca5 cl5 fp5 rfl) (by decide +kernel))) (tgt_name (i := 4)) (by decide) rfl (fun s5 H5 Ca5 cl5 fp5 x5 => ets_nil) (fun s5 H5 Ca5 cl5 fp5 x5 => (ed_20 (ed_ix (ed_var (i := 0) (Ctx.blk C s5 H5 _ Ca5 cl5 fp5 rfl) (by decide +kernel) rfl) (ed_var (i := 4) (Ctx.blk C s5 H5 _ Ca5 cl5 fp5 rfl) (by decide +kernel) rfl))))))) (fun v_own_4 => ?_) (sw_cell C (by decide +kernel))
    refine sv_ext (i := 1) C (by decide +kernel) rfl (eo_lc (lc_mk (own := [("one", 5)]) C (it_list (ed_call C hC_plain_of (by decide) (by decide +kernel) (ad_cons (ed_call C hC_ends_of (by decide) (by decide +kernel) (ad_cons (ed_var (i := 0) C (by decide +kernel) rfl) (ad_cons (ed_var (i := 2) C (by decide +kernel) rfl) ad_nil)) go2) ad_nil) go1)) (by decide +kernel) (fun s6 H6 Ca6 cl6 fp6 => (pgN (i := 5) (Ctx.blk C s6 H6 _ Ca6 cl6 fp6 rfl) (by decide +kernel))) (tgt_name (i := 5)) (by decide) rfl (fun s6 H6 Ca6 cl6 fp6 x6 => (ets_one (eb_bool (ew_and (eb_cmp (ec_notIn (Ctx.blk C s6 H6 _ Ca6 cl6 fp6 rfl) (ed_var (i := 5) (Ctx.blk C s6 H6 _ Ca6 cl6 fp6 rfl) (by decide +kernel) rfl) (er_of_ed (ed_var (i := 3) (Ctx.blk C s6 H6 _ Ca6 cl6 fp6 rfl) (by decide +kernel) rfl)))) (ew_and1 (eb_cmp (ec_notIn (Ctx.blk C s6 H6 _ Ca6 cl6 fp6 rfl) (ed_var (i := 5) (Ctx.blk C s6 H6 _ Ca6 cl6 fp6 rfl) (by decide +kernel) rfl) (er_own (i := 1) (Ctx.blk C s6 H6 _ Ca6 cl6 fp6 rfl) (by decide +kernel) rfl)))))))) (fun s6 H6 Ca6 cl6 fp6 x6 => (ed_var (i := 5) (Ctx.blk C s6 H6 _ Ca6 cl6 fp6 rfl) (by decide +kernel) rfl)))) fun v7 => ?_
    exact sv_nil (wk_ops [.un 2, .un 3] rfl)
  exact sv_ret (ed_of_eo (eo_sortedD C (by decide +kernel) hF.sorted_ (er_own (i := 1) C (by decide +kernel) rfl)))
theorem ok_broken_of {P : Program} {w : World} {K : PySem.W.Frag} {mg : Str → Option Value} {base : Heap} {f : Addr} {fd : FuncData} (F : Fun K "broken_of" "broken_of" st_broken_of f fd) (hF : Facts mg) (hC_corners_of : Cal P w K mg base CX0 5 "corners_of" ["system"] (spD K .dd (g1 m_corners_of))) (hC_tight_at : Cal P w K mg base CX0 4 "tight_at" ["system", "spot"] (spD K .dd (g2 m_tight_at))) (hC_plain_of : Cal P w K mg base CX0 3 "plain_of" ["ends"] (spD K .dd (g1 m_plain_of))) (hC_ends_of : Cal P w K mg base CX0 5 "ends_of" ["system", "spot"] (spD K .dd (g2 m_ends_of))) : FnG P w K mg base CX0 6 f fd ["system"] (spD K .dd (g1 m_broken_of)) :=
  ok_def F fs_broken_of (fun ds r h => by obtain ⟨x0, y, e, _, _⟩ := h; rw [e]; rfl) 6 rfl (by decide) fun X h1 h2 h3 h4 h5 C ds r h => by subst h1 h2 h3 h4 h5; obtain ⟨x0, y, e1, e2, e3⟩ := h; subst e1 e3; exact body_of (bk_broken_of C hF hC_corners_of hC_tight_at hC_plain_of hC_ends_of x0) e2 (fun x h => nomatch h)
theorem bk_is_dually_whole {X : Cx} (C : Ctx X N_is_dually_whole (defScope st_is_dually_whole) none 6) (hF : Facts X.mg) (hC_check_system : Cal X.prog X.w X.K X.mg X.base CX0 6 "check_system" ["system"] (spD X.K .dd (g1 m_check_system))) (hC_broken_of : Cal X.prog X.w X.K X.mg X.base CX0 6 "broken_of" ["system"] (spD X.K .dd (g1 m_broken_of))) (a_system : (List (T2 (T2 Int Int) Int))) :
    SV X (dats 1 [enc a_system]) (defBody st_is_dually_whole) (fun _ : Unit => List.replicate 1 .un) (fun _ : Unit => List.replicate 1 .un) ⟨.dd, false⟩ (b_is_dually_whole a_system) := by
  unfold b_is_dually_whole
  refine sv_expr (ed_call C hC_check_system (by decide) (by decide +kernel) (ad_cons (ed_var (i := 0) C (by decide +kernel) rfl) ad_nil) go1) ?_
  exact sv_ret (ed_cmp (ec_eqI (ed_len C (by decide +kernel) hF.len_ (er_of_ed (ed_call C hC_broken_of (by decide) (by decide +kernel) (ad_cons (ed_var (i := 0) C (by decide +kernel) rfl) ad_nil) go1))) ed_num))
theorem ok_is_dually_whole {P : Program} {w : World} {K : PySem.W.Frag} {mg : Str → Option Value} {base : Heap} {f : Addr} {fd : FuncData} (F : Fun K "is_dually_whole" "is_dually_whole" st_is_dually_whole f fd) (hF : Facts mg) (hC_check_system : Cal P w K mg base CX0 6 "check_system" ["system"] (spD K .dd (g1 m_check_system))) (hC_broken_of : Cal P w K mg base CX0 6 "broken_of" ["system"] (spD K .dd (g1 m_broken_of))) : FnG P w K mg base CX0 7 f fd ["system"] (spD K .dd (g1 m_is_dually_whole)) :=
  ok_def F fs_is_dually_whole (fun ds r h => by obtain ⟨x0, y, e, _, _⟩ := h; rw [e]; rfl) 1 rfl (by decide) fun X h1 h2 h3 h4 h5 C ds r h => by subst h1 h2 h3 h4 h5; obtain ⟨x0, y, e1, e2, e3⟩ := h; subst e1 e3; exact body_of (bk_is_dually_whole C hF hC_check_system hC_broken_of x0) e2 (fun x h => nomatch h)
theorem bk_check_gains {X : Cx} (C : Ctx X N_check_gains (defScope st_check_gains) none 0) (hF : Facts X.mg)  (a_gains : (T2 Int Int)) :
    SV X (dats 3 [enc a_gains]) (defBody st_check_gains) (fun _ : Unit => List.replicate 3 .un) (fun _ : Unit => List.replicate 3 .un) ⟨.dd, false⟩ (b_check_gains a_gains) := by
  unfold b_check_gains
  refine sv_if (S' := Unit) (P' := fun s1 => [.dat (enc a_gains), .un, .un]) (eb_cmp (ec_neI (ed_lenT C (by decide +kernel) hF.len_ (ed_tp2 (ed_var (i := 0) C (by decide +kernel) rfl))) ed_num)) ?_ ?_ fun s1 => ?_
  · exact sv_raise
  · exact sv_nil (wk_ops [] rfl)
  refine sv_for (S1 := Unit) (P1 := fun s2 => [.dat (enc a_gains), .un, .un]) (s0 := ()) C (it_enumT C (by decide +kernel) hF.enumerate_ (ed_tp2 (ed_var (i := 0) C (by decide +kernel) rfl))) (pg_tup (Ctx.calm C) (pgs_cons (pgN (i := 1) C (by decide +kernel)) (pgs_cons (pgN (i := 2) C (by decide +kernel)) pgs_nil))) (tgt_t2 (tgt_name (i := 1)) (tgt_name (i := 2))) (fun s2 => rfl) (wk_ops [] rfl) (fun s2 y3 => ?_) (fun s2 => ?_)
  · refine sv_if (S' := Unit) (P' := fun s4 => [.dat (enc a_gains), .dat (enc y3.a), .dat (enc y3.b)]) (eb_not (eb_chLeLe rfl (ed_neg (ed_glb C (by decide +kernel) hF.c_MOST_GAIN_)) (ed_var (i := 2) C (by decide +kernel) rfl) (ed_glb C (by decide +kernel) hF.c_MOST_GAIN_))) ?_ ?_ fun s4 => ?_
    · exact sv_raise
    · exact sv_nil (wk_ops [] rfl)
    exact sv_nil (wk_ops [.un 1, .un 2] rfl)
  exact sv_nil (wkR_all rfl)
theorem ok_check_gains {P : Program} {w : World} {K : PySem.W.Frag} {mg : Str → Option Value} {base : Heap} {f : Addr} {fd : FuncData} (F : Fun K "check_gains" "check_gains" st_check_gains f fd) (hF : Facts mg)  : FnG P w K mg base CX0 1 f fd ["gains"] (spD K .dd (g1 m_check_gains)) :=
  ok_def F fs_check_gains (fun ds r h => by obtain ⟨x0, y, e, _, _⟩ := h; rw [e]; rfl) 3 rfl (by decide) fun X h1 h2 h3 h4 h5 C ds r h => by subst h1 h2 h3 h4 h5; obtain ⟨x0, y, e1, e2, e3⟩ := h; subst e1 e3; exact body_of (bk_check_gains C hF  x0) e2 (fun x h => by cases h; exact ⟨rfl, rfl⟩)
theorem bk_top_of {X : Cx} (C : Ctx X N_top_of (defScope st_top_of) none 5) (hF : Facts X.mg) (hC_corners_of : Cal X.prog X.w X.K X.mg X.base CX0 5 "corners_of" ["system"] (spD X.K .dd (g1 m_corners_of))) (hC_sum_at__2 : Cal X.prog X.w X.K X.mg X.base CX0 3 "sum_at" ["numbers", "spot"] (spD X.K .dd (g2 m_sum_at__2))) (hC_is_less : Cal X.prog X.w X.K X.mg X.base CX0 1 "is_less" ["one", "two"] (spD X.K .dd (g2 m_is_less))) (a_system : (List (T2 (T2 Int Int) Int))) (a_gains : (T2 Int Int)) :
    SV X (dats 5 [enc a_system, enc a_gains]) (defBody st_top_of) (fun _ : Unit => List.replicate 5 .un) (fun _ : Unit => List.replicate 5 .un) ⟨.dd, false⟩ (b_top_of a_system a_gains) := by
  unfold b_top_of
  refine sv_set (i := 2) C (by decide +kernel) ed_none fun v_best_1 => ?_
  refine sv_for (S1 := (Option (T2 (T2 Int Int) (T2 (T2 Int Int) (T2 Int Int))))) (P1 := fun s2 => [.dat (enc a_system), .dat (enc a_gains), .dat (enc s2), .un, .un]) (s0 := v_best_1) C (it_list (ed_call C hC_corners_of (by decide) (by decide +kernel) (ad_cons (ed_var (i := 0) C (by decide +kernel) rfl) ad_nil) go1)) (pgN (i := 3) C (by decide +kernel)) (tgt_name (i := 3)) (fun s2 => rfl) (wk_ops [] rfl) (fun s2 y3 => ?_) (fun s2 => ?_)
  · refine sv_set (i := 4) C (by decide +kernel) (ed_call C hC_sum_at__2 (by decide) (by decide +kernel) (ad_cons (ed_var (i := 1) C (by decide +kernel) rfl) (ad_cons (ed_var (i := 3) C (by decide +kernel) rfl) ad_nil)) go2) fun v_here_4 => ?_
    refine sv_if (S' := (Option (T2 (T2 Int Int) (T2 (T2 Int Int) (T2 Int Int))))) (P' := fun s5 => [.dat (enc a_system), .dat (enc a_gains), .dat (enc s5), .dat (enc y3), .dat (enc v_here_4)]) (eb_bool (ew_or (eb_cmp (ec_isN (ed_var (i := 2) C (by decide +kernel) rfl))) (ew_or1 (eb_of_ed (ed_call C hC_is_less (by decide) (by decide +kernel) (ad_cons (ed_20 (ed_get (ed_var (i := 2) C (by decide +kernel) rfl))) (ad_cons (ed_var (i := 4) C (by decide +kernel) rfl) ad_nil)) go2))))) ?_ ?_ fun s5 => ?_
    · refine sv_set (i := 2) C (by decide +kernel) (ed_some (ed_t2 (ed_var (i := 4) C (by decide +kernel) rfl) (ed_var (i := 3) C (by decide +kernel) rfl))) fun v_best_6 => ?_
      exact sv_nil (wk_ops [] rfl)
    · exact sv_nil (wk_ops [] rfl)
    exact sv_nil (wk_ops [.un 3, .un 4] rfl)
  exact sv_ret (ed_var (i := 2) C (by decide +kernel) rfl)
theorem ok_top_of {P : Program} {w : World} {K : PySem.W.Frag} {mg : Str → Option Value} {base : Heap} {f : Addr} {fd : FuncData} (F : Fun K "top_of" "top_of" st_top_of f fd) (hF : Facts mg) (hC_corners_of : Cal P w K mg base CX0 5 "corners_of" ["system"] (spD K .dd (g1 m_corners_of))) (hC_sum_at__2 : Cal P w K mg base CX0 3 "sum_at" ["numbers", "spot"] (spD K .dd (g2 m_sum_at__2))) (hC_is_less : Cal P w K mg base CX0 1 "is_less" ["one", "two"] (spD K .dd (g2 m_is_less))) : FnG P w K mg base CX0 6 f fd ["system", "gains"] (spD K .dd (g2 m_top_of)) :=
  ok_def F fs_top_of (fun ds r h => by obtain ⟨x0, x1, y, e, _, _⟩ := h; rw [e]; rfl) 5 rfl (by decide) fun X h1 h2 h3 h4 h5 C ds r h => by subst h1 h2 h3 h4 h5; obtain ⟨x0, x1, y, e1, e2, e3⟩ := h; subst e1 e3; exact body_of (bk_top_of C hF hC_corners_of hC_sum_at__2 hC_is_less x0 x1) e2 (fun x h => nomatch h)
theorem bk_value {X : Cx} (C : Ctx X N_value (defScope st_value) none 6) (hF : Facts X.mg) (hC_check_system : Cal X.prog X.w X.K X.mg X.base CX0 6 "check_system" ["system"] (spD X.K .dd (g1 m_check_system))) (hC_check_gains : Cal X.prog X.w X.K X.mg X.base CX0 1 "check_gains" ["gains"] (spD X.K .dd (g1 m_check_gains))) (hC_top_of : Cal X.prog X.w X.K X.mg X.base CX0 6 "top_of" ["system", "gains"] (spD X.K .dd (g2 m_top_of))) (a_system : (List (T2 (T2 Int Int) Int))) (a_gains : (T2 Int Int)) :
    SV X (dats 2 [enc a_system, enc a_gains]) (defBody st_value) (fun _ : Unit => List.replicate 2 .un) (fun _ : Unit => List.replicate 2 .un) ⟨.dd, false⟩ (b_value a_system a_gains) := by
  unfold b_value
  refine sv_expr (ed_call C hC_check_system (by decide) (by decide +kernel) (ad_cons (ed_var (i := 0) C (by decide +kernel) rfl) ad_nil) go1) ?_
  refine sv_expr (ed_call C hC_check_gains (by decide) (by decide +kernel) (ad_cons (ed_var (i := 1) C (by decide +kernel) rfl) ad_nil) go1) ?_
  exact sv_ret (ed_20 (ed_get (ed_call C hC_top_of (by decide) (by decide +kernel) (ad_cons (ed_var (i := 0) C (by decide +kernel) rfl) (ad_cons (ed_var (i := 1) C (by decide +kernel) rfl) ad_nil)) go2)))
theorem ok_value {P : Program} {w : World} {K : PySem.W.Frag} {mg : Str → Option Value} {base : Heap} {f : Addr} {fd : FuncData} (F : Fun K "value" "value" st_value f fd) (hF : Facts mg) (hC_check_system : Cal P w K mg base CX0 6 "check_system" ["system"] (spD K .dd (g1 m_check_system))) (hC_check_gains : Cal P w K mg base CX0 1 "check_gains" ["gains"] (spD K .dd (g1 m_check_gains))) (hC_top_of : Cal P w K mg base CX0 6 "top_of" ["system", "gains"] (spD K .dd (g2 m_top_of))) : FnG P w K mg base CX0 7 f fd ["system", "gains"] (spD K .dd (g2 m_value)) :=
  ok_def F fs_value (fun ds r h => by obtain ⟨x0, x1, y, e, _, _⟩ := h; rw [e]; rfl) 2 rfl (by decide) fun X h1 h2 h3 h4 h5 C ds r h => by subst h1 h2 h3 h4 h5; obtain ⟨x0, x1, y, e1, e2, e3⟩ := h; subst e1 e3; exact body_of (bk_value C hF hC_check_system hC_check_gains hC_top_of x0 x1) e2 (fun x h => nomatch h)
theorem bk_law {X : Cx} (C : Ctx X N_law (defScope st_law) none 7) (hF : Facts X.mg) (hC__law_draws : Cal X.prog X.w X.K X.mg X.base CX0 1 "_law_draws" ["script"] (spR X.K .dd m__law_draws)) (hC__law_good : Cal X.prog X.w X.K X.mg X.base CX0 4 "_law_good" ["draws", "k"] (spD X.K .dd (g2 m__law_good))) (hC__law_corners : Cal X.prog X.w X.K X.mg X.base CX0 3 "_law_corners" ["system"] (spD X.K .dd (g1 m__law_corners))) (hC__law_is_wide : Cal X.prog X.w X.K X.mg X.base CX0 2 "_law_is_wide" ["spots"] (spD X.K .dd (g1 m__law_is_wide))) (hC_full_rows : Cal X.prog X.w X.K X.mg X.base CX0 7 "full_rows" ["system"] (spD X.K .ow (g1 m_full_rows))) (hC_plain_pairs : Cal X.prog X.w X.K X.mg X.base CX0 7 "plain_pairs" ["system"] (spD X.K .dd (g1 m_plain_pairs))) (hC__law_at : Cal X.prog X.w X.K X.mg X.base CX0 2 "_law_at" ["numbers", "spot"] (spD X.K .dd (g2 m__law_at))) (hC_corners : Cal X.prog X.w X.K X.mg X.base CX0 7 "corners" ["system"] (spD X.K .dd (g1 m_corners))) (hC__law_value : Cal X.prog X.w X.K X.mg X.base CX0 3 "_law_value" ["spots", "gains"] (spD X.K .dd (g2 m__law_value))) (hC_value : Cal X.prog X.w X.K X.mg X.base CX0 7 "value" ["system", "gains"] (spD X.K .dd (g2 m_value))) (hC__law_lies : Cal X.prog X.w X.K X.mg X.base CX0 2 "_law_lies" ["own", "gains"] (spD X.K .dd (g2 m__law_lies))) (hC__law_mix : Cal X.prog X.w X.K X.mg X.base CX0 1 "_law_mix" ["draws", "k", "many"] (spD X.K .dd (g3 m__law_mix))) (hC_is_dually_whole : Cal X.prog X.w X.K X.mg X.base CX0 7 "is_dually_whole" ["system"] (spD X.K .dd (g1 m_is_dually_whole))) (a_script : (List Int)) :
    SV X (.rd (a_script.map enc) :: List.replicate 20 .un) (defBody st_law) (fun _ : Unit => List.replicate 21 .un) (fun _ : Unit => List.replicate 21 .un) ⟨.dd, false⟩ (b_law a_script) := by
  unfold b_law
  refine sv_set (i := 1) C (by decide +kernel) (ed_callR (i := 0) C hC__law_draws (by decide) (by decide +kernel) (by decide +kernel) rfl) fun v_draws_1 => ?_
  refine sv_setL (i := 2) C (by decide +kernel) (by decide +kernel) (lc_mk (own := [("row", 18)]) C (it_list (ed_call C hC__law_good (by decide) (by decide +kernel) (ad_cons (ed_var (i := 1) C (by decide +kernel) rfl) (ad_cons ed_num ad_nil)) go2)) (by decide +kernel) (fun s3 H3 Ca3 cl3 fp3 => (pgN (i := 18) (Ctx.blk C s3 H3 _ Ca3 cl3 fp3 rfl) (by decide +kernel))) (tgt_name (i := 18)) (by decide) rfl (fun s3 H3 Ca3 cl3 fp3 x3 => (ets_one (eb_cmp (ec_lt (ed_max2 (Ctx.blk C s3 H3 _ Ca3 cl3 fp3 rfl) (by decide +kernel) hF.max_ (ed_abs (Ctx.blk C s3 H3 _ Ca3 cl3 fp3 rfl) (by decide +kernel) hF.abs_ (ed_20 (ed_20 (ed_var (i := 18) (Ctx.blk C s3 H3 _ Ca3 cl3 fp3 rfl) (by decide +kernel) rfl)))) (ed_abs (Ctx.blk C s3 H3 _ Ca3 cl3 fp3 rfl) (by decide +kernel) hF.abs_ (ed_21 (ed_20 (ed_var (i := 18) (Ctx.blk C s3 H3 _ Ca3 cl3 fp3 rfl) (by decide +kernel) rfl))))) ed_num)))) (fun s3 H3 Ca3 cl3 fp3 x3 => (ed_var (i := 18) (Ctx.blk C s3 H3 _ Ca3 cl3 fp3 rfl) (by decide +kernel) rfl))) fun v_system_2 => ?_
  refine sv_set (i := 3) C (by decide +kernel) (ed_call C hC__law_corners (by decide) (by decide +kernel) (ad_cons (ed_var (i := 2) C (by decide +kernel) rfl) ad_nil) go1) fun v_spots_4 => ?_
  refine sv_if (S' := ((List (T2 (T2 Int Int) Int)) × (List (T2 (T2 Int Int) (T2 Int Int))))) (P' := fun s5 => [.rd (a_script.map enc), .dat (enc v_draws_1), .dat (enc s5.1), .dat (enc s5.2), .un, .un, .un, .un, .un, .un, .un, .un, .un, .un, .un, .un, .un, .un, .un, .un, .un]) (eb_bool (ew_or (eb_cmp (ec_lt (ed_len C (by decide +kernel) hF.len_ (er_of_ed (ed_var (i := 2) C (by decide +kernel) rfl))) ed_num)) (ew_or1 (eb_not (eb_of_ed (ed_call C hC__law_is_wide (by decide) (by decide +kernel) (ad_cons (ed_var (i := 3) C (by decide +kernel) rfl) ad_nil) go1)))))) ?_ ?_ fun s5 => ?_
  · refine sv_set (i := 2) C (by decide +kernel) (ed_of_eo (eo_list (al_cons (ed_t2 (ed_t2 ed_num ed_num) ed_num) (al_cons (ed_t2 (ed_t2 (ed_neg ed_num) ed_num) ed_num) (al_cons (ed_t2 (ed_t2 ed_num ed_num) ed_num) (al_cons (ed_t2 (ed_t2 ed_num (ed_neg ed_num)) ed_num) (al_cons (ed_t2 (ed_t2 ed_num ed_num) ed_num) (al_nil (α := (T2 (T2 Int Int) Int)))))))))) fun v_system_6 => ?_
    refine sv_set (i := 3) C (by decide +kernel) (ed_call C hC__law_corners (by decide) (by decide +kernel) (ad_cons (ed_var (i := 2) C (by decide +kernel) rfl) ad_nil) go1) fun v_spots_7 => ?_
    exact sv_nil (wk_ops [] rfl)
  · exact sv_nil (wk_ops [] rfl)
  refine sv_set (i := 4) C (by decide +kernel) (ed_repr C (by decide +kernel) hF.repr_ (ed_var (i := 2) C (by decide +kernel) rfl)) fun v_kept_8 => ?_
  refine sv_setO (i := 5) C (by decide +kernel) (Nat.le_of_ble_eq_true rfl) (eo_call C hC_full_rows (by decide) (by decide +kernel) (ad_cons (ed_var (i := 2) C (by decide +kernel) rfl) ad_nil) go1) fun v_told_9 => ?_
  refine sv_set (i := 6) C (by decide +kernel) (ed_of_eo (eo_list (al_nil (α := (T2 (T2 Int Int) (T2 Int Int)))))) fun v_due_10 => ?_
  refine sv_set (i := 7) C (by decide +kernel) (ed_call C hC_plain_pairs (by decide) (by decide +kernel) (ad_cons (ed_var (i := 2) C (by decide +kernel) rfl) ad_nil) go1) fun v_every_11 => ?_
  refine sv_for (S1 := (List (T2 (T2 Int Int) (T2 Int Int)))) (P1 := fun s12 => [.un, .dat (enc v_draws_1), .dat (enc s5.1), .dat (enc s5.2), .dat (enc v_kept_8), .own (v_told_9.map enc), .dat (enc s12), .dat (enc v_every_11), .un, .un, .un, .un, .un, .un, .un, .un, .un, .un, .un, .un, .un]) (s0 := v_due_10) C (it_rng1 C (by decide +kernel) hF.range_ (ed_len C (by decide +kernel) hF.len_ (er_of_ed (ed_var (i := 3) C (by decide +kernel) rfl)))) (pgN (i := 8) C (by decide +kernel)) (tgt_name (i := 8)) (fun s12 => rfl) (wk_ops [.un 0] rfl) (fun s12 y13 => ?_) (fun s12 => ?_)
  · refine sv_set (i := 6) C (by decide +kernel) (ed_of_eo (eo_cat (ed_var (i := 6) C (by decide +kernel) rfl) (ed_of_eo (eo_lc (lc_mk (own := [("one", 20)]) C (it_list (ed_ix (ed_var (i := 7) C (by decide +kernel) rfl) (ed_var (i := 8) C (by decide +kernel) rfl))) (by decide +kernel) (fun s15 H15 Ca15 cl15 fp15 => (pgN (i := 20) (Ctx.blk C s15 H15 _ Ca15 cl15 fp15 rfl) (by decide +kernel))) (tgt_name (i := 20)) (by decide) rfl (fun s15 H15 Ca15 cl15 fp15 x15 => (ets_one (eb_cmp (ec_notIn (Ctx.blk C s15 H15 _ Ca15 cl15 fp15 rfl) (ed_t2 (ed_var (i := 20) (Ctx.blk C s15 H15 _ Ca15 cl15 fp15 rfl) (by decide +kernel) rfl) (ed_call (Ctx.blk C s15 H15 _ Ca15 cl15 fp15 rfl) hC__law_at (by decide) (by decide +kernel) (ad_cons (ed_var (i := 20) (Ctx.blk C s15 H15 _ Ca15 cl15 fp15 rfl) (by decide +kernel) rfl) (ad_cons (ed_ix (ed_var (i := 3) (Ctx.blk C s15 H15 _ Ca15 cl15 fp15 rfl) (by decide +kernel) rfl) (ed_var (i := 8) (Ctx.blk C s15 H15 _ Ca15 cl15 fp15 rfl) (by decide +kernel) rfl)) ad_nil)) go2)) (er_of_ed (ed_var (i := 6) (Ctx.blk C s15 H15 _ Ca15 cl15 fp15 rfl) (by decide +kernel) rfl)))))) (fun s15 H15 Ca15 cl15 fp15 x15 => (ed_t2 (ed_var (i := 20) (Ctx.blk C s15 H15 _ Ca15 cl15 fp15 rfl) (by decide +kernel) rfl) (ed_call (Ctx.blk C s15 H15 _ Ca15 cl15 fp15 rfl) hC__law_at (by decide) (by decide +kernel) (ad_cons (ed_var (i := 20) (Ctx.blk C s15 H15 _ Ca15 cl15 fp15 rfl) (by decide +kernel) rfl) (ad_cons (ed_ix (ed_var (i := 3) (Ctx.blk C s15 H15 _ Ca15 cl15 fp15 rfl) (by decide +kernel) rfl) (ed_var (i := 8) (Ctx.blk C s15 H15 _ Ca15 cl15 fp15 rfl) (by decide +kernel) rfl)) ad_nil)) go2)))))))) fun v_due_14 => ?_
    exact sv_nil (wk_ops [.un 8] rfl)
  refine sv_if (S' := Unit) (P' := fun s16 => [.un, .dat (enc v_draws_1), .dat (enc s5.1), .dat (enc s5.2), .dat (enc v_kept_8), .own (v_told_9.map enc), .dat (enc s12), .dat (enc v_every_11), .un, .un, .un, .un, .un, .un, .un, .un, .un, .un, .un, .un, .un]) (eb_lend (eb_bool (ew_or (eb_cmp (ec_neS (ed_repr C (by decide +kernel) hF.repr_ (ed_var (i := 5) C (by decide +kernel) rfl)) (ed_repr C (by decide +kernel) hF.repr_ (ed_of_eo (eo_sortedD C (by decide +kernel) hF.sorted_ (er_of_ed (ed_var (i := 6) C (by decide +kernel) rfl))))))) (ew_or1 (eb_cmp (ec_neS (ed_repr C (by decide +kernel) hF.repr_ (ed_call C hC_corners (by decide) (by decide +kernel) (ad_cons (ed_var (i := 2) C (by decide +kernel) rfl) ad_nil) go1)) (ed_repr C (by decide +kernel) hF.repr_ (ed_var (i := 3) C (by decide +kernel) rfl)))))))) ?_ ?_ fun s16 => ?_
  · exact sv_ret ed_bl
  · exact sv_nil (wk_ops [] rfl)
  refine sv_refr (fun _ => rfl) (fun _ => rfl) (fun h => nomatch h) ?_
  refine sv_frzN (i := 5) rfl ?_
  refine sv_for (S1 := Unit) (P1 := fun s17 => [.un, .old (enc v_draws_1), .old (enc s5.1), .old (enc s5.2), .old (enc v_kept_8), .nw (enc v_told_9), .old (enc s12), .un, .un, .un, .un, .un, .un, .un, .un, .un, .un, .un, .un, .un, .un]) (s0 := ()) C (it_list (ed_varN (i := 5) C (by decide +kernel) rfl)) (pg_tup (Ctx.calm C) (pgs_cons (pgN (i := 13) C (by decide +kernel)) (pgs_cons (pgN (i := 14) C (by decide +kernel)) pgs_nil))) (tgt_t2 (tgt_name (i := 13)) (tgt_name (i := 14))) (fun s17 => rfl) (wk_ops [.un 7] rfl) (fun s17 y18 => ?_) (fun s17 => ?_)
  · refine sv_if (S' := Unit) (P' := fun s19 => [.un, .old (enc v_draws_1), .old (enc s5.1), .old (enc s5.2), .old (enc v_kept_8), .nw (enc v_told_9), .old (enc s12), .un, .un, .un, .un, .un, .un, .dat (enc y18.a), .dat (enc y18.b), .un, .un, .un, .un, .un, .un]) (eb_bool (ew_or (eb_cmp (ec_neD C (ed_call C hC__law_value (by decide) (by decide +kernel) (ad_cons (ed_varO (i := 3) C (by decide +kernel) rfl) (ad_cons (ed_var (i := 13) C (by decide +kernel) rfl) ad_nil)) go2) (ed_var (i := 14) C (by decide +kernel) rfl))) (ew_or1 (eb_bool (ew_and (eb_cmp (ec_lt (ed_max2 C (by decide +kernel) hF.max_ (ed_abs C (by decide +kernel) hF.abs_ (ed_20 (ed_var (i := 13) C (by decide +kernel) rfl))) (ed_abs C (by decide +kernel) hF.abs_ (ed_21 (ed_var (i := 13) C (by decide +kernel) rfl)))) ed_num)) (ew_and1 (eb_cmp (ec_neD C (ed_call C hC_value (by decide) (by decide +kernel) (ad_cons (ed_varO (i := 2) C (by decide +kernel) rfl) (ad_cons (ed_var (i := 13) C (by decide +kernel) rfl) ad_nil)) go2) (ed_var (i := 14) C (by decide +kernel) rfl))))))))) ?_ ?_ fun s19 => ?_
    · exact sv_ret ed_bl
    · exact sv_nil (wk_ops [] rfl)
    exact sv_nil (wk_ops [.un 13, .un 14] rfl)
  refine sv_for (S1 := Unit) (P1 := fun s20 => [.un, .old (enc v_draws_1), .old (enc s5.1), .old (enc s5.2), .old (enc v_kept_8), .nw (enc v_told_9), .old (enc s12), .un, .un, .un, .un, .un, .un, .un, .un, .un, .un, .un, .un, .un, .un]) (s0 := ()) C (it_list (ed_varO (i := 2) C (by decide +kernel) rfl)) (pg_tup (Ctx.calm C) (pgs_cons (pgN (i := 13) C (by decide +kernel)) (pgs_cons (pgN (i := 14) C (by decide +kernel)) pgs_nil))) (tgt_t2 (tgt_name (i := 13)) (tgt_name (i := 14))) (fun s20 => rfl) (wk_ops [] rfl) (fun s20 y21 => ?_) (fun s20 => ?_)
  · refine sv_if (S' := Unit) (P' := fun s24 => [.un, .old (enc v_draws_1), .old (enc s5.1), .old (enc s5.2), .old (enc v_kept_8), .nw (enc v_told_9), .old (enc s12), .un, .un, .un, .un, .un, .un, .dat (enc y21.a), .dat (enc y21.b), .un, .un, .un, .un, .un, .un]) (eb_bool (ew_and (eb_cmp (ec_neD C (ed_of_eo (eo_lc (lc_mk (own := [("spot", 19)]) C (it_list (ed_varO (i := 3) C (by decide +kernel) rfl)) (by decide +kernel) (fun s22 H22 Ca22 cl22 fp22 => (pgN (i := 19) (Ctx.blk C s22 H22 _ Ca22 cl22 fp22 rfl) (by decide +kernel))) (tgt_name (i := 19)) (by decide) rfl (fun s22 H22 Ca22 cl22 fp22 x22 => (ets_one (eb_cmp (ec_eqD (Ctx.blk C s22 H22 _ Ca22 cl22 fp22 rfl) (ed_call (Ctx.blk C s22 H22 _ Ca22 cl22 fp22 rfl) hC__law_at (by decide) (by decide +kernel) (ad_cons (ed_var (i := 13) (Ctx.blk C s22 H22 _ Ca22 cl22 fp22 rfl) (by decide +kernel) rfl) (ad_cons (ed_var (i := 19) (Ctx.blk C s22 H22 _ Ca22 cl22 fp22 rfl) (by decide +kernel) rfl) ad_nil)) go2) (ed_t2 (ed_var (i := 14) (Ctx.blk C s22 H22 _ Ca22 cl22 fp22 rfl) (by decide +kernel) rfl) ed_num))))) (fun s22 H22 Ca22 cl22 fp22 x22 => (ed_var (i := 19) (Ctx.blk C s22 H22 _ Ca22 cl22 fp22 rfl) (by decide +kernel) rfl))))) (ed_of_eo (eo_list (al_nil (α := (T2 (T2 Int Int) (T2 Int Int)))))))) (ew_and1 (eb_not (eb_of_ed (ed_call C hC__law_lies (by decide) (by decide +kernel) (ad_cons (ed_of_eo (eo_lc (lc_mk (own := [("row", 18)]) C (it_list (ed_varN (i := 5) C (by decide +kernel) rfl)) (by decide +kernel) (fun s23 H23 Ca23 cl23 fp23 => (pgN (i := 18) (Ctx.blk C s23 H23 _ Ca23 cl23 fp23 rfl) (by decide +kernel))) (tgt_name (i := 18)) (by decide) rfl (fun s23 H23 Ca23 cl23 fp23 x23 => ets_nil) (fun s23 H23 Ca23 cl23 fp23 x23 => (ed_20 (ed_var (i := 18) (Ctx.blk C s23 H23 _ Ca23 cl23 fp23 rfl) (by decide +kernel) rfl)))))) (ad_cons (ed_var (i := 13) C (by decide +kernel) rfl) ad_nil)) go2)))))) ?_ ?_ fun s24 => ?_
    · exact sv_ret ed_bl
    · exact sv_nil (wk_ops [] rfl)
    exact sv_nil (wk_ops [.un 13, .un 14] rfl)
  refine sv_for (S1 := Unit) (P1 := fun s25 => [.un, .old (enc v_draws_1), .old (enc s5.1), .old (enc s5.2), .old (enc v_kept_8), .nw (enc v_told_9), .old (enc s12), .un, .un, .un, .un, .un, .un, .un, .un, .un, .un, .un, .un, .un, .un]) (s0 := ()) C (it_rng1 C (by decide +kernel) hF.range_ ed_num) (pgN (i := 9) C (by decide +kernel)) (tgt_name (i := 9)) (fun s25 => rfl) (wk_ops [] rfl) (fun s25 y26 => ?_) (fun s25 => ?_)
  · refine sv_set (i := 15) C (by decide +kernel) (ed_t2 (ed_sub (ed_call C hC__law_mix (by decide) (by decide +kernel) (ad_cons (ed_varO (i := 1) C (by decide +kernel) rfl) (ad_cons (ed_add ed_num (ed_mul ed_num (ed_var (i := 9) C (by decide +kernel) rfl))) (ad_cons ed_num ad_nil))) go3) ed_num) (ed_sub (ed_call C hC__law_mix (by decide) (by decide +kernel) (ad_cons (ed_varO (i := 1) C (by decide +kernel) rfl) (ad_cons (ed_add ed_num (ed_mul ed_num (ed_var (i := 9) C (by decide +kernel) rfl))) (ad_cons ed_num ad_nil))) go3) ed_num)) fun v_gains_27 => ?_
    refine sv_set (i := 16) C (by decide +kernel) (ed_ix (ed_of_eo (eo_lc (lc_mk (own := [("spot", 19)]) C (it_list (ed_varO (i := 3) C (by decide +kernel) rfl)) (by decide +kernel) (fun s29 H29 Ca29 cl29 fp29 => (pgN (i := 19) (Ctx.blk C s29 H29 _ Ca29 cl29 fp29 rfl) (by decide +kernel))) (tgt_name (i := 19)) (by decide) rfl (fun s29 H29 Ca29 cl29 fp29 x29 => (ets_one (eb_cmp (ec_eqD (Ctx.blk C s29 H29 _ Ca29 cl29 fp29 rfl) (ed_call (Ctx.blk C s29 H29 _ Ca29 cl29 fp29 rfl) hC__law_at (by decide) (by decide +kernel) (ad_cons (ed_var (i := 15) (Ctx.blk C s29 H29 _ Ca29 cl29 fp29 rfl) (by decide +kernel) rfl) (ad_cons (ed_var (i := 19) (Ctx.blk C s29 H29 _ Ca29 cl29 fp29 rfl) (by decide +kernel) rfl) ad_nil)) go2) (ed_call (Ctx.blk C s29 H29 _ Ca29 cl29 fp29 rfl) hC__law_value (by decide) (by decide +kernel) (ad_cons (ed_varO (i := 3) (Ctx.blk C s29 H29 _ Ca29 cl29 fp29 rfl) (by decide +kernel) rfl) (ad_cons (ed_var (i := 15) (Ctx.blk C s29 H29 _ Ca29 cl29 fp29 rfl) (by decide +kernel) rfl) ad_nil)) go2))))) (fun s29 H29 Ca29 cl29 fp29 x29 => (ed_var (i := 19) (Ctx.blk C s29 H29 _ Ca29 cl29 fp29 rfl) (by decide +kernel) rfl))))) ed_num) fun v_best_28 => ?_
    refine sv_setL (i := 17) C (by decide +kernel) (by decide +kernel) (lc_mk (own := [("row", 18)]) C (it_list (ed_varN (i := 5) C (by decide +kernel) rfl)) (by decide +kernel) (fun s31 H31 Ca31 cl31 fp31 => (pgN (i := 18) (Ctx.blk C s31 H31 _ Ca31 cl31 fp31 rfl) (by decide +kernel))) (tgt_name (i := 18)) (by decide) rfl (fun s31 H31 Ca31 cl31 fp31 x31 => (ets_one (eb_cmp (ec_eqD (Ctx.blk C s31 H31 _ Ca31 cl31 fp31 rfl) (ed_call (Ctx.blk C s31 H31 _ Ca31 cl31 fp31 rfl) hC__law_at (by decide) (by decide +kernel) (ad_cons (ed_20 (ed_var (i := 18) (Ctx.blk C s31 H31 _ Ca31 cl31 fp31 rfl) (by decide +kernel) rfl)) (ad_cons (ed_var (i := 16) (Ctx.blk C s31 H31 _ Ca31 cl31 fp31 rfl) (by decide +kernel) rfl) ad_nil)) go2) (ed_21 (ed_var (i := 18) (Ctx.blk C s31 H31 _ Ca31 cl31 fp31 rfl) (by decide +kernel) rfl)))))) (fun s31 H31 Ca31 cl31 fp31 x31 => (ed_20 (ed_var (i := 18) (Ctx.blk C s31 H31 _ Ca31 cl31 fp31 rfl) (by decide +kernel) rfl)))) fun v_own_30 => ?_
    refine sv_if (S' := Unit) (P' := fun s32 => [.un, .old (enc v_draws_1), .old (enc s5.1), .old (enc s5.2), .old (enc v_kept_8), .nw (enc v_told_9), .old (enc s12), .un, .un, .dat (enc y26), .un, .un, .un, .un, .un, .dat (enc v_gains_27), .dat (enc v_best_28), .dat (enc v_own_30), .un, .un, .un]) (eb_not (eb_of_ed (ed_call C hC__law_lies (by decide) (by decide +kernel) (ad_cons (ed_var (i := 17) C (by decide +kernel) rfl) (ad_cons (ed_var (i := 15) C (by decide +kernel) rfl) ad_nil)) go2))) ?_ ?_ fun s32 => ?_
    · exact sv_ret ed_bl
    · exact sv_nil (wk_ops [] rfl)
    exact sv_nil (wk_ops [.un 9, .un 15, .un 16, .un 17] rfl)
  refine sv_set (i := 10) C (by decide +kernel) (ed_cmp (ec_eqD C (ed_of_eo (eo_lc (lc_mk (own := [("spot", 19)]) C (it_list (ed_varO (i := 3) C (by decide +kernel) rfl)) (by decide +kernel) (fun s34 H34 Ca34 cl34 fp34 => (pgN (i := 19) (Ctx.blk C s34 H34 _ Ca34 cl34 fp34 rfl) (by decide +kernel))) (tgt_name (i := 19)) (by decide) rfl (fun s34 H34 Ca34 cl34 fp34 x34 => (ets_one (eb_bool (ew_or (eb_cmp (ec_gt (ed_21 (ed_20 (ed_var (i := 19) (Ctx.blk C s34 H34 _ Ca34 cl34 fp34 rfl) (by decide +kernel) rfl))) ed_num)) (ew_or1 (eb_cmp (ec_gt (ed_21 (ed_21 (ed_var (i := 19) (Ctx.blk C s34 H34 _ Ca34 cl34 fp34 rfl) (by decide +kernel) rfl))) ed_num))))))) (fun s34 H34 Ca34 cl34 fp34 x34 => (ed_var (i := 19) (Ctx.blk C s34 H34 _ Ca34 cl34 fp34 rfl) (by decide +kernel) rfl))))) (ed_of_eo (eo_list (al_nil (α := (T2 (T2 Int Int) (T2 Int Int)))))))) fun v_whole_33 => ?_
  refine sv_if (S' := Unit) (P' := fun s36 => [.un, .old (enc v_draws_1), .old (enc s5.1), .old (enc s5.2), .old (enc v_kept_8), .nw (enc v_told_9), .old (enc s12), .un, .un, .un, .dat (enc v_whole_33), .un, .un, .un, .un, .un, .un, .un, .un, .un, .un]) (eb_cmp (ec_neB (ed_cmp (ec_eqD C (ed_of_eo (eo_lc (lc_mk (own := [("limit", 14), ("numbers", 13)]) C (it_list (ed_varN (i := 5) C (by decide +kernel) rfl)) (by decide +kernel) (fun s35 H35 Ca35 cl35 fp35 => (pg_tup (Ctx.calm (Ctx.blk C s35 H35 _ Ca35 cl35 fp35 rfl)) (pgs_cons (pgN (i := 13) (Ctx.blk C s35 H35 _ Ca35 cl35 fp35 rfl) (by decide +kernel)) (pgs_cons (pgN (i := 14) (Ctx.blk C s35 H35 _ Ca35 cl35 fp35 rfl) (by decide +kernel)) pgs_nil)))) (tgt_t2 (tgt_name (i := 13)) (tgt_name (i := 14))) (by decide) rfl (fun s35 H35 Ca35 cl35 fp35 x35 => (ets_one (eb_cmp (ec_gt (ed_21 (ed_var (i := 14) (Ctx.blk C s35 H35 _ Ca35 cl35 fp35 rfl) (by decide +kernel) rfl)) ed_num)))) (fun s35 H35 Ca35 cl35 fp35 x35 => (ed_var (i := 14) (Ctx.blk C s35 H35 _ Ca35 cl35 fp35 rfl) (by decide +kernel) rfl))))) (ed_of_eo (eo_list (al_nil (α := (T2 Int Int))))))) (ed_var (i := 10) C (by decide +kernel) rfl))) ?_ ?_ fun s36 => ?_
  · exact sv_ret ed_bl
  · exact sv_nil (wk_ops [] rfl)
  refine sv_setL (i := 11) C (by decide +kernel) (by decide +kernel) (lc_mk (own := [("limit", 14), ("numbers", 13)]) C (it_list (ed_varN (i := 5) C (by decide +kernel) rfl)) (by decide +kernel) (fun s38 H38 Ca38 cl38 fp38 => (pg_tup (Ctx.calm (Ctx.blk C s38 H38 _ Ca38 cl38 fp38 rfl)) (pgs_cons (pgN (i := 13) (Ctx.blk C s38 H38 _ Ca38 cl38 fp38 rfl) (by decide +kernel)) (pgs_cons (pgN (i := 14) (Ctx.blk C s38 H38 _ Ca38 cl38 fp38 rfl) (by decide +kernel)) pgs_nil)))) (tgt_t2 (tgt_name (i := 13)) (tgt_name (i := 14))) (by decide) rfl (fun s38 H38 Ca38 cl38 fp38 x38 => ets_nil) (fun s38 H38 Ca38 cl38 fp38 x38 => (ed_t2 (ed_var (i := 13) (Ctx.blk C s38 H38 _ Ca38 cl38 fp38 rfl) (by decide +kernel) rfl) (ed_20 (ed_var (i := 14) (Ctx.blk C s38 H38 _ Ca38 cl38 fp38 rfl) (by decide +kernel) rfl))))) fun v_small_37 => ?_
  refine sv_set (i := 12) C (by decide +kernel) (ed_cmp (ec_eqD C (ed_of_eo (eo_lc (lc_mk (own := [("row", 18)]) C (it_list (ed_var (i := 11) C (by decide +kernel) rfl)) (by decide +kernel) (fun s40 H40 Ca40 cl40 fp40 => (pgN (i := 18) (Ctx.blk C s40 H40 _ Ca40 cl40 fp40 rfl) (by decide +kernel))) (tgt_name (i := 18)) (by decide) rfl (fun s40 H40 Ca40 cl40 fp40 x40 => (ets_one (eb_bool (ew_or (eb_cmp (ec_gt (ed_max2 (Ctx.blk C s40 H40 _ Ca40 cl40 fp40 rfl) (by decide +kernel) hF.max_ (ed_abs (Ctx.blk C s40 H40 _ Ca40 cl40 fp40 rfl) (by decide +kernel) hF.abs_ (ed_20 (ed_20 (ed_var (i := 18) (Ctx.blk C s40 H40 _ Ca40 cl40 fp40 rfl) (by decide +kernel) rfl)))) (ed_abs (Ctx.blk C s40 H40 _ Ca40 cl40 fp40 rfl) (by decide +kernel) hF.abs_ (ed_21 (ed_20 (ed_var (i := 18) (Ctx.blk C s40 H40 _ Ca40 cl40 fp40 rfl) (by decide +kernel) rfl))))) ed_num)) (ew_or1 (eb_cmp (ec_gt (ed_abs (Ctx.blk C s40 H40 _ Ca40 cl40 fp40 rfl) (by decide +kernel) hF.abs_ (ed_21 (ed_var (i := 18) (Ctx.blk C s40 H40 _ Ca40 cl40 fp40 rfl) (by decide +kernel) rfl))) ed_num))))))) (fun s40 H40 Ca40 cl40 fp40 x40 => (ed_var (i := 18) (Ctx.blk C s40 H40 _ Ca40 cl40 fp40 rfl) (by decide +kernel) rfl))))) (ed_of_eo (eo_list (al_nil (α := (T2 (T2 Int Int) Int))))))) fun v_fits_39 => ?_
  refine sv_if (S' := Unit) (P' := fun s41 => [.un, .old (enc v_draws_1), .old (enc s5.1), .old (enc s5.2), .old (enc v_kept_8), .nw (enc v_told_9), .old (enc s12), .un, .un, .un, .dat (enc v_whole_33), .dat (enc v_small_37), .dat (enc v_fits_39), .un, .un, .un, .un, .un, .un, .un, .un]) (eb_bool (ew_and (eb_of_ed (ed_var (i := 10) C (by decide +kernel) rfl)) (ew_and (eb_of_ed (ed_var (i := 12) C (by decide +kernel) rfl)) (ew_and1 (eb_chLeLe rfl ed_num (ed_len C (by decide +kernel) hF.len_ (er_of_ed (ed_var (i := 11) C (by decide +kernel) rfl))) ed_num))))) ?_ ?_ fun s41 => ?_
  · refine sv_if (S' := Unit) (P' := fun s42 => [.un, .old (enc v_draws_1), .old (enc s5.1), .old (enc s5.2), .old (enc v_kept_8), .nw (enc v_told_9), .old (enc s12), .un, .un, .un, .dat (enc v_whole_33), .dat (enc v_small_37), .dat (enc v_fits_39), .un, .un, .un, .un, .un, .un, .un, .un]) (eb_bool (ew_or (eb_cmp (ec_notB (ed_call C hC_is_dually_whole (by decide) (by decide +kernel) (ad_cons (ed_var (i := 11) C (by decide +kernel) rfl) ad_nil) go1) ed_bl)) (ew_or1 (eb_cmp (ec_neS (ed_repr C (by decide +kernel) hF.repr_ (ed_of_eo (eo_call C hC_full_rows (by decide) (by decide +kernel) (ad_cons (ed_var (i := 11) C (by decide +kernel) rfl) ad_nil) go1))) (ed_repr C (by decide +kernel) hF.repr_ (ed_varN (i := 5) C (by decide +kernel) rfl))))))) ?_ ?_ fun s42 => ?_
    · exact sv_ret ed_bl
    · exact sv_nil (wk_ops [] rfl)
    exact sv_nil (wk_ops [] rfl)
  · exact sv_nil (wk_ops [] rfl)
  refine sv_spoil (i := 5) rfl (en_var (i := 5) C (by decide +kernel) rfl) (ed_tup (al_nil (α := Int))) ?_
  refine svk_done ?_
  exact sv_ret (ed_and (ed_cmp (ec_eqS (ed_repr C (by decide +kernel) hF.repr_ (ed_of_eo (eo_call C hC_full_rows (by decide) (by decide +kernel) (ad_cons (ed_varO (i := 2) C (by decide +kernel) rfl) ad_nil) go1))) (ed_repr C (by decide +kernel) hF.repr_ (ed_of_eo (eo_sortedD C (by decide +kernel) hF.sorted_ (er_of_ed (ed_varO (i := 6) C (by decide +kernel) rfl))))))) (ed_one (ed_cmp (ec_eqS (ed_repr C (by decide +kernel) hF.repr_ (ed_varO (i := 2) C (by decide +kernel) rfl)) (ed_varO (i := 4) C (by decide +kernel) rfl)))))
theorem ok_law {P : Program} {w : World} {K : PySem.W.Frag} {mg : Str → Option Value} {base : Heap} {f : Addr} {fd : FuncData} (F : Fun K "law" "law" st_law f fd) (hF : Facts mg) (hC__law_draws : Cal P w K mg base CX0 1 "_law_draws" ["script"] (spR K .dd m__law_draws)) (hC__law_good : Cal P w K mg base CX0 4 "_law_good" ["draws", "k"] (spD K .dd (g2 m__law_good))) (hC__law_corners : Cal P w K mg base CX0 3 "_law_corners" ["system"] (spD K .dd (g1 m__law_corners))) (hC__law_is_wide : Cal P w K mg base CX0 2 "_law_is_wide" ["spots"] (spD K .dd (g1 m__law_is_wide))) (hC_full_rows : Cal P w K mg base CX0 7 "full_rows" ["system"] (spD K .ow (g1 m_full_rows))) (hC_plain_pairs : Cal P w K mg base CX0 7 "plain_pairs" ["system"] (spD K .dd (g1 m_plain_pairs))) (hC__law_at : Cal P w K mg base CX0 2 "_law_at" ["numbers", "spot"] (spD K .dd (g2 m__law_at))) (hC_corners : Cal P w K mg base CX0 7 "corners" ["system"] (spD K .dd (g1 m_corners))) (hC__law_value : Cal P w K mg base CX0 3 "_law_value" ["spots", "gains"] (spD K .dd (g2 m__law_value))) (hC_value : Cal P w K mg base CX0 7 "value" ["system", "gains"] (spD K .dd (g2 m_value))) (hC__law_lies : Cal P w K mg base CX0 2 "_law_lies" ["own", "gains"] (spD K .dd (g2 m__law_lies))) (hC__law_mix : Cal P w K mg base CX0 1 "_law_mix" ["draws", "k", "many"] (spD K .dd (g3 m__law_mix))) (hC_is_dually_whole : Cal P w K mg base CX0 7 "is_dually_whole" ["system"] (spD K .dd (g1 m_is_dually_whole))) : FnG P w K mg base CX0 8 f fd ["script"] (spR K .dd m_law) :=
  ok_rd F fs_law 21 rfl (by decide) fun X h1 h2 h3 h4 h5 C l r hr => by subst h1 h2 h3 h4 h5; exact body_of (bk_law C hF hC__law_draws hC__law_good hC__law_corners hC__law_is_wide hC_full_rows hC_plain_pairs hC__law_at hC_corners hC__law_value hC_value hC__law_lies hC__law_mix hC_is_dually_whole l) hr (fun x h => nomatch h)
end Lay.K36

set_option Elab.async false
set_option linter.all false
set_option maxRecDepth 100000
namespace Lay.K36
open PySem PySem.Spec PyProof.Rows L2 Lay
open Lay.Enc (enc)
set_option maxHeartbeats 0
theorem all_mk {l : PySem.W.OpenLaw} {w : World} {K : PySem.W.Frag} {h : Heap} {mg : Str → Option Value} {fa : Addr} (X : K.In h) (G : h.Ns mainGlobals mg) (hfa : mg "law" = some (.ref fa))
    {f0 : Addr} {od0 an0 : Option Addr} {sl0 : Array (Option Value)} {oc0 kV0 dc0 pm0 cd0 ct0 : Value}
    (a0 : PySem.W.nsIn K mainGlobals "_law_draws" = some (some (.ref f0))) (l0 : K.lookup f0 = some ⟨oc0, od0, .func (PySem.W.fnOf "_law_draws" "_law_draws" (defArgs st__law_draws) (defBody st__law_draws) (defScope st__law_draws) .none kV0 dc0 pm0 an0 cd0 ct0), sl0⟩) (c0 : PySem.W.codeIn K cd0 "_law_draws" = true) (k0 : PySem.W.keepIn K (.ref f0) = true)
    {f1 : Addr} {od1 an1 : Option Addr} {sl1 : Array (Option Value)} {oc1 kV1 dc1 pm1 cd1 ct1 : Value}
    (a1 : PySem.W.nsIn K mainGlobals "_law_low" = some (some (.ref f1))) (l1 : K.lookup f1 = some ⟨oc1, od1, .func (PySem.W.fnOf "_law_low" "_law_low" (defArgs st__law_low) (defBody st__law_low) (defScope st__law_low) .none kV1 dc1 pm1 an1 cd1 ct1), sl1⟩) (c1 : PySem.W.codeIn K cd1 "_law_low" = true) (k1 : PySem.W.keepIn K (.ref f1) = true)
    {f2 : Addr} {od2 an2 : Option Addr} {sl2 : Array (Option Value)} {oc2 kV2 dc2 pm2 cd2 ct2 : Value}
    (a2 : PySem.W.nsIn K mainGlobals "_law_less" = some (some (.ref f2))) (l2 : K.lookup f2 = some ⟨oc2, od2, .func (PySem.W.fnOf "_law_less" "_law_less" (defArgs st__law_less) (defBody st__law_less) (defScope st__law_less) .none kV2 dc2 pm2 an2 cd2 ct2), sl2⟩) (c2 : PySem.W.codeIn K cd2 "_law_less" = true) (k2 : PySem.W.keepIn K (.ref f2) = true)
    {f3 : Addr} {od3 an3 : Option Addr} {sl3 : Array (Option Value)} {oc3 kV3 dc3 pm3 cd3 ct3 : Value}
    (a3 : PySem.W.nsIn K mainGlobals "_law_at" = some (some (.ref f3))) (l3 : K.lookup f3 = some ⟨oc3, od3, .func (PySem.W.fnOf "_law_at" "_law_at" (defArgs st__law_at) (defBody st__law_at) (defScope st__law_at) .none kV3 dc3 pm3 an3 cd3 ct3), sl3⟩) (c3 : PySem.W.codeIn K cd3 "_law_at" = true) (k3 : PySem.W.keepIn K (.ref f3) = true)
    {f4 : Addr} {od4 an4 : Option Addr} {sl4 : Array (Option Value)} {oc4 kV4 dc4 pm4 cd4 ct4 : Value}
    (a4 : PySem.W.nsIn K mainGlobals "_law_corners" = some (some (.ref f4))) (l4 : K.lookup f4 = some ⟨oc4, od4, .func (PySem.W.fnOf "_law_corners" "_law_corners" (defArgs st__law_corners) (defBody st__law_corners) (defScope st__law_corners) .none kV4 dc4 pm4 an4 cd4 ct4), sl4⟩) (c4 : PySem.W.codeIn K cd4 "_law_corners" = true) (k4 : PySem.W.keepIn K (.ref f4) = true)
    {f5 : Addr} {od5 an5 : Option Addr} {sl5 : Array (Option Value)} {oc5 kV5 dc5 pm5 cd5 ct5 : Value}
    (a5 : PySem.W.nsIn K mainGlobals "is_endless" = some (some (.ref f5))) (l5 : K.lookup f5 = some ⟨oc5, od5, .func (PySem.W.fnOf "is_endless" "is_endless" (defArgs st_is_endless) (defBody st_is_endless) (defScope st_is_endless) .none kV5 dc5 pm5 an5 cd5 ct5), sl5⟩) (c5 : PySem.W.codeIn K cd5 "is_endless" = true) (k5 : PySem.W.keepIn K (.ref f5) = true)
    {f6 : Addr} {od6 an6 : Option Addr} {sl6 : Array (Option Value)} {oc6 kV6 dc6 pm6 cd6 ct6 : Value}
    (a6 : PySem.W.nsIn K mainGlobals "fraction" = some (some (.ref f6))) (l6 : K.lookup f6 = some ⟨oc6, od6, .func (PySem.W.fnOf "fraction" "fraction" (defArgs st_fraction) (defBody st_fraction) (defScope st_fraction) .none kV6 dc6 pm6 an6 cd6 ct6), sl6⟩) (c6 : PySem.W.codeIn K cd6 "fraction" = true) (k6 : PySem.W.keepIn K (.ref f6) = true)
    {f7 : Addr} {od7 an7 : Option Addr} {sl7 : Array (Option Value)} {oc7 kV7 dc7 pm7 cd7 ct7 : Value}
    (a7 : PySem.W.nsIn K mainGlobals "minus" = some (some (.ref f7))) (l7 : K.lookup f7 = some ⟨oc7, od7, .func (PySem.W.fnOf "minus" "minus" (defArgs st_minus) (defBody st_minus) (defScope st_minus) .none kV7 dc7 pm7 an7 cd7 ct7), sl7⟩) (c7 : PySem.W.codeIn K cd7 "minus" = true) (k7 : PySem.W.keepIn K (.ref f7) = true)
    {f8 : Addr} {od8 an8 : Option Addr} {sl8 : Array (Option Value)} {oc8 kV8 dc8 pm8 cd8 ct8 : Value}
    (a8 : PySem.W.nsIn K mainGlobals "times" = some (some (.ref f8))) (l8 : K.lookup f8 = some ⟨oc8, od8, .func (PySem.W.fnOf "times" "times" (defArgs st_times) (defBody st_times) (defScope st_times) .none kV8 dc8 pm8 an8 cd8 ct8), sl8⟩) (c8 : PySem.W.codeIn K cd8 "times" = true) (k8 : PySem.W.keepIn K (.ref f8) = true)
    {f9 : Addr} {od9 an9 : Option Addr} {sl9 : Array (Option Value)} {oc9 kV9 dc9 pm9 cd9 ct9 : Value}
    (a9 : PySem.W.nsIn K mainGlobals "is_wide" = some (some (.ref f9))) (l9 : K.lookup f9 = some ⟨oc9, od9, .func (PySem.W.fnOf "is_wide" "is_wide" (defArgs st_is_wide) (defBody st_is_wide) (defScope st_is_wide) .none kV9 dc9 pm9 an9 cd9 ct9), sl9⟩) (c9 : PySem.W.codeIn K cd9 "is_wide" = true) (k9 : PySem.W.keepIn K (.ref f9) = true)
    {f10 : Addr} {od10 an10 : Option Addr} {sl10 : Array (Option Value)} {oc10 kV10 dc10 pm10 cd10 ct10 : Value}
    (a10 : PySem.W.nsIn K mainGlobals "crossing" = some (some (.ref f10))) (l10 : K.lookup f10 = some ⟨oc10, od10, .func (PySem.W.fnOf "crossing" "crossing" (defArgs st_crossing) (defBody st_crossing) (defScope st_crossing) .none kV10 dc10 pm10 an10 cd10 ct10), sl10⟩) (c10 : PySem.W.codeIn K cd10 "crossing" = true) (k10 : PySem.W.keepIn K (.ref f10) = true)
    {f11 : Addr} {od11 an11 : Option Addr} {sl11 : Array (Option Value)} {oc11 kV11 dc11 pm11 cd11 ct11 : Value}
    (a11 : PySem.W.nsIn K mainGlobals "is_less" = some (some (.ref f11))) (l11 : K.lookup f11 = some ⟨oc11, od11, .func (PySem.W.fnOf "is_less" "is_less" (defArgs st_is_less) (defBody st_is_less) (defScope st_is_less) .none kV11 dc11 pm11 an11 cd11 ct11), sl11⟩) (c11 : PySem.W.codeIn K cd11 "is_less" = true) (k11 : PySem.W.keepIn K (.ref f11) = true)
    {f12 : Addr} {od12 an12 : Option Addr} {sl12 : Array (Option Value)} {oc12 kV12 dc12 pm12 cd12 ct12 : Value}
    (a12 : PySem.W.nsIn K mainGlobals "plus" = some (some (.ref f12))) (l12 : K.lookup f12 = some ⟨oc12, od12, .func (PySem.W.fnOf "plus" "plus" (defArgs st_plus) (defBody st_plus) (defScope st_plus) .none kV12 dc12 pm12 an12 cd12 ct12), sl12⟩) (c12 : PySem.W.codeIn K cd12 "plus" = true) (k12 : PySem.W.keepIn K (.ref f12) = true)
    {f13 : Addr} {od13 an13 : Option Addr} {sl13 : Array (Option Value)} {oc13 kV13 dc13 pm13 cd13 ct13 : Value}
    (a13 : PySem.W.nsIn K mainGlobals "sum_at" = some (some (.ref f13))) (l13 : K.lookup f13 = some ⟨oc13, od13, .func (PySem.W.fnOf "sum_at" "sum_at" (defArgs st_sum_at) (defBody st_sum_at) (defScope st_sum_at) .none kV13 dc13 pm13 an13 cd13 ct13), sl13⟩) (c13 : PySem.W.codeIn K cd13 "sum_at" = true) (k13 : PySem.W.keepIn K (.ref f13) = true)
    {f14 : Addr} {od14 an14 : Option Addr} {sl14 : Array (Option Value)} {oc14 kV14 dc14 pm14 cd14 ct14 : Value}
    (a14 : PySem.W.nsIn K mainGlobals "is_in" = some (some (.ref f14))) (l14 : K.lookup f14 = some ⟨oc14, od14, .func (PySem.W.fnOf "is_in" "is_in" (defArgs st_is_in) (defBody st_is_in) (defScope st_is_in) .none kV14 dc14 pm14 an14 cd14 ct14), sl14⟩) (c14 : PySem.W.codeIn K cd14 "is_in" = true) (k14 : PySem.W.keepIn K (.ref f14) = true)
    {f15 : Addr} {od15 an15 : Option Addr} {sl15 : Array (Option Value)} {oc15 kV15 dc15 pm15 cd15 ct15 : Value}
    (a15 : PySem.W.nsIn K mainGlobals "precedes" = some (some (.ref f15))) (l15 : K.lookup f15 = some ⟨oc15, od15, .func (PySem.W.fnOf "precedes" "precedes" (defArgs st_precedes) (defBody st_precedes) (defScope st_precedes) .none kV15 dc15 pm15 an15 cd15 ct15), sl15⟩) (c15 : PySem.W.codeIn K cd15 "precedes" = true) (k15 : PySem.W.keepIn K (.ref f15) = true)
    {f16 : Addr} {od16 an16 : Option Addr} {sl16 : Array (Option Value)} {oc16 kV16 dc16 pm16 cd16 ct16 : Value}
    (a16 : PySem.W.nsIn K mainGlobals "corners_of" = some (some (.ref f16))) (l16 : K.lookup f16 = some ⟨oc16, od16, .func (PySem.W.fnOf "corners_of" "corners_of" (defArgs st_corners_of) (defBody st_corners_of) (defScope st_corners_of) .none kV16 dc16 pm16 an16 cd16 ct16), sl16⟩) (c16 : PySem.W.codeIn K cd16 "corners_of" = true) (k16 : PySem.W.keepIn K (.ref f16) = true)
    {f17 : Addr} {od17 an17 : Option Addr} {sl17 : Array (Option Value)} {oc17 kV17 dc17 pm17 cd17 ct17 : Value}
    (a17 : PySem.W.nsIn K mainGlobals "check_system" = some (some (.ref f17))) (l17 : K.lookup f17 = some ⟨oc17, od17, .func (PySem.W.fnOf "check_system" "check_system" (defArgs st_check_system) (defBody st_check_system) (defScope st_check_system) .none kV17 dc17 pm17 an17 cd17 ct17), sl17⟩) (c17 : PySem.W.codeIn K cd17 "check_system" = true) (k17 : PySem.W.keepIn K (.ref f17) = true)
    {f18 : Addr} {od18 an18 : Option Addr} {sl18 : Array (Option Value)} {oc18 kV18 dc18 pm18 cd18 ct18 : Value}
    (a18 : PySem.W.nsIn K mainGlobals "side" = some (some (.ref f18))) (l18 : K.lookup f18 = some ⟨oc18, od18, .func (PySem.W.fnOf "side" "side" (defArgs st_side) (defBody st_side) (defScope st_side) .none kV18 dc18 pm18 an18 cd18 ct18), sl18⟩) (c18 : PySem.W.codeIn K cd18 "side" = true) (k18 : PySem.W.keepIn K (.ref f18) = true)
    {f19 : Addr} {od19 an19 : Option Addr} {sl19 : Array (Option Value)} {oc19 kV19 dc19 pm19 cd19 ct19 : Value}
    (a19 : PySem.W.nsIn K mainGlobals "in_cone" = some (some (.ref f19))) (l19 : K.lookup f19 = some ⟨oc19, od19, .func (PySem.W.fnOf "in_cone" "in_cone" (defArgs st_in_cone) (defBody st_in_cone) (defScope st_in_cone) .none kV19 dc19 pm19 an19 cd19 ct19), sl19⟩) (c19 : PySem.W.codeIn K cd19 "in_cone" = true) (k19 : PySem.W.keepIn K (.ref f19) = true)
    {f20 : Addr} {od20 an20 : Option Addr} {sl20 : Array (Option Value)} {oc20 kV20 dc20 pm20 cd20 ct20 : Value}
    (a20 : PySem.W.nsIn K mainGlobals "plain_of" = some (some (.ref f20))) (l20 : K.lookup f20 = some ⟨oc20, od20, .func (PySem.W.fnOf "plain_of" "plain_of" (defArgs st_plain_of) (defBody st_plain_of) (defScope st_plain_of) .none kV20 dc20 pm20 an20 cd20 ct20), sl20⟩) (c20 : PySem.W.codeIn K cd20 "plain_of" = true) (k20 : PySem.W.keepIn K (.ref f20) = true)
    {f21 : Addr} {od21 an21 : Option Addr} {sl21 : Array (Option Value)} {oc21 kV21 dc21 pm21 cd21 ct21 : Value}
    (a21 : PySem.W.nsIn K mainGlobals "tight_at" = some (some (.ref f21))) (l21 : K.lookup f21 = some ⟨oc21, od21, .func (PySem.W.fnOf "tight_at" "tight_at" (defArgs st_tight_at) (defBody st_tight_at) (defScope st_tight_at) .none kV21 dc21 pm21 an21 cd21 ct21), sl21⟩) (c21 : PySem.W.codeIn K cd21 "tight_at" = true) (k21 : PySem.W.keepIn K (.ref f21) = true)
    {f22 : Addr} {od22 an22 : Option Addr} {sl22 : Array (Option Value)} {oc22 kV22 dc22 pm22 cd22 ct22 : Value}
    (a22 : PySem.W.nsIn K mainGlobals "ends_of" = some (some (.ref f22))) (l22 : K.lookup f22 = some ⟨oc22, od22, .func (PySem.W.fnOf "ends_of" "ends_of" (defArgs st_ends_of) (defBody st_ends_of) (defScope st_ends_of) .none kV22 dc22 pm22 an22 cd22 ct22), sl22⟩) (c22 : PySem.W.codeIn K cd22 "ends_of" = true) (k22 : PySem.W.keepIn K (.ref f22) = true)
    {f23 : Addr} {od23 an23 : Option Addr} {sl23 : Array (Option Value)} {oc23 kV23 dc23 pm23 cd23 ct23 : Value}
    (a23 : PySem.W.nsIn K mainGlobals "full_rows" = some (some (.ref f23))) (l23 : K.lookup f23 = some ⟨oc23, od23, .func (PySem.W.fnOf "full_rows" "full_rows" (defArgs st_full_rows) (defBody st_full_rows) (defScope st_full_rows) .none kV23 dc23 pm23 an23 cd23 ct23), sl23⟩) (c23 : PySem.W.codeIn K cd23 "full_rows" = true) (k23 : PySem.W.keepIn K (.ref f23) = true)
    {f24 : Addr} {od24 an24 : Option Addr} {sl24 : Array (Option Value)} {oc24 kV24 dc24 pm24 cd24 ct24 : Value}
    (a24 : PySem.W.nsIn K mainGlobals "plain_pairs" = some (some (.ref f24))) (l24 : K.lookup f24 = some ⟨oc24, od24, .func (PySem.W.fnOf "plain_pairs" "plain_pairs" (defArgs st_plain_pairs) (defBody st_plain_pairs) (defScope st_plain_pairs) .none kV24 dc24 pm24 an24 cd24 ct24), sl24⟩) (c24 : PySem.W.codeIn K cd24 "plain_pairs" = true) (k24 : PySem.W.keepIn K (.ref f24) = true)
    {f25 : Addr} {od25 an25 : Option Addr} {sl25 : Array (Option Value)} {oc25 kV25 dc25 pm25 cd25 ct25 : Value}
    (a25 : PySem.W.nsIn K mainGlobals "_law_mix" = some (some (.ref f25))) (l25 : K.lookup f25 = some ⟨oc25, od25, .func (PySem.W.fnOf "_law_mix" "_law_mix" (defArgs st__law_mix) (defBody st__law_mix) (defScope st__law_mix) .none kV25 dc25 pm25 an25 cd25 ct25), sl25⟩) (c25 : PySem.W.codeIn K cd25 "_law_mix" = true) (k25 : PySem.W.keepIn K (.ref f25) = true)
    {f26 : Addr} {od26 an26 : Option Addr} {sl26 : Array (Option Value)} {oc26 kV26 dc26 pm26 cd26 ct26 : Value}
    (a26 : PySem.W.nsIn K mainGlobals "_law_system" = some (some (.ref f26))) (l26 : K.lookup f26 = some ⟨oc26, od26, .func (PySem.W.fnOf "_law_system" "_law_system" (defArgs st__law_system) (defBody st__law_system) (defScope st__law_system) .none kV26 dc26 pm26 an26 cd26 ct26), sl26⟩) (c26 : PySem.W.codeIn K cd26 "_law_system" = true) (k26 : PySem.W.keepIn K (.ref f26) = true)
    {f27 : Addr} {od27 an27 : Option Addr} {sl27 : Array (Option Value)} {oc27 kV27 dc27 pm27 cd27 ct27 : Value}
    (a27 : PySem.W.nsIn K mainGlobals "_law_is_wide" = some (some (.ref f27))) (l27 : K.lookup f27 = some ⟨oc27, od27, .func (PySem.W.fnOf "_law_is_wide" "_law_is_wide" (defArgs st__law_is_wide) (defBody st__law_is_wide) (defScope st__law_is_wide) .none kV27 dc27 pm27 an27 cd27 ct27), sl27⟩) (c27 : PySem.W.codeIn K cd27 "_law_is_wide" = true) (k27 : PySem.W.keepIn K (.ref f27) = true)
    {f28 : Addr} {od28 an28 : Option Addr} {sl28 : Array (Option Value)} {oc28 kV28 dc28 pm28 cd28 ct28 : Value}
    (a28 : PySem.W.nsIn K mainGlobals "_law_good" = some (some (.ref f28))) (l28 : K.lookup f28 = some ⟨oc28, od28, .func (PySem.W.fnOf "_law_good" "_law_good" (defArgs st__law_good) (defBody st__law_good) (defScope st__law_good) .none kV28 dc28 pm28 an28 cd28 ct28), sl28⟩) (c28 : PySem.W.codeIn K cd28 "_law_good" = true) (k28 : PySem.W.keepIn K (.ref f28) = true)
    {f29 : Addr} {od29 an29 : Option Addr} {sl29 : Array (Option Value)} {oc29 kV29 dc29 pm29 cd29 ct29 : Value}
    (a29 : PySem.W.nsIn K mainGlobals "_law_side" = some (some (.ref f29))) (l29 : K.lookup f29 = some ⟨oc29, od29, .func (PySem.W.fnOf "_law_side" "_law_side" (defArgs st__law_side) (defBody st__law_side) (defScope st__law_side) .none kV29 dc29 pm29 an29 cd29 ct29), sl29⟩) (c29 : PySem.W.codeIn K cd29 "_law_side" = true) (k29 : PySem.W.keepIn K (.ref f29) = true)
    {f30 : Addr} {od30 an30 : Option Addr} {sl30 : Array (Option Value)} {oc30 kV30 dc30 pm30 cd30 ct30 : Value}
    (a30 : PySem.W.nsIn K mainGlobals "_law_lies" = some (some (.ref f30))) (l30 : K.lookup f30 = some ⟨oc30, od30, .func (PySem.W.fnOf "_law_lies" "_law_lies" (defArgs st__law_lies) (defBody st__law_lies) (defScope st__law_lies) .none kV30 dc30 pm30 an30 cd30 ct30), sl30⟩) (c30 : PySem.W.codeIn K cd30 "_law_lies" = true) (k30 : PySem.W.keepIn K (.ref f30) = true)
    {f31 : Addr} {od31 an31 : Option Addr} {sl31 : Array (Option Value)} {oc31 kV31 dc31 pm31 cd31 ct31 : Value}
    (a31 : PySem.W.nsIn K mainGlobals "corners" = some (some (.ref f31))) (l31 : K.lookup f31 = some ⟨oc31, od31, .func (PySem.W.fnOf "corners" "corners" (defArgs st_corners) (defBody st_corners) (defScope st_corners) .none kV31 dc31 pm31 an31 cd31 ct31), sl31⟩) (c31 : PySem.W.codeIn K cd31 "corners" = true) (k31 : PySem.W.keepIn K (.ref f31) = true)
    {f32 : Addr} {od32 an32 : Option Addr} {sl32 : Array (Option Value)} {oc32 kV32 dc32 pm32 cd32 ct32 : Value}
    (a32 : PySem.W.nsIn K mainGlobals "_law_value" = some (some (.ref f32))) (l32 : K.lookup f32 = some ⟨oc32, od32, .func (PySem.W.fnOf "_law_value" "_law_value" (defArgs st__law_value) (defBody st__law_value) (defScope st__law_value) .none kV32 dc32 pm32 an32 cd32 ct32), sl32⟩) (c32 : PySem.W.codeIn K cd32 "_law_value" = true) (k32 : PySem.W.keepIn K (.ref f32) = true)
    {f33 : Addr} {od33 an33 : Option Addr} {sl33 : Array (Option Value)} {oc33 kV33 dc33 pm33 cd33 ct33 : Value}
    (a33 : PySem.W.nsIn K mainGlobals "broken_of" = some (some (.ref f33))) (l33 : K.lookup f33 = some ⟨oc33, od33, .func (PySem.W.fnOf "broken_of" "broken_of" (defArgs st_broken_of) (defBody st_broken_of) (defScope st_broken_of) .none kV33 dc33 pm33 an33 cd33 ct33), sl33⟩) (c33 : PySem.W.codeIn K cd33 "broken_of" = true) (k33 : PySem.W.keepIn K (.ref f33) = true)
    {f34 : Addr} {od34 an34 : Option Addr} {sl34 : Array (Option Value)} {oc34 kV34 dc34 pm34 cd34 ct34 : Value}
    (a34 : PySem.W.nsIn K mainGlobals "is_dually_whole" = some (some (.ref f34))) (l34 : K.lookup f34 = some ⟨oc34, od34, .func (PySem.W.fnOf "is_dually_whole" "is_dually_whole" (defArgs st_is_dually_whole) (defBody st_is_dually_whole) (defScope st_is_dually_whole) .none kV34 dc34 pm34 an34 cd34 ct34), sl34⟩) (c34 : PySem.W.codeIn K cd34 "is_dually_whole" = true) (k34 : PySem.W.keepIn K (.ref f34) = true)
    {f35 : Addr} {od35 an35 : Option Addr} {sl35 : Array (Option Value)} {oc35 kV35 dc35 pm35 cd35 ct35 : Value}
    (a35 : PySem.W.nsIn K mainGlobals "check_gains" = some (some (.ref f35))) (l35 : K.lookup f35 = some ⟨oc35, od35, .func (PySem.W.fnOf "check_gains" "check_gains" (defArgs st_check_gains) (defBody st_check_gains) (defScope st_check_gains) .none kV35 dc35 pm35 an35 cd35 ct35), sl35⟩) (c35 : PySem.W.codeIn K cd35 "check_gains" = true) (k35 : PySem.W.keepIn K (.ref f35) = true)
    {f36 : Addr} {od36 an36 : Option Addr} {sl36 : Array (Option Value)} {oc36 kV36 dc36 pm36 cd36 ct36 : Value}
    (a36 : PySem.W.nsIn K mainGlobals "top_of" = some (some (.ref f36))) (l36 : K.lookup f36 = some ⟨oc36, od36, .func (PySem.W.fnOf "top_of" "top_of" (defArgs st_top_of) (defBody st_top_of) (defScope st_top_of) .none kV36 dc36 pm36 an36 cd36 ct36), sl36⟩) (c36 : PySem.W.codeIn K cd36 "top_of" = true) (k36 : PySem.W.keepIn K (.ref f36) = true)
    {f37 : Addr} {od37 an37 : Option Addr} {sl37 : Array (Option Value)} {oc37 kV37 dc37 pm37 cd37 ct37 : Value}
    (a37 : PySem.W.nsIn K mainGlobals "value" = some (some (.ref f37))) (l37 : K.lookup f37 = some ⟨oc37, od37, .func (PySem.W.fnOf "value" "value" (defArgs st_value) (defBody st_value) (defScope st_value) .none kV37 dc37 pm37 an37 cd37 ct37), sl37⟩) (c37 : PySem.W.codeIn K cd37 "value" = true) (k37 : PySem.W.keepIn K (.ref f37) = true)
    {f38 : Addr} {od38 an38 : Option Addr} {sl38 : Array (Option Value)} {oc38 kV38 dc38 pm38 cd38 ct38 : Value}
    (a38 : PySem.W.nsIn K mainGlobals "law" = some (some (.ref f38))) (l38 : K.lookup f38 = some ⟨oc38, od38, .func (PySem.W.fnOf "law" "law" (defArgs st_law) (defBody st_law) (defScope st_law) .none kV38 dc38 pm38 an38 cd38 ct38), sl38⟩) (c38 : PySem.W.codeIn K cd38 "law" = true) (k38 : PySem.W.keepIn K (.ref f38) = true)
    (z0 : PySem.W.nsIn K mainGlobals "abs" = some none)
    (z1 : PySem.W.nsIn K mainGlobals "all" = some none)
    (z2 : PySem.W.nsIn K mainGlobals "any" = some none)
    {t3 : Tok} (z3 : PySem.W.nsIn K mainGlobals "LEAST_ROWS" = some (some (.int 3 t3)))
    {t4 : Tok} (z4 : PySem.W.nsIn K mainGlobals "MOST_GAIN" = some (some (.int 12 t4)))
    {t5 : Tok} (z5 : PySem.W.nsIn K mainGlobals "MOST_LIMIT" = some (some (.int 100 t5)))
    {t6 : Tok} (z6 : PySem.W.nsIn K mainGlobals "MOST_NUMBER" = some (some (.int 10 t6)))
    {t7 : Tok} (z7 : PySem.W.nsIn K mainGlobals "MOST_ROWS" = some (some (.int 8 t7)))
    (z8 : PySem.W.nsIn K mainGlobals "enumerate" = some none)
    (z9 : PySem.W.nsIn K mainGlobals "gcd" = some (some (.builtin "math.gcd")))
    (z10 : PySem.W.nsIn K mainGlobals "int" = some none)
    (z11 : PySem.W.nsIn K mainGlobals "len" = some none)
    (z12 : PySem.W.nsIn K mainGlobals "max" = some none)
    (z13 : PySem.W.nsIn K mainGlobals "min" = some none)
    (z14 : PySem.W.nsIn K mainGlobals "range" = some none)
    (z15 : PySem.W.nsIn K mainGlobals "repr" = some none)
    (z16 : PySem.W.nsIn K mainGlobals "sorted" = some none)
    : ∃ fd : FuncData, (∀ (s : Shared) (v : Value), BindsTo s fd ⟨[v], []⟩ [("script", v)]) ∧ ∀ base : Heap, K.In base → base.Ns mainGlobals mg → FnG l.prog w K mg base CX0 8 fa fd ["script"] (spR K .dd m_law) := by
  have e := hfa.symm.trans (PySem.W.mg_of X G a38)
  cases e
  have hF : Facts mg := ⟨PySem.W.mg_none_of X G z0, PySem.W.mg_none_of X G z1, PySem.W.mg_none_of X G z2, ⟨_, PySem.W.mg_of X G z3⟩, ⟨_, PySem.W.mg_of X G z4⟩, ⟨_, PySem.W.mg_of X G z5⟩, ⟨_, PySem.W.mg_of X G z6⟩, ⟨_, PySem.W.mg_of X G z7⟩, PySem.W.mg_none_of X G z8, PySem.W.mg_of X G z9, PySem.W.mg_none_of X G z10, PySem.W.mg_none_of X G z11, PySem.W.mg_none_of X G z12, PySem.W.mg_none_of X G z13, PySem.W.mg_none_of X G z14, PySem.W.mg_none_of X G z15, PySem.W.mg_none_of X G z16⟩
  refine ⟨PySem.W.fnOf "law" "law" (defArgs st_law) (defBody st_law) (defScope st_law) .none kV38 dc38 pm38 an38 cd38 ct38, fun s v => .of_eq rfl, fun base _ _ => ?_⟩
  have F0 := fun_mk (st := st__law_draws) l0 c0 k0
  have hC__law_draws : Cal l.prog w K mg base CX0 1 "_law_draws" ["script"] (spR K .dd m__law_draws) := cal_of (ok__law_draws F0 hF ) F0 (PySem.W.mg_of X G a0) (F0.binds (ps := ["script"]) fun _ _ _ _ _ _ us hl => match us, hl with | [_], _ => rfl)
  have F1 := fun_mk (st := st__law_low) l1 c1 k1
  have hC__law_low : Cal l.prog w K mg base CX0 1 "_law_low" ["n", "d"] (spD K .dd (g2 m__law_low)) := cal_of (ok__law_low F1 hF ) F1 (PySem.W.mg_of X G a1) (F1.binds (ps := ["n", "d"]) fun _ _ _ _ _ _ us hl => match us, hl with | [_, _], _ => rfl)
  have F2 := fun_mk (st := st__law_less) l2 c2 k2
  have hC__law_less : Cal l.prog w K mg base CX0 1 "_law_less" ["one", "two"] (spD K .dd (g2 m__law_less)) := cal_of (ok__law_less F2 hF ) F2 (PySem.W.mg_of X G a2) (F2.binds (ps := ["one", "two"]) fun _ _ _ _ _ _ us hl => match us, hl with | [_, _], _ => rfl)
  have F3 := fun_mk (st := st__law_at) l3 c3 k3
  have hC__law_at : Cal l.prog w K mg base CX0 2 "_law_at" ["numbers", "spot"] (spD K .dd (g2 m__law_at)) := cal_of (ok__law_at F3 hF hC__law_low) F3 (PySem.W.mg_of X G a3) (F3.binds (ps := ["numbers", "spot"]) fun _ _ _ _ _ _ us hl => match us, hl with | [_, _], _ => rfl)
  have F4 := fun_mk (st := st__law_corners) l4 c4 k4
  have hC__law_corners : Cal l.prog w K mg base CX0 3 "_law_corners" ["system"] (spD K .dd (g1 m__law_corners)) := cal_of (ok__law_corners F4 hF hC__law_low hC__law_less hC__law_at) F4 (PySem.W.mg_of X G a4) (F4.binds (ps := ["system"]) fun _ _ _ _ _ _ us hl => match us, hl with | [_], _ => rfl)
  have F5 := fun_mk (st := st_is_endless) l5 c5 k5
  have hC_is_endless : Cal l.prog w K mg base CX0 1 "is_endless" ["system"] (spD K .dd (g1 m_is_endless)) := cal_of (ok_is_endless F5 hF ) F5 (PySem.W.mg_of X G a5) (F5.binds (ps := ["system"]) fun _ _ _ _ _ _ us hl => match us, hl with | [_], _ => rfl)
  have F6 := fun_mk (st := st_fraction) l6 c6 k6
  have hC_fraction : Cal l.prog w K mg base CX0 1 "fraction" ["number", "by"] (spD K .dd (g2 m_fraction)) := cal_of (ok_fraction F6 hF ) F6 (PySem.W.mg_of X G a6) (F6.binds (ps := ["number", "by"]) fun _ _ _ _ _ _ us hl => match us, hl with | [_, _], _ => rfl)
  have F7 := fun_mk (st := st_minus) l7 c7 k7
  have hC_minus : Cal l.prog w K mg base CX0 2 "minus" ["one", "two"] (spD K .dd (g2 m_minus)) := cal_of (ok_minus F7 hF hC_fraction) F7 (PySem.W.mg_of X G a7) (F7.binds (ps := ["one", "two"]) fun _ _ _ _ _ _ us hl => match us, hl with | [_, _], _ => rfl)
  have F8 := fun_mk (st := st_times) l8 c8 k8
  have hC_times : Cal l.prog w K mg base CX0 2 "times" ["one", "two"] (spD K .dd (g2 m_times)) := cal_of (ok_times F8 hF hC_fraction) F8 (PySem.W.mg_of X G a8) (F8.binds (ps := ["one", "two"]) fun _ _ _ _ _ _ us hl => match us, hl with | [_, _], _ => rfl)
  have F9 := fun_mk (st := st_is_wide) l9 c9 k9
  have hC_is_wide : Cal l.prog w K mg base CX0 3 "is_wide" ["spots"] (spD K .dd (g1 m_is_wide)) := cal_of (ok_is_wide F9 hF hC_minus hC_times) F9 (PySem.W.mg_of X G a9) (F9.binds (ps := ["spots"]) fun _ _ _ _ _ _ us hl => match us, hl with | [_], _ => rfl)
  have F10 := fun_mk (st := st_crossing) l10 c10 k10
  have hC_crossing : Cal l.prog w K mg base CX0 2 "crossing" ["one", "two"] (spD K .dd (g2 m_crossing)) := cal_of (ok_crossing F10 hF hC_fraction) F10 (PySem.W.mg_of X G a10) (F10.binds (ps := ["one", "two"]) fun _ _ _ _ _ _ us hl => match us, hl with | [_, _], _ => rfl)
  have F11 := fun_mk (st := st_is_less) l11 c11 k11
  have hC_is_less : Cal l.prog w K mg base CX0 1 "is_less" ["one", "two"] (spD K .dd (g2 m_is_less)) := cal_of (ok_is_less F11 hF ) F11 (PySem.W.mg_of X G a11) (F11.binds (ps := ["one", "two"]) fun _ _ _ _ _ _ us hl => match us, hl with | [_, _], _ => rfl)
  have F12 := fun_mk (st := st_plus) l12 c12 k12
  have hC_plus : Cal l.prog w K mg base CX0 2 "plus" ["one", "two"] (spD K .dd (g2 m_plus)) := cal_of (ok_plus F12 hF hC_fraction) F12 (PySem.W.mg_of X G a12) (F12.binds (ps := ["one", "two"]) fun _ _ _ _ _ _ us hl => match us, hl with | [_, _], _ => rfl)
  have F13 := fun_mk (st := st_sum_at) l13 c13 k13
  have hC_sum_at : Cal l.prog w K mg base CX0 3 "sum_at" ["numbers", "spot"] (spD K .dd (g2 m_sum_at)) := cal_of (ok_sum_at F13 hF hC_plus hC_times) F13 (PySem.W.mg_of X G a13) (F13.binds (ps := ["numbers", "spot"]) fun _ _ _ _ _ _ us hl => match us, hl with | [_, _], _ => rfl)
  have F14 := fun_mk (st := st_is_in) l14 c14 k14
  have hC_is_in : Cal l.prog w K mg base CX0 4 "is_in" ["system", "spot"] (spD K .dd (g2 m_is_in)) := cal_of (ok_is_in F14 hF hC_is_less hC_sum_at) F14 (PySem.W.mg_of X G a14) (F14.binds (ps := ["system", "spot"]) fun _ _ _ _ _ _ us hl => match us, hl with | [_, _], _ => rfl)
  have F15 := fun_mk (st := st_precedes) l15 c15 k15
  have hC_precedes : Cal l.prog w K mg base CX0 2 "precedes" ["one", "two"] (spD K .dd (g2 m_precedes)) := cal_of (ok_precedes F15 hF hC_is_less) F15 (PySem.W.mg_of X G a15) (F15.binds (ps := ["one", "two"]) fun _ _ _ _ _ _ us hl => match us, hl with | [_, _], _ => rfl)
  have F16 := fun_mk (st := st_corners_of) l16 c16 k16
  have hC_corners_of : Cal l.prog w K mg base CX0 5 "corners_of" ["system"] (spD K .dd (g1 m_corners_of)) := cal_of (ok_corners_of F16 hF hC_crossing hC_is_in hC_precedes) F16 (PySem.W.mg_of X G a16) (F16.binds (ps := ["system"]) fun _ _ _ _ _ _ us hl => match us, hl with | [_], _ => rfl)
  have F17 := fun_mk (st := st_check_system) l17 c17 k17
  have hC_check_system : Cal l.prog w K mg base CX0 6 "check_system" ["system"] (spD K .dd (g1 m_check_system)) := cal_of (ok_check_system F17 hF hC_is_endless hC_is_wide hC_corners_of) F17 (PySem.W.mg_of X G a17) (F17.binds (ps := ["system"]) fun _ _ _ _ _ _ us hl => match us, hl with | [_], _ => rfl)
  have F18 := fun_mk (st := st_side) l18 c18 k18
  have hC_side : Cal l.prog w K mg base CX0 1 "side" ["one", "two"] (spD K .dd (g2 m_side)) := cal_of (ok_side F18 hF ) F18 (PySem.W.mg_of X G a18) (F18.binds (ps := ["one", "two"]) fun _ _ _ _ _ _ us hl => match us, hl with | [_, _], _ => rfl)
  have F19 := fun_mk (st := st_in_cone) l19 c19 k19
  have hC_in_cone : Cal l.prog w K mg base CX0 2 "in_cone" ["ends", "told"] (spD K .dd (g2 m_in_cone)) := cal_of (ok_in_cone F19 hF hC_side) F19 (PySem.W.mg_of X G a19) (F19.binds (ps := ["ends", "told"]) fun _ _ _ _ _ _ us hl => match us, hl with | [_, _], _ => rfl)
  have F20 := fun_mk (st := st_plain_of) l20 c20 k20
  have hC_plain_of : Cal l.prog w K mg base CX0 3 "plain_of" ["ends"] (spD K .dd (g1 m_plain_of)) := cal_of (ok_plain_of F20 hF hC_side hC_in_cone) F20 (PySem.W.mg_of X G a20) (F20.binds (ps := ["ends"]) fun _ _ _ _ _ _ us hl => match us, hl with | [_], _ => rfl)
  have hC_sum_at__2 : Cal l.prog w K mg base CX0 3 "sum_at" ["numbers", "spot"] (spD K .dd (g2 m_sum_at__2)) := cal_of (ok_sum_at__2 F13 hF hC_plus hC_times) F13 (PySem.W.mg_of X G a13) (F13.binds (ps := ["numbers", "spot"]) fun _ _ _ _ _ _ us hl => match us, hl with | [_, _], _ => rfl)
  have F21 := fun_mk (st := st_tight_at) l21 c21 k21
  have hC_tight_at : Cal l.prog w K mg base CX0 4 "tight_at" ["system", "spot"] (spD K .dd (g2 m_tight_at)) := cal_of (ok_tight_at F21 hF hC_sum_at__2) F21 (PySem.W.mg_of X G a21) (F21.binds (ps := ["system", "spot"]) fun _ _ _ _ _ _ us hl => match us, hl with | [_, _], _ => rfl)
  have F22 := fun_mk (st := st_ends_of) l22 c22 k22
  have hC_ends_of : Cal l.prog w K mg base CX0 5 "ends_of" ["system", "spot"] (spD K .dd (g2 m_ends_of)) := cal_of (ok_ends_of F22 hF hC_tight_at hC_side) F22 (PySem.W.mg_of X G a22) (F22.binds (ps := ["system", "spot"]) fun _ _ _ _ _ _ us hl => match us, hl with | [_, _], _ => rfl)
  have F23 := fun_mk (st := st_full_rows) l23 c23 k23
  have hC_full_rows : Cal l.prog w K mg base CX0 7 "full_rows" ["system"] (spD K .ow (g1 m_full_rows)) := cal_of (ok_full_rows F23 hF hC_check_system hC_corners_of hC_plain_of hC_ends_of hC_sum_at__2) F23 (PySem.W.mg_of X G a23) (F23.binds (ps := ["system"]) fun _ _ _ _ _ _ us hl => match us, hl with | [_], _ => rfl)
  have F24 := fun_mk (st := st_plain_pairs) l24 c24 k24
  have hC_plain_pairs : Cal l.prog w K mg base CX0 7 "plain_pairs" ["system"] (spD K .dd (g1 m_plain_pairs)) := cal_of (ok_plain_pairs F24 hF hC_check_system hC_corners_of hC_plain_of hC_ends_of) F24 (PySem.W.mg_of X G a24) (F24.binds (ps := ["system"]) fun _ _ _ _ _ _ us hl => match us, hl with | [_], _ => rfl)
  have F25 := fun_mk (st := st__law_mix) l25 c25 k25
  have hC__law_mix : Cal l.prog w K mg base CX0 1 "_law_mix" ["draws", "k", "many"] (spD K .dd (g3 m__law_mix)) := cal_of (ok__law_mix F25 hF ) F25 (PySem.W.mg_of X G a25) (F25.binds (ps := ["draws", "k", "many"]) fun _ _ _ _ _ _ us hl => match us, hl with | [_, _, _], _ => rfl)
  have F26 := fun_mk (st := st__law_system) l26 c26 k26
  have hC__law_system : Cal l.prog w K mg base CX0 2 "_law_system" ["draws", "k"] (spD K .dd (g2 m__law_system)) := cal_of (ok__law_system F26 hF hC__law_mix) F26 (PySem.W.mg_of X G a26) (F26.binds (ps := ["draws", "k"]) fun _ _ _ _ _ _ us hl => match us, hl with | [_, _], _ => rfl)
  have F27 := fun_mk (st := st__law_is_wide) l27 c27 k27
  have hC__law_is_wide : Cal l.prog w K mg base CX0 2 "_law_is_wide" ["spots"] (spD K .dd (g1 m__law_is_wide)) := cal_of (ok__law_is_wide F27 hF hC__law_low) F27 (PySem.W.mg_of X G a27) (F27.binds (ps := ["spots"]) fun _ _ _ _ _ _ us hl => match us, hl with | [_], _ => rfl)
  have F28 := fun_mk (st := st__law_good) l28 c28 k28
  have hC__law_good : Cal l.prog w K mg base CX0 4 "_law_good" ["draws", "k"] (spD K .dd (g2 m__law_good)) := cal_of (ok__law_good F28 hF hC__law_system hC__law_is_wide hC__law_corners) F28 (PySem.W.mg_of X G a28) (F28.binds (ps := ["draws", "k"]) fun _ _ _ _ _ _ us hl => match us, hl with | [_, _], _ => rfl)
  have F29 := fun_mk (st := st__law_side) l29 c29 k29
  have hC__law_side : Cal l.prog w K mg base CX0 1 "_law_side" ["one", "two"] (spD K .dd (g2 m__law_side)) := cal_of (ok__law_side F29 hF ) F29 (PySem.W.mg_of X G a29) (F29.binds (ps := ["one", "two"]) fun _ _ _ _ _ _ us hl => match us, hl with | [_, _], _ => rfl)
  have F30 := fun_mk (st := st__law_lies) l30 c30 k30
  have hC__law_lies : Cal l.prog w K mg base CX0 2 "_law_lies" ["own", "gains"] (spD K .dd (g2 m__law_lies)) := cal_of (ok__law_lies F30 hF hC__law_side) F30 (PySem.W.mg_of X G a30) (F30.binds (ps := ["own", "gains"]) fun _ _ _ _ _ _ us hl => match us, hl with | [_, _], _ => rfl)
  have F31 := fun_mk (st := st_corners) l31 c31 k31
  have hC_corners : Cal l.prog w K mg base CX0 7 "corners" ["system"] (spD K .dd (g1 m_corners)) := cal_of (ok_corners F31 hF hC_check_system hC_corners_of) F31 (PySem.W.mg_of X G a31) (F31.binds (ps := ["system"]) fun _ _ _ _ _ _ us hl => match us, hl with | [_], _ => rfl)
  have F32 := fun_mk (st := st__law_value) l32 c32 k32
  have hC__law_value : Cal l.prog w K mg base CX0 3 "_law_value" ["spots", "gains"] (spD K .dd (g2 m__law_value)) := cal_of (ok__law_value F32 hF hC__law_at hC__law_less) F32 (PySem.W.mg_of X G a32) (F32.binds (ps := ["spots", "gains"]) fun _ _ _ _ _ _ us hl => match us, hl with | [_, _], _ => rfl)
  have F33 := fun_mk (st := st_broken_of) l33 c33 k33
  have hC_broken_of : Cal l.prog w K mg base CX0 6 "broken_of" ["system"] (spD K .dd (g1 m_broken_of)) := cal_of (ok_broken_of F33 hF hC_corners_of hC_tight_at hC_plain_of hC_ends_of) F33 (PySem.W.mg_of X G a33) (F33.binds (ps := ["system"]) fun _ _ _ _ _ _ us hl => match us, hl with | [_], _ => rfl)
  have F34 := fun_mk (st := st_is_dually_whole) l34 c34 k34
  have hC_is_dually_whole : Cal l.prog w K mg base CX0 7 "is_dually_whole" ["system"] (spD K .dd (g1 m_is_dually_whole)) := cal_of (ok_is_dually_whole F34 hF hC_check_system hC_broken_of) F34 (PySem.W.mg_of X G a34) (F34.binds (ps := ["system"]) fun _ _ _ _ _ _ us hl => match us, hl with | [_], _ => rfl)
  have F35 := fun_mk (st := st_check_gains) l35 c35 k35
  have hC_check_gains : Cal l.prog w K mg base CX0 1 "check_gains" ["gains"] (spD K .dd (g1 m_check_gains)) := cal_of (ok_check_gains F35 hF ) F35 (PySem.W.mg_of X G a35) (F35.binds (ps := ["gains"]) fun _ _ _ _ _ _ us hl => match us, hl with | [_], _ => rfl)
  have F36 := fun_mk (st := st_top_of) l36 c36 k36
  have hC_top_of : Cal l.prog w K mg base CX0 6 "top_of" ["system", "gains"] (spD K .dd (g2 m_top_of)) := cal_of (ok_top_of F36 hF hC_corners_of hC_sum_at__2 hC_is_less) F36 (PySem.W.mg_of X G a36) (F36.binds (ps := ["system", "gains"]) fun _ _ _ _ _ _ us hl => match us, hl with | [_, _], _ => rfl)
  have F37 := fun_mk (st := st_value) l37 c37 k37
  have hC_value : Cal l.prog w K mg base CX0 7 "value" ["system", "gains"] (spD K .dd (g2 m_value)) := cal_of (ok_value F37 hF hC_check_system hC_check_gains hC_top_of) F37 (PySem.W.mg_of X G a37) (F37.binds (ps := ["system", "gains"]) fun _ _ _ _ _ _ us hl => match us, hl with | [_, _], _ => rfl)
  have F38 := fun_mk (st := st_law) l38 c38 k38
  exact ok_law F38 hF hC__law_draws hC__law_good hC__law_corners hC__law_is_wide hC_full_rows hC_plain_pairs hC__law_at hC_corners hC__law_value hC_value hC__law_lies hC__law_mix hC_is_dually_whole
end Lay.K36

set_option Elab.async false
set_option linter.all false
set_option maxRecDepth 100000
namespace Lay.K36
open PySem PySem.Spec PyProof.Rows L2 Lay
open Lay.Enc (enc)
/-! ### cones of two pairs -/
abbrev Z2 := T2 Int Int
def sd (f z : Z2) : Int := f.a * z.b - f.b * z.a
def ad (x y : Z2) : Z2 := ⟨x.a + y.a, x.b + y.b⟩
def sb (x y : Z2) : Z2 := ⟨x.a - y.a, x.b - y.b⟩
def sc (k : Int) (x : Z2) : Z2 := ⟨k * x.a, k * x.b⟩
def o2 : Z2 := ⟨0, 0⟩
theorem z2_ext {x y : Z2} (h : x.a = y.a) (h2 : x.b = y.b) : x = y := by
  obtain ⟨a, b⟩ := x
  obtain ⟨c, d⟩ := y
  simp at h h2
  rw [h, h2]
theorem sd_ad_r (f x y : Z2) : sd f (ad x y) = sd f x + sd f y := by unfold sd ad; grind
theorem sd_ad_l (x y l : Z2) : sd (ad x y) l = sd x l + sd y l := by unfold sd ad; grind
theorem sd_sb_r (f x y : Z2) : sd f (sb x y) = sd f x - sd f y := by unfold sd sb; grind
theorem sd_sb_l (x y l : Z2) : sd (sb x y) l = sd x l - sd y l := by unfold sd sb; grind
theorem sd_sc_r (f x : Z2) (k : Int) : sd f (sc k x) = k * sd f x := by unfold sd sc; grind
theorem sd_sc_l (x l : Z2) (k : Int) : sd (sc k x) l = k * sd x l := by unfold sd sc; grind
theorem sd_self (f : Z2) : sd f f = 0 := by unfold sd; grind
theorem sd_anti (f l : Z2) : sd l f = - sd f l := by unfold sd; grind
theorem bezN : ∀ m n : Nat, ∃ u v : Int, (m : Int) * u + (n : Int) * v = ((Nat.gcd m n : Nat) : Int) := by
  intro m n
  induction m, n using Nat.gcd.induction with
  | H0 n => exact ⟨0, 1, by simp⟩
  | H1 m n h ih =>
    obtain ⟨u, v, e⟩ := ih
    have q : ((n % m : Nat) : Int) = (n : Int) - (m : Int) * ((n / m : Nat) : Int) := by
      have := Nat.div_add_mod n m
      have e2 : ((m * (n / m) + n % m : Nat) : Int) = (n : Int) := by rw [this]
      rw [Int.natCast_add, Int.natCast_mul] at e2; omega
    refine ⟨v - ((n / m : Nat) : Int) * u, u, ?_⟩
    rw [Nat.gcd_rec, ← e, q]
    grind
def prim (f : Z2) : Prop := Nat.gcd f.a.natAbs f.b.natAbs = 1
theorem bez {f : Z2} (h : prim f) : ∃ u v : Int, f.a * u + f.b * v = 1 := by
  obtain ⟨u, v, e⟩ := bezN f.a.natAbs f.b.natAbs
  have h : Nat.gcd f.a.natAbs f.b.natAbs = 1 := h
  rw [h] at e
  have sa : ∃ s : Int, (f.a.natAbs : Int) = f.a * s := by
    rcases Int.natAbs_eq f.a with k | k
    · exact ⟨1, by omega⟩
    · exact ⟨-1, by omega⟩
  have sb : ∃ s : Int, (f.b.natAbs : Int) = f.b * s := by
    rcases Int.natAbs_eq f.b with k | k
    · exact ⟨1, by omega⟩
    · exact ⟨-1, by omega⟩
  obtain ⟨s, hs⟩ := sa
  obtain ⟨t, ht⟩ := sb
  rw [hs, ht] at e
  exact ⟨s * u, t * v, by rw [← Int.mul_assoc, ← Int.mul_assoc]; exact e⟩
theorem prim_of {f p : Z2} (h : sd f p = 1) : prim p := by
  have hd : ((Nat.gcd p.a.natAbs p.b.natAbs : Nat) : Int) ∣ 1 := by
    rw [← h]
    unfold sd
    refine Int.dvd_sub ?_ ?_
    · refine Int.dvd_mul_of_dvd_right ?_
      exact Int.natAbs_dvd_natAbs.mp (by simpa using Nat.gcd_dvd_right _ _)
    · refine Int.dvd_mul_of_dvd_right ?_
      exact Int.natAbs_dvd_natAbs.mp (by simpa using Nat.gcd_dvd_left _ _)
  have := Int.natAbs_dvd_natAbs.mpr hd
  simp only [Int.natAbs_natCast, Int.natAbs_one] at this
  exact Nat.dvd_one.mp this
/-- on the ray of f -/
theorem on_ray {f z : Z2} (h : prim f) (e : sd f z = 0) : ∃ k : Int, z = sc k f := by
  obtain ⟨u, v, q⟩ := bez h
  refine ⟨z.a * u + z.b * v, z2_ext ?_ ?_⟩
  · show z.a = (z.a * u + z.b * v) * f.a
    unfold sd at e
    have : z.a = z.a * (f.a * u + f.b * v) := by rw [q]; omega
    grind
  · show z.b = (z.a * u + z.b * v) * f.b
    unfold sd at e
    have : z.b = z.b * (f.a * u + f.b * v) := by rw [q]; omega
    grind
structure Cone (f l z : Z2) : Prop where
  f : 0 ≤ sd f z
  l : 0 ≤ sd z l
structure Irr (f l z : Z2) : Prop where
  c : Cone f l z
  n : z ≠ o2
  i : ∀ x y, Cone f l x → Cone f l y → ad x y = z → x = o2 ∨ y = o2
theorem prim_ne {f : Z2} (h : prim f) : f ≠ o2 := fun c => by
  subst c
  have : Nat.gcd 0 0 = 1 := h
  simp at this
theorem sb_ne {x y : Z2} (h : x ≠ y) : sb x y ≠ o2 := fun c => h (by
  have h1 := congrArg T2.a c
  have h2 := congrArg T2.b c
  exact z2_ext (by show x.a = y.a; have : x.a - y.a = 0 := h1; omega) (by show x.b = y.b; have : x.b - y.b = 0 := h2; omega))
theorem ad_sb (x y : Z2) : ad y (sb x y) = x := z2_ext (by show y.a + (x.a - y.a) = x.a; omega) (by show y.b + (x.b - y.b) = x.b; omega)
/-- a multiple of f that is not 0 within the cone is at least f -/
theorem ray_pos {f l x : Z2} (hf : prim f) (hd : 0 < sd f l) (hx : Cone f l x) (h0 : sd f x = 0) (hn : x ≠ o2) : sd f l ≤ sd x l := by
  obtain ⟨k, e⟩ := on_ray hf h0
  subst e
  have hl := hx.l
  rw [sd_sc_l] at hl ⊢
  have hk : k ≠ 0 := fun c => hn (by subst c; exact z2_ext (by show 0 * f.a = 0; omega) (by show 0 * f.b = 0; omega))
  have hp : 0 < k := by
    by_cases c : 0 < k
    · exact c
    · have : k * sd f l < 0 := Int.mul_neg_of_neg_of_pos (by omega) hd
      omega
  have := Int.mul_le_mul_of_nonneg_right (show 1 ≤ k by omega) (Int.le_of_lt hd)
  omega
theorem irr_first {f l : Z2} (hf : prim f) (hd : 0 < sd f l) : Irr f l f := by
  refine ⟨⟨by rw [sd_self]; exact Int.le_refl _, by omega⟩, prim_ne hf, fun x y hx hy e => ?_⟩
  have h0 : sd f x + sd f y = 0 := by rw [← sd_ad_r, e, sd_self]
  have h1 : sd x l + sd y l = sd f l := by rw [← sd_ad_l, e]
  have x0 := hx.f
  have y0 := hy.f
  by_cases cx : x = o2
  · exact .inl cx
  · by_cases cy : y = o2
    · exact .inr cy
    · have a1 := ray_pos hf hd hx (by omega) cx
      have a2 := ray_pos hf hd hy (by omega) cy
      omega
/-- turned about -/
def tu (z : Z2) : Z2 := ⟨z.b, z.a⟩
theorem sd_tu (x y : Z2) : sd (tu x) (tu y) = sd y x := by unfold sd tu; grind
theorem tu_tu (x : Z2) : tu (tu x) = x := rfl
theorem cone_tu {f l z : Z2} : Cone (tu l) (tu f) (tu z) ↔ Cone f l z := ⟨fun h => ⟨by have := h.l; rw [sd_tu] at this; exact this, by have := h.f; rw [sd_tu] at this; exact this⟩, fun h => ⟨by rw [sd_tu]; exact h.l, by rw [sd_tu]; exact h.f⟩⟩
theorem irr_tu {f l z : Z2} (h : Irr (tu l) (tu f) (tu z)) : Irr f l z :=
  ⟨cone_tu.mp h.c, fun c => h.n (by rw [c]; rfl), fun x y hx hy e => (h.i (tu x) (tu y) (cone_tu.mpr hx) (cone_tu.mpr hy) (by rw [← e]; rfl)).imp (fun k => by have := congrArg tu k; exact this) fun k => by have := congrArg tu k; exact this⟩
theorem irr_last {f l : Z2} (hl : prim l) (hd : 0 < sd f l) : Irr f l l := irr_tu (irr_first (f := tu l) (l := tu f) (by unfold prim tu at *; rw [Nat.gcd_comm]; exact hl) (by rw [sd_tu]; exact hd))
theorem irr_low {f l x : Z2} (hd : 0 < sd f l) (h : Irr f l x) : sd x l ≤ sd f l := by
  by_cases c : x = f
  · rw [c]; exact Int.le_refl _
  · by_cases k : sd x l ≤ sd f l
    · exact k
    · exfalso
      have c1 : Cone f l f := ⟨by rw [sd_self]; exact Int.le_refl _, by omega⟩
      have c2 : Cone f l (sb x f) := ⟨by rw [sd_sb_r, sd_self]; have := h.c.f; omega, by rw [sd_sb_l]; omega⟩
      rcases h.i f (sb x f) c1 c2 (ad_sb x f) with z | z
      · rw [z] at hd
        have : sd o2 l = 0 := by unfold sd o2; simp
        omega
      · exact sb_ne c z
theorem irr_high {f l x : Z2} (hd : 0 < sd f l) (h : Irr f l x) : sd f x ≤ sd f l := by
  by_cases c : x = l
  · rw [c]; exact Int.le_refl _
  · by_cases k : sd f x ≤ sd f l
    · exact k
    · exfalso
      have c1 : Cone f l l := ⟨by omega, by rw [sd_self]; exact Int.le_refl _⟩
      have c2 : Cone f l (sb x l) := ⟨by rw [sd_sb_r]; omega, by rw [sd_sb_l, sd_self]; have := h.c.l; omega⟩
      rcases h.i l (sb x l) c1 c2 (ad_sb x l) with z | z
      · rw [z] at hd
        have : sd f o2 = 0 := by unfold sd o2; simp
        omega
      · exact sb_ne c z
/-- by f and p, which make 1 -/
theorem by_unit {f p z : Z2} (h : sd f p = 1) : z = ad (sc (sd z p) f) (sc (sd f z) p) := by
  refine z2_ext ?_ ?_
  · show z.a = sd z p * f.a + sd f z * p.a
    have : z.a = z.a * sd f p := by rw [h]; omega
    unfold sd at this ⊢
    grind
  · show z.b = sd z p * f.b + sd f z * p.b
    have : z.b = z.b * sd f p := by rw [h]; omega
    unfold sd at this ⊢
    grind
theorem two_plain : ∀ (n : Nat) (f l g : Z2), (sd f l).toNat = n → prim f → prim l → 0 < sd f l → Cone f l g → ∃ one two, Irr f l one ∧ Irr f l two ∧ sd one two = 1 ∧ Cone one two g := by
  intro n
  induction n using Nat.strongRecOn with
  | _ n ih =>
    intro f l g hn hf hl hd hg
    by_cases d1 : sd f l = 1
    · exact ⟨f, l, irr_first hf hd, irr_last hl hd, d1, hg⟩
    · obtain ⟨u, v, e⟩ := bez hf
      let w : Z2 := ⟨-v, u⟩
      have hw : sd f w = 1 := by show f.a * u - f.b * (-v) = 1; grind
      let t := -(sd w l / sd f l)
      let p : Z2 := ad w (sc t f)
      have hp1 : sd f p = 1 := by
        show sd f (ad w (sc t f)) = 1
        rw [sd_ad_r, sd_sc_r, sd_self, hw]; omega
      have hp2 : sd p l = sd w l % sd f l := by
        show sd (ad w (sc t f)) l = _
        rw [sd_ad_l, sd_sc_l]
        have := Int.emod_add_mul_ediv (sd w l) (sd f l)
        have e2 : t * sd f l = - (sd f l * (sd w l / sd f l)) := by show -(sd w l / sd f l) * sd f l = _; rw [Int.neg_mul, Int.mul_comm]
        omega
      have b1 := Int.emod_nonneg (sd w l) (show sd f l ≠ 0 by omega)
      have b2 := Int.emod_lt_of_pos (sd w l) hd
      have pp := prim_of hp1
      clear_value p
      rw [← hp2] at b1 b2
      have pne := prim_ne pp
      have b3 : 0 < sd p l := by
        by_cases c : sd p l = 0
        · exfalso
          have c' : sd l p = 0 := by rw [sd_anti, c]; rfl
          obtain ⟨k, ek⟩ := on_ray hl c'
          rw [ek, sd_sc_r] at hp1
          have : sd f l ∣ 1 := ⟨k, by rw [← hp1, Int.mul_comm]⟩
          have := Int.le_of_dvd (by decide) this
          omega
        · omega
      have pc : Cone f l p := ⟨by omega, by omega⟩
      -- p is plain in the whole cone
      have pirr : Irr f l p := by
        refine ⟨pc, pne, fun x y hx hy e => ?_⟩
        have h0 : sd f x + sd f y = 1 := by rw [← sd_ad_r, e, hp1]
        have h1 : sd x l + sd y l = sd p l := by rw [← sd_ad_l, e]
        have x0 := hx.f; have y0 := hy.f; have x1 := hx.l; have y1 := hy.l
        by_cases cx : x = o2
        · exact .inl cx
        · by_cases cy : y = o2
          · exact .inr cy
          · exfalso
            by_cases z : sd f x = 0
            · have := ray_pos hf hd hx z cx; omega
            · have := ray_pos hf hd hy (by omega) cy; omega
      -- what is plain beyond p is plain in the whole cone
      have lift : ∀ x, Irr p l x → Irr f l x := fun x hx => by
        have lo := irr_low b3 hx
        have pf : ∀ z, z = ad (sc (sd z p) f) (sc (sd f z) p) := fun z => by_unit hp1
        have sl : ∀ z, sd z l = sd z p * sd f l + sd f z * sd p l := fun z => by
          conv => lhs; rw [pf z]
          rw [sd_ad_l, sd_sc_l, sd_sc_l]
        have big : ∀ z, Cone f l z → sd p z < 0 → sd f l ≤ sd z l := fun z hz c => by
          rw [sl z]
          have a : 1 ≤ sd z p := by rw [sd_anti]; omega
          have m1 := Int.mul_le_mul_of_nonneg_right a (Int.le_of_lt hd)
          have m2 := Int.mul_nonneg hz.f b1
          omega
        refine ⟨⟨?_, hx.c.l⟩, hx.n, fun y z hy hz e => ?_⟩
        · have k : sd f x = sd f p * sd f x := by rw [hp1]; omega
          -- x beyond p is beyond f
          have h1 := hx.c.f
          have h2 := hx.c.l
          have idn : sd f x * sd p l = sd f p * sd x l + sd f l * sd p x := by unfold sd; grind
          rw [hp1] at idn
          have : 0 ≤ sd f x * sd p l := by
            rw [idn]
            have := Int.mul_nonneg (Int.le_of_lt hd) h1
            omega
          by_cases c : 0 ≤ sd f x
          · exact c
          · have := Int.mul_neg_of_neg_of_pos (show sd f x < 0 by omega) b3
            omega
        · have h1 : sd y l + sd z l = sd x l := by rw [← sd_ad_l, e]
          have y1 := hy.l; have z1 := hz.l
          by_cases cy : 0 ≤ sd p y
          · by_cases cz : 0 ≤ sd p z
            · exact hx.i y z ⟨cy, y1⟩ ⟨cz, z1⟩ e
            · exfalso; have := big z hz (by omega); omega
          · exfalso; have := big y hy (by omega); omega
      by_cases c : 0 ≤ sd g p
      · exact ⟨f, p, irr_first hf hd, pirr, hp1, ⟨hg.f, c⟩⟩
      · obtain ⟨one, two, h1, h2, h3, h4⟩ := ih (sd p l).toNat (by omega) p l g rfl pp hl b3 ⟨by rw [sd_anti]; omega, hg.l⟩
        exact ⟨one, two, lift one h1, lift two h2, h3, h4⟩
end Lay.K36

set_option Elab.async false
set_option linter.all false
set_option maxRecDepth 100000
namespace Lay.K36
open PySem PySem.Spec PyProof.Rows L2 Lay
open Lay.Enc (enc)
def DB (ds : List Int) : Prop := (∀ d, d ∈ ds → 0 ≤ d ∧ d < 65536) ∧ ds.length ≤ 3780
theorem draws_ok (ns : List Int) (h : ns.length ≤ 63) : Ok (m__law_draws ns) DB := by
  unfold m__law_draws b__law_draws
  have e3 : powG 10 18 = some 1000000000000000000 := by decide
  (try simp only [ok_some, ok_none, ok_bind, ok_lift1, ok_lift2, ok_lift3, ok_lift4, ok_bind2, ok_app1, ok_app2, ok_app3, ok_app4, ok_bif, ok_andG, ok_orG, ok_chain, ok_bindOut, bo_nx, bo_rt, bo_bk, bo_ct, ok_finO, fo_nx, fo_rt, nx_nx, nx_rt, ok_mul, ok_mod, ok_div, ok_appG, ok_szG, ok_catG, decide_eq_true_eq, decide_eq_false_iff_not, Bool.not_eq_true', Bool.not_eq_false', cLe, cLt, reduceCtorEq, false_implies, true_implies, implies_true, and_true, true_and])
  refine ⟨by simp, ok_rng1 (by split <;> omega) (by split <;> omega) (ok_for (fun i s => (∀ d, d ∈ s → 0 ≤ d ∧ d < 65536) ∧ s.length ≤ 60 * i) ⟨by simp, by simp⟩ (fun i s y hy hI => ?_) fun s hI => ?_)⟩
  · obtain ⟨hi, rfl⟩ := rng_get hy
    have hin : i < ns.length ∧ i < 63 := by split at hi <;> omega
    obtain ⟨hI1, hI2⟩ := hI
    (try simp only [ok_some, ok_none, ok_bind, ok_lift1, ok_lift2, ok_lift3, ok_lift4, ok_bind2, ok_app1, ok_app2, ok_app3, ok_app4, ok_bif, ok_andG, ok_orG, ok_chain, ok_bindOut, bo_nx, bo_rt, bo_bk, bo_ct, ok_finO, fo_nx, fo_rt, nx_nx, nx_rt, ok_mul, ok_mod, ok_div, ok_appG, ok_szG, ok_catG, decide_eq_true_eq, decide_eq_false_iff_not, Bool.not_eq_true', Bool.not_eq_false', cLe, cLt, reduceCtorEq, false_implies, true_implies, implies_true, and_true, true_and])
    refine ok_atI (by omega) (by omega) fun x hx _ => ?_
    have hr : 0 ≤ (if x < 0 then -x else x) := by split <;> omega
    generalize (if x < 0 then -x else x) = r at hr ⊢
    refine ok_of e3 ?_
    refine ⟨fun h1 => ?_, fun h1 => ?_⟩
    · refine ok_rng1 (by decide) (by decide) (ok_for (fun j s' => (∀ d, d ∈ s'.1 → 0 ≤ d ∧ d < 65536) ∧ s'.1.length ≤ 60 * i + j ∧ 0 ≤ s'.2) ⟨hI1, by simpa using hI2, hr⟩ (fun j s' z hz hJ => ?_) fun s' hJ => ?_)
      · obtain ⟨hj, rfl⟩ := rng_get hz
        obtain ⟨hJ1, hJ2, hJ3⟩ := hJ
        have hj : j < 60 := hj
        (try simp only [ok_some, ok_none, ok_bind, ok_lift1, ok_lift2, ok_lift3, ok_lift4, ok_bind2, ok_app1, ok_app2, ok_app3, ok_app4, ok_bif, ok_andG, ok_orG, ok_chain, ok_bindOut, bo_nx, bo_rt, bo_bk, bo_ct, ok_finO, fo_nx, fo_rt, nx_nx, nx_rt, ok_mul, ok_mod, ok_div, ok_appG, ok_szG, ok_catG, decide_eq_true_eq, decide_eq_false_iff_not, Bool.not_eq_true', Bool.not_eq_false', cLe, cLt, reduceCtorEq, false_implies, true_implies, implies_true, and_true, true_and])
        refine ⟨fun h2 => ⟨by decide, by omega, divOk (by decide) (by decide), ?_, ?_, ?_⟩, fun h2 => ⟨hJ1, by omega, hJ3⟩⟩
        · intro d hd
          rw [List.mem_append, List.mem_singleton] at hd
          rcases hd with hd | hd
          · exact hJ1 d hd
          · subst hd; omega
        · simp only [List.length_append, List.length_singleton]; omega
        · exact Int.ediv_nonneg hJ3 (by decide)
      · (try simp only [ok_some, ok_none, ok_bind, ok_lift1, ok_lift2, ok_lift3, ok_lift4, ok_bind2, ok_app1, ok_app2, ok_app3, ok_app4, ok_bif, ok_andG, ok_orG, ok_chain, ok_bindOut, bo_nx, bo_rt, bo_bk, bo_ct, ok_finO, fo_nx, fo_rt, nx_nx, nx_rt, ok_mul, ok_mod, ok_div, ok_appG, ok_szG, ok_catG, decide_eq_true_eq, decide_eq_false_iff_not, Bool.not_eq_true', Bool.not_eq_false', cLe, cLt, reduceCtorEq, false_implies, true_implies, implies_true, and_true, true_and])
        refine ⟨hJ.1, ?_⟩
        have := hJ.2.1
        simp only [rng_len] at this
        have e : (60 : Int).toNat = 60 := rfl
        omega
    · refine ⟨mulOk (by omega) (by decide), mulOk (by omega) (by decide), by decide, ?_⟩
      generalize hm : (r * 48271 + (0 + ↑i + 1) * 69621) % 2147483647 = m1
      have hm1 : 0 ≤ m1 ∧ m1 < 2147483647 := by omega
      refine ⟨mulOk (by omega) (by decide), mulOk (by decide) (by omega), by decide, by decide, ?_⟩
      generalize (m1 * 16807 + 11 * (0 + ↑i) + 5) % 2147483629 = m2
      refine ⟨by omega, divOk (by decide) (by decide), by decide, by simp only [List.length_append, List.length_singleton]; omega, ?_, ?_⟩
      · intro d hd
        simp only [List.mem_append, List.mem_singleton] at hd
        rcases hd with (hd | hd) | hd
        · exact hI1 d hd
        · subst hd; omega
        · subst hd; omega
      · simp only [List.length_append, List.length_singleton]; omega
  · (try simp only [ok_some, ok_none, ok_bind, ok_lift1, ok_lift2, ok_lift3, ok_lift4, ok_bind2, ok_app1, ok_app2, ok_app3, ok_app4, ok_bif, ok_andG, ok_orG, ok_chain, ok_bindOut, bo_nx, bo_rt, bo_bk, bo_ct, ok_finO, fo_nx, fo_rt, nx_nx, nx_rt, ok_mul, ok_mod, ok_div, ok_appG, ok_szG, ok_catG, decide_eq_true_eq, decide_eq_false_iff_not, Bool.not_eq_true', Bool.not_eq_false', cLe, cLt, reduceCtorEq, false_implies, true_implies, implies_true, and_true, true_and])
    refine ⟨hI.1, ?_⟩
    have := hI.2
    simp only [rng_len] at this
    have : (if (ns.length : Int) < 63 then (ns.length : Int) else 63).toNat ≤ 63 := by split <;> omega
    omega
theorem mix_ok {ds : List Int} {k many : Int} (h : DB ds) (hk : 0 ≤ k) (hk2 : k < 2 ^ 40) (hm : 0 < many) : Ok (m__law_mix ds k many) fun r => 0 ≤ r ∧ r < many := by
  unfold m__law_mix b__law_mix
  have key : ∀ c : Int, 0 ≤ c → c < 65536 → (k < ds.length → 0 < many ∧ 0 ≤ c % many ∧ c % many < many) ∧ (¬ k < ds.length → MulOk c 7919 ∧ MulOk k 104729 ∧ DivOk 3 ∧ 0 < many ∧ 0 ≤ (c * 7919 + k * 104729) / 3 % many ∧ (c * 7919 + k * 104729) / 3 % many < many) := by
    intro c h1 h2
    exact ⟨fun _ => ⟨hm, Int.emod_nonneg _ (by omega), Int.emod_lt_of_pos _ hm⟩, fun _ => ⟨mulOk (by omega) (by decide), mulOk (by omega) (by decide), divOk (by decide) (by decide), hm, Int.emod_nonneg _ (by omega), Int.emod_lt_of_pos _ hm⟩⟩
  (try simp only [ok_some, ok_none, ok_bind, ok_lift1, ok_lift2, ok_lift3, ok_lift4, ok_bind2, ok_app1, ok_app2, ok_app3, ok_app4, ok_bif, ok_andG, ok_orG, ok_chain, ok_bindOut, bo_nx, bo_rt, bo_bk, bo_ct, ok_finO, fo_nx, fo_rt, nx_nx, nx_rt, ok_mul, ok_mod, ok_div, ok_appG, ok_szG, ok_catG, decide_eq_true_eq, decide_eq_false_iff_not, Bool.not_eq_true', Bool.not_eq_false', cLe, cLt, reduceCtorEq, false_implies, true_implies, implies_true, and_true, true_and])
  refine ⟨fun h0 => ⟨h0, ok_atI (Int.emod_nonneg _ (by omega)) (Int.emod_lt_of_pos _ h0) fun x hx hm => ?_⟩, fun h0 => ?_⟩
  · exact key x (h.1 x hm).1 (h.1 x hm).2
  · exact key 0 (by decide) (by decide)

theorem gcd_log {n d : Int} {k : Nat} (h : 0 < d) (h2 : d.natAbs < 2 ^ k) (hk : k ≤ 8000) : DivOk (gcdI n d) := by
  have g := gcd_pos (n := n) h
  have g2 := gcd_le (n := n) h
  refine ⟨g, ?_⟩
  have : (gcdI n d).natAbs < 2 ^ k := by omega
  have := log2_bq this
  omega
theorem fraction_eq {n d : Int} {k : Nat} (h : 0 < d) (h2 : d.natAbs < 2 ^ k) (hk : k ≤ 8000) : m_fraction n d = some (frac n d) := by
  rw [ok_iff]
  unfold m_fraction b_fraction
  have g := gcd_log (n := n) h h2 hk
  (try simp only [ok_some, ok_none, ok_bind, ok_lift1, ok_lift2, ok_lift3, ok_lift4, ok_bind2, ok_app1, ok_app2, ok_app3, ok_app4, ok_bif, ok_andG, ok_orG, ok_chain, ok_bindOut, bo_nx, bo_rt, bo_bk, bo_ct, ok_finO, fo_nx, fo_rt, nx_nx, nx_rt, ok_mul, ok_mod, ok_div, ok_appG, ok_szG, ok_catG, decide_eq_true_eq, decide_eq_false_iff_not, Bool.not_eq_true', Bool.not_eq_false', cLe, cLt, reduceCtorEq, false_implies, true_implies, implies_true, and_true, true_and])
  exact ⟨fun c => absurd c (by omega), fun _ => ⟨g, g, rfl⟩⟩
theorem den_bits {x y : Rat} {j k : Nat} (hx : Bq j x) (hy : Bq k y) : 0 < (ofR x).b * (ofR y).b ∧ ((ofR x).b * (ofR y).b).natAbs < 2 ^ (j + k) := by
  refine ⟨Int.mul_pos (den_pos x) (den_pos y), ?_⟩
  rw [Int.natAbs_mul]; exact lt_mul hx.2 hy.2
theorem cross {x y : Rat} {j k : Nat} (hx : Bq j x) (hy : Bq k y) (h : j + k ≤ 8000) : MulOk (ofR x).a (ofR y).b ∧ MulOk (ofR y).a (ofR x).b ∧ MulOk (ofR x).b (ofR y).b ∧ MulOk (ofR x).a (ofR y).a ∧ MulOk (ofR x).b (ofR y).a :=
  ⟨mulOk_bits (i := (ofR x).a) (j := (ofR y).b) hx.1 hy.2 (by omega), mulOk_bits (i := (ofR y).a) (j := (ofR x).b) hy.1 hx.2 (by omega), mulOk_bits (i := (ofR x).b) (j := (ofR y).b) hx.2 hy.2 (by omega), mulOk_bits (i := (ofR x).a) (j := (ofR y).a) hx.1 hy.1 (by omega), mulOk_bits (i := (ofR x).b) (j := (ofR y).a) hx.2 hy.1 (by omega)⟩

theorem is_less_eq {x y : Rat} {j k : Nat} (hx : Bq j x) (hy : Bq k y) (h : j + k ≤ 8000) : m_is_less (ofR x) (ofR y) = some (decide (x < y)) := by
  rw [ok_iff]
  unfold m_is_less b_is_less
  obtain ⟨h1, h2, _⟩ := cross hx hy h
  (try simp only [ok_some, ok_none, ok_bind, ok_lift1, ok_lift2, ok_lift3, ok_lift4, ok_bind2, ok_app1, ok_app2, ok_app3, ok_app4, ok_bif, ok_andG, ok_orG, ok_chain, ok_bindOut, bo_nx, bo_rt, bo_bk, bo_ct, ok_finO, fo_nx, fo_rt, nx_nx, nx_rt, ok_mul, ok_mod, ok_div, ok_appG, ok_szG, ok_catG, decide_eq_true_eq, decide_eq_false_iff_not, Bool.not_eq_true', Bool.not_eq_false', cLe, cLt, reduceCtorEq, false_implies, true_implies, implies_true, and_true, true_and])
  refine ⟨h1, h2, ?_⟩
  rw [Bool.eq_iff_iff, decide_eq_true_eq, decide_eq_true_eq]; exact lt_ofR x y

theorem plus_eq {x y : Rat} {j k : Nat} (hx : Bq j x) (hy : Bq k y) (h : j + k ≤ 8000) : m_plus (ofR x) (ofR y) = some (ofR (x + y)) := by
  rw [ok_iff]
  unfold m_plus b_plus
  obtain ⟨h1, h2, h3, _⟩ := cross hx hy h
  obtain ⟨p1, p2⟩ := den_bits hx hy
  (try simp only [ok_some, ok_none, ok_bind, ok_lift1, ok_lift2, ok_lift3, ok_lift4, ok_bind2, ok_app1, ok_app2, ok_app3, ok_app4, ok_bif, ok_andG, ok_orG, ok_chain, ok_bindOut, bo_nx, bo_rt, bo_bk, bo_ct, ok_finO, fo_nx, fo_rt, nx_nx, nx_rt, ok_mul, ok_mod, ok_div, ok_appG, ok_szG, ok_catG, decide_eq_true_eq, decide_eq_false_iff_not, Bool.not_eq_true', Bool.not_eq_false', cLe, cLt, reduceCtorEq, false_implies, true_implies, implies_true, and_true, true_and])
  exact ⟨h1, h2, h3, ok_of (fraction_eq p1 p2 h) (add_frac x y)⟩

theorem minus_eq {x y : Rat} {j k : Nat} (hx : Bq j x) (hy : Bq k y) (h : j + k ≤ 8000) : m_minus (ofR x) (ofR y) = some (ofR (x - y)) := by
  rw [ok_iff]
  unfold m_minus b_minus
  obtain ⟨h1, h2, h3, _⟩ := cross hx hy h
  obtain ⟨p1, p2⟩ := den_bits hx hy
  (try simp only [ok_some, ok_none, ok_bind, ok_lift1, ok_lift2, ok_lift3, ok_lift4, ok_bind2, ok_app1, ok_app2, ok_app3, ok_app4, ok_bif, ok_andG, ok_orG, ok_chain, ok_bindOut, bo_nx, bo_rt, bo_bk, bo_ct, ok_finO, fo_nx, fo_rt, nx_nx, nx_rt, ok_mul, ok_mod, ok_div, ok_appG, ok_szG, ok_catG, decide_eq_true_eq, decide_eq_false_iff_not, Bool.not_eq_true', Bool.not_eq_false', cLe, cLt, reduceCtorEq, false_implies, true_implies, implies_true, and_true, true_and])
  exact ⟨h1, h2, h3, ok_of (fraction_eq p1 p2 h) (sub_frac x y)⟩

theorem times_eq {x y : Rat} {j k : Nat} (hx : Bq j x) (hy : Bq k y) (h : j + k ≤ 8000) : m_times (ofR x) (ofR y) = some (ofR (x * y)) := by
  rw [ok_iff]
  unfold m_times b_times
  obtain ⟨h1, h2, h3, h4, _⟩ := cross hx hy h
  obtain ⟨p1, p2⟩ := den_bits hx hy
  (try simp only [ok_some, ok_none, ok_bind, ok_lift1, ok_lift2, ok_lift3, ok_lift4, ok_bind2, ok_app1, ok_app2, ok_app3, ok_app4, ok_bif, ok_andG, ok_orG, ok_chain, ok_bindOut, bo_nx, bo_rt, bo_bk, bo_ct, ok_finO, fo_nx, fo_rt, nx_nx, nx_rt, ok_mul, ok_mod, ok_div, ok_appG, ok_szG, ok_catG, decide_eq_true_eq, decide_eq_false_iff_not, Bool.not_eq_true', Bool.not_eq_false', cLe, cLt, reduceCtorEq, false_implies, true_implies, implies_true, and_true, true_and])
  exact ⟨h4, h3, ok_of (fraction_eq p1 p2 h) (mul_frac x y)⟩

theorem neg_div_neg (n d : Int) : ((-n : Int) : Rat) / ((-d : Int) : Rat) = (n : Rat) / (d : Rat) := by
  rw [Rat.intCast_neg, Rat.intCast_neg]; grind
theorem fraction_ne {n d : Int} {k : Nat} (h : d ≠ 0) (h2 : d.natAbs < 2 ^ k) (hk : k ≤ 8000) : m_fraction n d = some (ofR ((n : Rat) / (d : Rat))) := by
  by_cases c : 0 < d
  · rw [fraction_eq c h2 hk, frac_div c]
  · have c' : 0 < -d := by omega
    rw [← neg_div_neg, ← frac_div c']
    rw [ok_iff]
    unfold m_fraction b_fraction
    have g := gcd_log (n := -n) c' (k := k) (by omega) hk
    (try simp only [ok_some, ok_none, ok_bind, ok_lift1, ok_lift2, ok_lift3, ok_lift4, ok_bind2, ok_app1, ok_app2, ok_app3, ok_app4, ok_bif, ok_andG, ok_orG, ok_chain, ok_bindOut, bo_nx, bo_rt, bo_bk, bo_ct, ok_finO, fo_nx, fo_rt, nx_nx, nx_rt, ok_mul, ok_mod, ok_div, ok_appG, ok_szG, ok_catG, decide_eq_true_eq, decide_eq_false_iff_not, Bool.not_eq_true', Bool.not_eq_false', cLe, cLt, reduceCtorEq, false_implies, true_implies, implies_true, and_true, true_and])
    exact ⟨fun _ => ⟨g, g, rfl⟩, fun z => absurd z (by omega)⟩
theorem divN_pos {i j : Int} (h : DivOk j) : divN i j = some (i / j) := if_pos ⟨h.1, h.2⟩
theorem divN_neg {i j : Int} (h : j < 0) (h2 : j.natAbs < 1073741824) : divN i j = some (i.fdiv j) := by
  unfold divN; rw [if_neg (by omega), if_pos ⟨h, h2⟩]
theorem law_low_ne {n d : Int} {k : Nat} (h : d ≠ 0) (h2 : d.natAbs < 2 ^ k) (hk : k ≤ 8000) (h3 : 0 < d ∨ d.natAbs < 1000000) : m__law_low n d = some (ofR ((n : Rat) / (d : Rat))) := by
  have hd : ∃ e : Int, 0 < e ∧ e.natAbs = d.natAbs ∧ (e = d ∨ e = -d) := by
    by_cases c : 0 < d
    · exact ⟨d, c, rfl, .inl rfl⟩
    · exact ⟨-d, by omega, by omega, .inr rfl⟩
  obtain ⟨e, he, hed, hee⟩ := hd
  rw [ok_iff]
  unfold m__law_low b__law_low
  have g := gcd_pos (n := n) he
  have g2 := gcd_log (n := n) he (k := k) (by omega) hk
  have gl := gcd_le (n := n) he
  have a1 : 0 ≤ (if n < 0 then -n else n) := by split <;> omega
  have b1 : 0 ≤ (if d < 0 then -d else d) := by split <;> omega
  have a3 : ((Nat.gcd (if n < 0 then -n else n).natAbs (if d < 0 then -d else d).natAbs : Nat) : Int) = gcdI n e := by
    unfold gcdI
    have e1 : (if n < 0 then -n else n).natAbs = n.natAbs := by split <;> omega
    have e2 : (if d < 0 then -d else d).natAbs = e.natAbs := by split <;> omega
    rw [e1, e2]
  (try simp only [ok_some, ok_none, ok_bind, ok_lift1, ok_lift2, ok_lift3, ok_lift4, ok_bind2, ok_app1, ok_app2, ok_app3, ok_app4, ok_bif, ok_andG, ok_orG, ok_chain, ok_bindOut, bo_nx, bo_rt, bo_bk, bo_ct, ok_finO, fo_nx, fo_rt, nx_nx, nx_rt, ok_mul, ok_mod, ok_div, ok_appG, ok_szG, ok_catG, decide_eq_true_eq, decide_eq_false_iff_not, Bool.not_eq_true', Bool.not_eq_false', cLe, cLt, reduceCtorEq, false_implies, true_implies, implies_true, and_true, true_and])
  refine ok_while (fun s => 0 ≤ s.1 ∧ 0 ≤ s.2 ∧ ((Nat.gcd s.1.natAbs s.2.natAbs : Nat) : Int) = gcdI n e) (fun s => s.2.natAbs) (fun s hs => ?_) _ _ ⟨a1, b1, a3⟩ (by omega)
  obtain ⟨s1, s2, s3⟩ := hs
  (try simp only [ok_some, ok_none, ok_bind, ok_lift1, ok_lift2, ok_lift3, ok_lift4, ok_bind2, ok_app1, ok_app2, ok_app3, ok_app4, ok_bif, ok_andG, ok_orG, ok_chain, ok_bindOut, bo_nx, bo_rt, bo_bk, bo_ct, ok_finO, fo_nx, fo_rt, nx_nx, nx_rt, ok_mul, ok_mod, ok_div, ok_appG, ok_szG, ok_catG, decide_eq_true_eq, decide_eq_false_iff_not, Bool.not_eq_true', Bool.not_eq_false', cLe, cLt, reduceCtorEq, false_implies, true_implies, implies_true, and_true, true_and])
  refine ⟨fun c => ?_, fun c => ?_⟩
  · have hp : 0 < s.2 := by omega
    have m1 := Int.emod_nonneg s.1 (show s.2 ≠ 0 by omega)
    have m2 := Int.emod_lt_of_pos s.1 hp
    refine ⟨hp, ⟨s2, m1, ?_⟩, by show (s.1 % s.2).natAbs < _; omega⟩
    rw [← s3]
    show ((Nat.gcd s.2.natAbs (s.1 % s.2).natAbs : Nat) : Int) = _
    have e : (s.1 % s.2).natAbs = s.1.natAbs % s.2.natAbs := Int.natAbs_emod_of_nonneg s1 _
    rw [e, Nat.gcd_comm, ← Nat.gcd_rec, Nat.gcd_comm]
  · have z : s.2 = 0 := by
      by_cases q : s.2 = 0
      · exact q
      · simp [q] at c
    rw [z] at s3
    have es : s.1 = gcdI n e := by rw [← s3]; simp; omega
    (try simp only [ok_some, ok_none, ok_bind, ok_lift1, ok_lift2, ok_lift3, ok_lift4, ok_bind2, ok_app1, ok_app2, ok_app3, ok_app4, ok_bif, ok_andG, ok_orG, ok_chain, ok_bindOut, bo_nx, bo_rt, bo_bk, bo_ct, ok_finO, fo_nx, fo_rt, nx_nx, nx_rt, ok_mul, ok_mod, ok_div, ok_appG, ok_szG, ok_catG, decide_eq_true_eq, decide_eq_false_iff_not, Bool.not_eq_true', Bool.not_eq_false', cLe, cLt, reduceCtorEq, false_implies, true_implies, implies_true, and_true, true_and])
    rw [es]
    refine ⟨fun lt => ?_, fun ge => ?_⟩
    · have e1 : e = -d := by omega
      rw [divN_neg (by omega) (by omega), divN_neg (by omega) (by omega)]
      (try simp only [ok_some, ok_none, ok_bind, ok_lift1, ok_lift2, ok_lift3, ok_lift4, ok_bind2, ok_app1, ok_app2, ok_app3, ok_app4, ok_bif, ok_andG, ok_orG, ok_chain, ok_bindOut, bo_nx, bo_rt, bo_bk, bo_ct, ok_finO, fo_nx, fo_rt, nx_nx, nx_rt, ok_mul, ok_mod, ok_div, ok_appG, ok_szG, ok_catG, decide_eq_true_eq, decide_eq_false_iff_not, Bool.not_eq_true', Bool.not_eq_false', cLe, cLt, reduceCtorEq, false_implies, true_implies, implies_true, and_true, true_and])
      rw [← neg_div_neg, ← e1, ← frac_div he]
      obtain ⟨p, hp⟩ : gcdI n e ∣ n := Int.natAbs_dvd_natAbs.mp (by unfold gcdI; simpa using Nat.gcd_dvd_left _ _)
      obtain ⟨q, hq⟩ : gcdI n e ∣ e := Int.natAbs_dvd_natAbs.mp (by unfold gcdI; simpa using Nat.gcd_dvd_right _ _)
      have gg : gcdI (-n) e = gcdI n e := by unfold gcdI; rw [Int.natAbs_neg]
      unfold frac
      rw [gg]
      generalize gcdI n e = G at hp hq g
      subst hp
      have hd2 : d = -(G * q) := by omega
      subst hd2
      subst hq
      have hG : G ≠ 0 := by omega
      have x1 : (G * p).fdiv (-G) = -p := by
        rw [show G * p = (-G) * (-p) by grind, Int.mul_fdiv_cancel_left _ (by omega)]
      have x2 : (-(G * q)).fdiv (-G) = q := by
        rw [show -(G * q) = (-G) * q by grind, Int.mul_fdiv_cancel_left _ (by omega)]
      have x3 : -(G * p) / G = -p := by
        rw [show -(G * p) = G * (-p) by grind, Int.mul_ediv_cancel_left _ hG]
      have x4 : G * q / G = q := Int.mul_ediv_cancel_left _ hG
      rw [x1, x2, x3, x4]
    · have e1 : e = d := by omega
      rw [divN_pos g2, divN_pos g2]
      (try simp only [ok_some, ok_none, ok_bind, ok_lift1, ok_lift2, ok_lift3, ok_lift4, ok_bind2, ok_app1, ok_app2, ok_app3, ok_app4, ok_bif, ok_andG, ok_orG, ok_chain, ok_bindOut, bo_nx, bo_rt, bo_bk, bo_ct, ok_finO, fo_nx, fo_rt, nx_nx, nx_rt, ok_mul, ok_mod, ok_div, ok_appG, ok_szG, ok_catG, decide_eq_true_eq, decide_eq_false_iff_not, Bool.not_eq_true', Bool.not_eq_false', cLe, cLt, reduceCtorEq, false_implies, true_implies, implies_true, and_true, true_and])
      rw [← e1, ← frac_div he]
      rfl
theorem law_low_eq {n d : Int} {k : Nat} (h : 0 < d) (h2 : d.natAbs < 2 ^ k) (hk : k ≤ 8000) : m__law_low n d = some (frac n d) := by
  rw [law_low_ne (by omega) h2 hk (.inl h), frac_div h]
theorem law_less_eq {x y : Rat} {j k : Nat} (hx : Bq j x) (hy : Bq k y) (h : j + k ≤ 8000) : m__law_less (ofR x) (ofR y) = some (decide (x < y)) := by
  rw [ok_iff]
  unfold m__law_less b__law_less
  obtain ⟨h1, h2, _⟩ := cross hx hy h
  (try simp only [ok_some, ok_none, ok_bind, ok_lift1, ok_lift2, ok_lift3, ok_lift4, ok_bind2, ok_app1, ok_app2, ok_app3, ok_app4, ok_bif, ok_andG, ok_orG, ok_chain, ok_bindOut, bo_nx, bo_rt, bo_bk, bo_ct, ok_finO, fo_nx, fo_rt, nx_nx, nx_rt, ok_mul, ok_mod, ok_div, ok_appG, ok_szG, ok_catG, decide_eq_true_eq, decide_eq_false_iff_not, Bool.not_eq_true', Bool.not_eq_false', cLe, cLt, reduceCtorEq, false_implies, true_implies, implies_true, and_true, true_and])
  refine ⟨h1, h2, ?_⟩
  rw [Bool.eq_iff_iff, decide_eq_true_eq, decide_eq_true_eq]; exact lt_ofR x y

end Lay.K36

set_option Elab.async false
set_option linter.all false
set_option maxRecDepth 100000
namespace Lay.K36
open PySem PySem.Spec PyProof.Rows L2 Lay
open Lay.Enc (enc)
/-! ### lines in the plane: the greatest corner has prices -/
structure PT where
  x : Rat
  y : Rat
  deriving DecidableEq
structure R3 where
  a : Rat
  b : Rat
  l : Rat
def ev (r : R3) (p : PT) : Rat := r.a * p.x + r.b * p.y
def dt (r s : R3) : Rat := r.a * s.b - r.b * s.a
theorem ext_min {α : Type} (R : α → α → Prop) : ∀ (l : List α), l ≠ [] → (∀ x, x ∈ l → ∀ y, y ∈ l → R x y ∨ R y x) → (∀ x, x ∈ l → ∀ y, y ∈ l → ∀ z, z ∈ l → R x y → R y z → R x z) → ∃ m, m ∈ l ∧ ∀ x, x ∈ l → R m x
  | [], h, _, _ => absurd rfl h
  | [a], _, t, _ => ⟨a, by simp, fun x hx => by
    have : x = a := by simpa using hx
    subst this
    exact (t x (by simp) x (by simp)).elim id id⟩
  | a :: b :: l, _, t, tr => by
    obtain ⟨m, hm, h⟩ := ext_min R (b :: l) (by simp) (fun x hx y hy => t x (List.mem_cons_of_mem _ hx) y (List.mem_cons_of_mem _ hy)) fun x hx y hy z hz => tr x (List.mem_cons_of_mem _ hx) y (List.mem_cons_of_mem _ hy) z (List.mem_cons_of_mem _ hz)
    have hm' := List.mem_cons_of_mem a hm
    rcases t a (by simp) m hm' with h1 | h1
    · refine ⟨a, by simp, fun x hx => ?_⟩
      rcases List.mem_cons.mp hx with e | hx'
      · subst e; exact (t x (by simp) x (by simp)).elim id id
      · exact tr a (by simp) m hm' x hx h1 (h x hx')
    · refine ⟨m, hm', fun x hx => ?_⟩
      rcases List.mem_cons.mp hx with e | hx'
      · subst e; exact h1
      · exact h x hx'
theorem min_of {α : Type} (f : α → Rat) (l : List α) (h : l ≠ []) : ∃ m, m ∈ l ∧ ∀ x, x ∈ l → f m ≤ f x :=
  ext_min (fun x y => f x ≤ f y) l h (fun _ _ _ _ => Rat.le_total) fun _ _ _ _ _ _ h1 h2 => Rat.le_trans h1 h2
section
variable {S : List R3} {C : PT → Prop} (hC : ∀ p, C p ↔ (∃ r, r ∈ S ∧ ∃ s, s ∈ S ∧ dt r s ≠ 0 ∧ ev r p = r.l ∧ ev s p = s.l) ∧ ∀ r, r ∈ S → ev r p ≤ r.l)
include hC
/-- along an edge to the next corner -/
theorem edge (bd : ∀ x y : Rat, (x ≠ 0 ∨ y ≠ 0) → ∃ r, r ∈ S ∧ 0 < r.a * x + r.b * y) {p : PT} (hp : C p) {t : R3} (ht : t ∈ S) (htp : ev t p = t.l) {x y g0 g1 : Rat} (hy : x ≠ 0 ∨ y ≠ 0)
    (h0 : ∀ r : R3, t.a * x + t.b * y = 0 ∧ (0 < r.a * x + r.b * y → dt t r ≠ 0)) (hT : ∀ r, r ∈ S → ev r p = r.l → r.a * x + r.b * y ≤ 0) (hg : 0 < g0 * x + g1 * y) : ∃ q, C q ∧ g0 * p.x + g1 * p.y < g0 * q.x + g1 * q.y := by
  have feas := ((hC p).mp hp).2
  have rat_div_pos : ∀ {a b : Rat}, 0 < a → 0 < b → 0 < a / b := fun {a b} h1 h2 => by
    rw [Rat.div_def]; exact Rat.mul_pos h1 (Rat.inv_pos.mpr h2)
  let U := S.filter fun r => decide (0 < r.a * x + r.b * y)
  have hU : U ≠ [] := by
    obtain ⟨r, hr, h⟩ := bd x y hy
    intro c
    have : r ∈ U := List.mem_filter.mpr ⟨hr, by simpa using h⟩
    rw [c] at this; cases this
  obtain ⟨r, hr, hmin⟩ := min_of (fun r => (r.l - ev r p) / (r.a * x + r.b * y)) U hU
  obtain ⟨hrS, hrp⟩ := List.mem_filter.mp hr
  have hrp : 0 < r.a * x + r.b * y := by simpa using hrp
  have slack : 0 < r.l - ev r p := by
    have h1 := feas r hrS
    have h2 : ev r p ≠ r.l := fun c => by have := hT r hrS c; grind
    grind
  have hl := rat_div_pos slack hrp
  have hmin : ∀ z, z ∈ U → (r.l - ev r p) / (r.a * x + r.b * y) ≤ (z.l - ev z p) / (z.a * x + z.b * y) := hmin
  have hle : ((r.l - ev r p) / (r.a * x + r.b * y)) * (r.a * x + r.b * y) = r.l - ev r p := by
    rw [Rat.div_mul_cancel]; grind
  have key : ∀ z, z ∈ U → ((r.l - ev r p) / (r.a * x + r.b * y)) * (z.a * x + z.b * y) ≤ z.l - ev z p := fun z hz => by
    have zp : 0 < z.a * x + z.b * y := by simpa using (List.mem_filter.mp hz).2
    have e : ((z.l - ev z p) / (z.a * x + z.b * y)) * (z.a * x + z.b * y) = z.l - ev z p := by
      rw [Rat.div_mul_cancel]; grind
    rw [← e]
    exact Rat.mul_le_mul_of_nonneg_right (hmin z hz) (by grind)
  generalize (r.l - ev r p) / (r.a * x + r.b * y) = m at hl hle key
  clear hmin
  refine ⟨⟨p.x + m * x, p.y + m * y⟩, (hC _).mpr ⟨⟨t, ht, r, hrS, (h0 r).2 hrp, ?_, ?_⟩, fun z hz => ?_⟩, ?_⟩
  · have := (h0 r).1
    unfold ev at htp ⊢
    show t.a * (p.x + m * x) + t.b * (p.y + m * y) = t.l
    have e : t.a * (p.x + m * x) + t.b * (p.y + m * y) = (t.a * p.x + t.b * p.y) + m * (t.a * x + t.b * y) := by grind
    rw [e, this, htp]; grind
  · unfold ev at hle ⊢
    show r.a * (p.x + m * x) + r.b * (p.y + m * y) = r.l
    grind
  · have fz := feas z hz
    by_cases c : 0 < z.a * x + z.b * y
    · have k := key z (List.mem_filter.mpr ⟨hz, by simpa using c⟩)
      unfold ev at k ⊢
      show z.a * (p.x + m * x) + z.b * (p.y + m * y) ≤ z.l
      grind
    · have c : z.a * x + z.b * y ≤ 0 := by grind
      have k : m * (z.a * x + z.b * y) ≤ 0 := by
        have := Rat.mul_le_mul_of_nonneg_left c (Rat.le_of_lt hl)
        grind
      unfold ev at fz ⊢
      show z.a * (p.x + m * x) + z.b * (p.y + m * y) ≤ z.l
      grind
  · show g0 * p.x + g1 * p.y < g0 * (p.x + m * x) + g1 * (p.y + m * y)
    have k := Rat.mul_pos hl hg
    grind
theorem extremes (nz : ∀ r, r ∈ S → r.a ≠ 0 ∨ r.b ≠ 0) (wide : ∃ c0 c1 c2, C c0 ∧ C c1 ∧ C c2 ∧ (c1.x - c0.x) * (c2.y - c0.y) ≠ (c1.y - c0.y) * (c2.x - c0.x)) {p : PT} (hp : C p) :
    ∃ r, r ∈ S ∧ ∃ s, s ∈ S ∧ ev r p = r.l ∧ ev s p = s.l ∧ 0 < dt r s ∧ ∀ t, t ∈ S → ev t p = t.l → 0 ≤ dt r t ∧ 0 ≤ dt t s := by
  obtain ⟨c0, c1, c2, k0, k1, k2, wd⟩ := wide
  let u0 := c0.x + c1.x + c2.x - 3 * p.x
  let u1 := c0.y + c1.y + c2.y - 3 * p.y
  have f0 := ((hC _).mp k0).2
  have f1 := ((hC _).mp k1).2
  have f2 := ((hC _).mp k2).2
  have low : ∀ t, t ∈ S → ev t p = t.l → t.a * u0 + t.b * u1 < 0 := fun t ht h => by
    have h0 := f0 t ht; have h1 := f1 t ht; have h2 := f2 t ht
    rw [← h] at h0 h1 h2
    have e : t.a * u0 + t.b * u1 = (ev t c0 - ev t p) + (ev t c1 - ev t p) + (ev t c2 - ev t p) := by unfold ev; grind
    have ne : ¬ (ev t c0 = ev t p ∧ ev t c1 = ev t p ∧ ev t c2 = ev t p) := fun ⟨e0, e1, e2⟩ => by
      unfold ev at e0 e1 e2
      have z1 : t.a * (c1.x - c0.x) + t.b * (c1.y - c0.y) = 0 := by grind
      have z2 : t.a * (c2.x - c0.x) + t.b * (c2.y - c0.y) = 0 := by grind
      have za : t.a * ((c1.x - c0.x) * (c2.y - c0.y) - (c1.y - c0.y) * (c2.x - c0.x)) = 0 := by grind
      have zb : t.b * ((c1.x - c0.x) * (c2.y - c0.y) - (c1.y - c0.y) * (c2.x - c0.x)) = 0 := by grind
      have wd' : (c1.x - c0.x) * (c2.y - c0.y) - (c1.y - c0.y) * (c2.x - c0.x) ≠ 0 := by grind
      rcases nz t ht with n | n
      · rcases Rat.mul_eq_zero.mp za with q | q
        · exact n q
        · exact wd' q
      · rcases Rat.mul_eq_zero.mp zb with q | q
        · exact n q
        · exact wd' q
    rw [e]; grind
  let T := S.filter fun r => decide (ev r p = r.l)
  have mem : ∀ {t}, t ∈ T → t ∈ S ∧ ev t p = t.l := fun h => let ⟨h1, h2⟩ := List.mem_filter.mp h; ⟨h1, by simpa using h2⟩
  have inT : ∀ {t}, t ∈ S → ev t p = t.l → t ∈ T := fun h1 h2 => List.mem_filter.mpr ⟨h1, by simpa using h2⟩
  obtain ⟨i, hi, j, hj, dij, ei, ej⟩ := ((hC p).mp hp).1
  have ne : T ≠ [] := fun c => by have := inT hi ei; rw [c] at this; cases this
  have idn : ∀ a b c : R3, (b.a * u0 + b.b * u1) * dt a c = (a.a * u0 + a.b * u1) * dt b c + (c.a * u0 + c.b * u1) * dt a b := fun a b c => by unfold dt; grind
  have np : ∀ {a b : Rat}, a < 0 → 0 ≤ b → a * b ≤ 0 := fun {a b} h1 h2 => by
    have := Rat.mul_nonneg (show 0 ≤ -a by grind) h2
    grind
  have nn : ∀ {a b : Rat}, a < 0 → a * b ≤ 0 → 0 ≤ b := fun {a b} h1 h2 => by
    by_cases c : 0 ≤ b
    · exact c
    · have := Rat.mul_pos (show 0 < -a by grind) (show 0 < -b by grind)
      grind
  have tr : ∀ a, a ∈ T → ∀ b, b ∈ T → ∀ c, c ∈ T → 0 ≤ dt a b → 0 ≤ dt b c → 0 ≤ dt a c := fun a ha b hb c hc h1 h2 => by
    have l1 := low a (mem ha).1 (mem ha).2
    have l2 := low b (mem hb).1 (mem hb).2
    have l3 := low c (mem hc).1 (mem hc).2
    refine nn l2 ?_
    rw [idn a b c]
    have := np l1 h2
    have := np l3 h1
    grind
  have anti : ∀ a b : R3, dt a b = - dt b a := fun a b => by unfold dt; grind
  have tot : ∀ a b : R3, 0 ≤ dt a b ∨ 0 ≤ dt b a := fun a b => by
    have := anti a b
    rcases Rat.le_total (a := 0) (b := dt a b) with h | h
    · exact .inl h
    · exact .inr (by grind)
  obtain ⟨r, hr, rmin⟩ := ext_min (fun a b => 0 ≤ dt a b) T ne (fun a _ b _ => tot a b) tr
  obtain ⟨s, hs, smax⟩ := ext_min (fun a b => 0 ≤ dt b a) T ne (fun a _ b _ => (tot a b).symm) fun a ha b hb c hc h1 h2 => tr c hc b hb a ha h2 h1
  obtain ⟨rS, rp⟩ := mem hr
  obtain ⟨sS, sp⟩ := mem hs
  have lr := low r rS rp
  have ls := low s sS sp
  have pos : 0 < dt r s := by
    have h1 := rmin s hs
    by_cases c : dt r s = 0
    · exfalso
      have both : ∀ t, t ∈ T → dt t s = 0 ∧ dt r t = 0 := fun t ht => by
        have q := idn r t s
        rw [c] at q
        have a1 := np lr (smax t ht)
        have a2 := np ls (rmin t ht)
        have e1 : (r.a * u0 + r.b * u1) * dt t s = 0 := by grind
        have e2 : (s.a * u0 + s.b * u1) * dt r t = 0 := by grind
        refine ⟨?_, ?_⟩
        · rcases Rat.mul_eq_zero.mp e1 with z | z
          · grind
          · exact z
        · rcases Rat.mul_eq_zero.mp e2 with z | z
          · grind
          · exact z
      have q := idn i r j
      have b1 := (both i (inT hi ei)).2
      have b2 := (both j (inT hj ej)).2
      have b3 : dt i r = 0 := by rw [anti, b1]; grind
      rw [b2, b3] at q
      have q : (r.a * u0 + r.b * u1) * dt i j = 0 := by grind
      rcases Rat.mul_eq_zero.mp q with z | z
      · grind
      · exact dij z
    · grind
  exact ⟨r, rS, s, sS, rp, sp, pos, fun t ht e => ⟨rmin t (inT ht e), smax t (inT ht e)⟩⟩
theorem normal (nz : ∀ r, r ∈ S → r.a ≠ 0 ∨ r.b ≠ 0) (bd : ∀ x y : Rat, (x ≠ 0 ∨ y ≠ 0) → ∃ r, r ∈ S ∧ 0 < r.a * x + r.b * y) {p : PT} (hp : C p) {g0 g1 : Rat} (mx : ∀ q, C q → g0 * q.x + g1 * q.y ≤ g0 * p.x + g1 * p.y)
    {r s : R3} (rS : r ∈ S) (sS : s ∈ S) (rp : ev r p = r.l) (sp : ev s p = s.l) (ex : ∀ t, t ∈ S → ev t p = t.l → 0 ≤ dt r t ∧ 0 ≤ dt t s) : 0 ≤ g0 * s.b - g1 * s.a ∧ 0 ≤ g1 * r.a - g0 * r.b := by
  refine ⟨?_, ?_⟩
  · by_cases c : 0 ≤ g0 * s.b - g1 * s.a
    · exact c
    · exfalso
      obtain ⟨q, hq, lt⟩ := edge hC bd hp sS sp (x := -s.b) (y := s.a) (g0 := g0) (g1 := g1) ((nz s sS).elim .inr fun n => .inl fun z => n (by grind)) (fun z => ⟨by grind, fun h => by unfold dt; grind⟩) (fun z hz ez => by
        have := (ex z hz ez).2
        unfold dt at this; grind) (by grind)
      have := mx q hq
      grind
  · by_cases c : 0 ≤ g1 * r.a - g0 * r.b
    · exact c
    · exfalso
      obtain ⟨q, hq, lt⟩ := edge hC bd hp rS rp (x := r.b) (y := -r.a) (g0 := g0) (g1 := g1) ((nz r rS).elim (fun n => .inr fun z => n (by grind)) .inl) (fun z => ⟨by grind, fun h => by unfold dt; grind⟩) (fun z hz ez => by
        have := (ex z hz ez).1
        unfold dt at this; grind) (by grind)
      have := mx q hq
      grind
end
end Lay.K36

set_option Elab.async false
set_option linter.all false
set_option maxRecDepth 100000
namespace Lay.K36
open PySem PySem.Spec PyProof.Rows L2 Lay
open Lay.Enc (enc)
/-! ### systems, crossings, corners -/
abbrev Row := T2 (T2 Int Int) Int
def pq (p : PT) : T2 Q Q := ⟨ofR p.x, ofR p.y⟩
theorem pq_inj {p q : PT} : pq p = pq q ↔ p = q := ⟨fun h => by
  obtain ⟨a, b⟩ := p
  obtain ⟨c, d⟩ := q
  unfold pq at h
  simp only [T2.mk.injEq] at h
  obtain ⟨h1, h2⟩ := h
  rw [ofR_inj.mp h1, ofR_inj.mp h2], fun h => by rw [h]⟩
def r3 (r : Row) : R3 := ⟨r.a.a, r.a.b, r.b⟩
def idet (r s : Row) : Int := r.a.a * s.a.b - r.a.b * s.a.a
def crossP (r s : Row) : PT := ⟨((r.b * s.a.b - r.a.b * s.b : Int) : Rat) / ((idet r s : Int) : Rat), ((r.a.a * s.b - r.b * s.a.a : Int) : Rat) / ((idet r s : Int) : Rat)⟩
def gat (g : T2 Int Int) (p : PT) : Rat := (g.a : Rat) * p.x + (g.b : Rat) * p.y
def inP (S : List Row) (p : PT) : Bool := S.all fun r => decide (gat r.a p ≤ (r.b : Rat))
def precP (p q : PT) : Bool := decide (p.x < q.x) || (decide (p.x = q.x) && decide (p.y < q.y))
def insP (F : List PT) (p : PT) : List PT := F.take (F.filter fun q => precP q p).length ++ [p] ++ F.drop (F.filter fun q => precP q p).length
def addP (S : List Row) (F : List PT) (r s : Row) : List PT := if idet r s = 0 then F else if crossP r s ∉ F ∧ inP S (crossP r s) = true then insP F (crossP r s) else F
def rowP (S : List Row) (F : List PT) (i : Nat) (r : Row) : List PT := (S.take i).foldl (fun F s => addP S F r s) F
def cornersN (S : List Row) : Nat → List PT
  | 0 => []
  | i + 1 => match S[i]? with
    | none => cornersN S i
    | some r => rowP S (cornersN S i) i r
def cornersP (S : List Row) : List PT := cornersN S S.length
structure RowOk (r : Row) : Prop where
  a : -10 ≤ r.a.a ∧ r.a.a ≤ 10
  b : -10 ≤ r.a.b ∧ r.a.b ≤ 10
  l : -100 ≤ r.b ∧ r.b ≤ 100
  n : r.a ≠ ⟨0, 0⟩
structure SysOk (S : List Row) : Prop where
  l : 3 ≤ S.length ∧ S.length ≤ 8
  r : ∀ r, r ∈ S → RowOk r
  b : ∀ x y : Rat, (x ≠ 0 ∨ y ≠ 0) → ∃ r, r ∈ S ∧ 0 < (r.a.a : Rat) * x + (r.a.b : Rat) * y
def PB (p : PT) : Prop := Bq 12 p.x ∧ Bq 12 p.y
def GB (g : T2 Int Int) : Prop := (-40 ≤ g.a ∧ g.a ≤ 40) ∧ (-40 ≤ g.b ∧ g.b ≤ 40)
theorem RowOk.gb {r : Row} (h : RowOk r) : GB r.a := ⟨by have := h.a; omega, by have := h.b; omega⟩
theorem mul_box {a b m n : Int} (h1 : -m ≤ a ∧ a ≤ m) (h2 : -n ≤ b ∧ b ≤ n) : -(m * n) ≤ a * b ∧ a * b ≤ m * n := by
  have e : (a * b).natAbs ≤ m.natAbs * n.natAbs := by
    rw [Int.natAbs_mul]
    exact Nat.mul_le_mul (by omega) (by omega)
  have e2 : ((m.natAbs * n.natAbs : Nat) : Int) = m * n := by
    rw [Int.natCast_mul]
    have : (m.natAbs : Int) = m := by omega
    have : (n.natAbs : Int) = n := by omega
    rw [‹(m.natAbs : Int) = m›, ‹(n.natAbs : Int) = n›]
  omega
theorem bq_quot {n d : Int} {k : Nat} (h : n.natAbs < 2 ^ k) (h2 : d.natAbs < 2 ^ k) (hd : d ≠ 0) : Bq k ((n : Rat) / (d : Rat)) := by
  have e : ((2 ^ k : Nat) : Int) = 2 ^ k := by simp
  by_cases c : 0 < d
  · exact bq_div h (by omega) c
  · rw [← neg_div_neg]; exact bq_div (by omega) (by omega) (by omega)
theorem idet_b {r s : Row} (hr : RowOk r) (hs : RowOk s) : -200 ≤ idet r s ∧ idet r s ≤ 200 := by
  have h1 := mul_box hr.a hs.b
  have h2 := mul_box hr.b hs.a
  unfold idet; omega
theorem cross_nb {r s : Row} (hr : RowOk r) (hs : RowOk s) : (-2000 ≤ r.b * s.a.b - r.a.b * s.b ∧ r.b * s.a.b - r.a.b * s.b ≤ 2000) ∧ (-2000 ≤ r.a.a * s.b - r.b * s.a.a ∧ r.a.a * s.b - r.b * s.a.a ≤ 2000) := by
  have h1 := mul_box hr.l hs.b
  have h2 := mul_box hr.b hs.l
  have h3 := mul_box hr.a hs.l
  have h4 := mul_box hr.l hs.a
  omega
theorem cross_pb {r s : Row} (hr : RowOk r) (hs : RowOk s) (h : idet r s ≠ 0) : PB (crossP r s) := by
  have h1 := idet_b hr hs
  have h2 := cross_nb hr hs
  exact ⟨bq_quot (by omega) (by omega) h, bq_quot (by omega) (by omega) h⟩
theorem gat_b {g : T2 Int Int} {p : PT} (hg : GB g) (hp : PB p) : Bq 40 (gat g p) := by
  have h1 : Bq 7 (g.a : Rat) := bq_int (by have := hg.1; omega) (by decide)
  have h2 : Bq 7 (g.b : Rat) := bq_int (by have := hg.2; omega) (by decide)
  exact (bq_add (bq_mul h1 hp.1) (bq_mul h2 hp.2)).mono (by decide)
theorem sum_at_eq {g : T2 Int Int} {p : PT} (hg : GB g) (hp : PB p) : m_sum_at g (some (pq p)) = some (ofR (gat g p)) := by
  have h1 : Bq 7 (g.a : Rat) := bq_int (by have := hg.1; omega) (by decide)
  have h2 : Bq 7 (g.b : Rat) := bq_int (by have := hg.2; omega) (by decide)
  rw [ok_iff]
  unfold m_sum_at b_sum_at
  (try simp only [ok_some, ok_none, ok_bind, ok_lift1, ok_lift2, ok_lift3, ok_lift4, ok_bind2, ok_app1, ok_app2, ok_app3, ok_app4, ok_bif, ok_andG, ok_orG, ok_chain, ok_bindOut, bo_nx, bo_rt, bo_bk, bo_ct, ok_finO, fo_nx, fo_rt, nx_nx, nx_rt, ok_mul, ok_mod, ok_div, ok_appG, ok_szG, ok_catG, decide_eq_true_eq, decide_eq_false_iff_not, Bool.not_eq_true', Bool.not_eq_false', cLe, cLt, reduceCtorEq, false_implies, true_implies, implies_true, and_true, true_and, id])
  refine ok_of (times_eq h1 hp.1 (by decide)) (ok_of (times_eq h2 hp.2 (by decide)) (ok_of (plus_eq (bq_mul h1 hp.1) (bq_mul h2 hp.2) (by decide)) rfl))
theorem sum_at2_eq {g : T2 Int Int} {p : PT} (hg : GB g) (hp : PB p) : m_sum_at__2 g (pq p) = some (ofR (gat g p)) := by
  have h1 : Bq 7 (g.a : Rat) := bq_int (by have := hg.1; omega) (by decide)
  have h2 : Bq 7 (g.b : Rat) := bq_int (by have := hg.2; omega) (by decide)
  rw [ok_iff]
  unfold m_sum_at__2 b_sum_at__2
  (try simp only [ok_some, ok_none, ok_bind, ok_lift1, ok_lift2, ok_lift3, ok_lift4, ok_bind2, ok_app1, ok_app2, ok_app3, ok_app4, ok_bif, ok_andG, ok_orG, ok_chain, ok_bindOut, bo_nx, bo_rt, bo_bk, bo_ct, ok_finO, fo_nx, fo_rt, nx_nx, nx_rt, ok_mul, ok_mod, ok_div, ok_appG, ok_szG, ok_catG, decide_eq_true_eq, decide_eq_false_iff_not, Bool.not_eq_true', Bool.not_eq_false', cLe, cLt, reduceCtorEq, false_implies, true_implies, implies_true, and_true, true_and, id])
  refine ok_of (times_eq h1 hp.1 (by decide)) (ok_of (times_eq h2 hp.2 (by decide)) (ok_of (plus_eq (bq_mul h1 hp.1) (bq_mul h2 hp.2) (by decide)) rfl))
theorem at_frac (a b : Int) (x y : Rat) : ((a * x.num * y.den + b * y.num * x.den : Int) : Rat) / ((x.den * y.den : Int) : Rat) = a * x + b * y := by
  have hx := num_den x
  have hy := num_den y
  have dx := den_ne x
  have dy := den_ne y
  have ex : (x.num : Rat) = x * ((x.den : Nat) : Rat) := by
    have := Rat.div_mul_cancel (a := (x.num : Rat)) dx
    rw [hx] at this; exact this.symm
  have ey : (y.num : Rat) = y * ((y.den : Nat) : Rat) := by
    have := Rat.div_mul_cancel (a := (y.num : Rat)) dy
    rw [hy] at this; exact this.symm
  have c1 : ((x.den : Int) : Rat) = ((x.den : Nat) : Rat) := rfl
  have c2 : ((y.den : Int) : Rat) = ((y.den : Nat) : Rat) := rfl
  rw [Rat.intCast_add, Rat.intCast_mul, Rat.intCast_mul, Rat.intCast_mul, Rat.intCast_mul, Rat.intCast_mul, c1, c2, ex, ey]
  clear ex ey c1 c2 hx hy
  generalize ((x.den : Nat) : Rat) = D at dx ⊢
  generalize ((y.den : Nat) : Rat) = E at dy ⊢
  have de : D * E ≠ 0 := fun h => (Rat.mul_eq_zero.mp h).elim dx dy
  grind
theorem law_at_eq {g : T2 Int Int} {p : PT} (hg : GB g) (hp : PB p) : m__law_at g (pq p) = some (ofR (gat g p)) := by
  have h1 : g.a.natAbs < 2 ^ 7 := by have := hg.1; omega
  have h2 : g.b.natAbs < 2 ^ 7 := by have := hg.2; omega
  obtain ⟨⟨x1, x2⟩, ⟨y1, y2⟩⟩ := hp
  have b1 : (g.a * p.x.num).natAbs < 2 ^ 19 := by rw [Int.natAbs_mul]; exact lt_mul h1 x1
  have b2 : (g.b * p.y.num).natAbs < 2 ^ 19 := by rw [Int.natAbs_mul]; exact lt_mul h2 y1
  have b3 : ((p.x.den : Int) * (p.y.den : Int)).natAbs < 2 ^ 24 := by rw [Int.natAbs_mul]; exact lt_mul x2 y2
  have pos : (0 : Int) < (p.x.den : Int) * (p.y.den : Int) := Int.mul_pos (den_pos _) (den_pos _)
  rw [ok_iff]
  unfold m__law_at b__law_at
  have e1 : (pq p).a.a = p.x.num := rfl
  have e2 : (pq p).a.b = (p.x.den : Int) := rfl
  have e3 : (pq p).b.a = p.y.num := rfl
  have e4 : (pq p).b.b = (p.y.den : Int) := rfl
  (try simp only [ok_some, ok_none, ok_bind, ok_lift1, ok_lift2, ok_lift3, ok_lift4, ok_bind2, ok_app1, ok_app2, ok_app3, ok_app4, ok_bif, ok_andG, ok_orG, ok_chain, ok_bindOut, bo_nx, bo_rt, bo_bk, bo_ct, ok_finO, fo_nx, fo_rt, nx_nx, nx_rt, ok_mul, ok_mod, ok_div, ok_appG, ok_szG, ok_catG, decide_eq_true_eq, decide_eq_false_iff_not, Bool.not_eq_true', Bool.not_eq_false', cLe, cLt, reduceCtorEq, false_implies, true_implies, implies_true, and_true, true_and, e1, e2, e3, e4])
  refine ⟨mulOk_bits h1 x1 (by decide), mulOk_bits b1 (b := 12) (by omega) (by decide), mulOk_bits h2 y1 (by decide), mulOk_bits b2 (b := 12) (by omega) (by decide), mulOk_bits (a := 12) (b := 12) (by omega) (by omega) (by decide), ok_of (law_low_ne (by omega) b3 (by decide) (.inl pos)) ?_⟩
  rw [at_frac]; rfl
theorem int_q (n : Int) : (⟨n, 1⟩ : Q) = ofR (n : Rat) := rfl
theorem lim_b {r : Row} (h : RowOk r) : Bq 8 (r.b : Rat) := bq_int (by have := h.l; omega) (by decide)
theorem is_in_eq {S : List Row} (hS : ∀ r, r ∈ S → RowOk r) {p : PT} (hp : PB p) : m_is_in S (some (pq p)) = some (inP S p) := by
  rw [ok_iff]
  unfold m_is_in b_is_in
  (try simp only [ok_some, ok_none, ok_bind, ok_lift1, ok_lift2, ok_lift3, ok_lift4, ok_bind2, ok_app1, ok_app2, ok_app3, ok_app4, ok_bif, ok_andG, ok_orG, ok_chain, ok_bindOut, bo_nx, bo_rt, bo_bk, bo_ct, ok_finO, fo_nx, fo_rt, nx_nx, nx_rt, ok_mul, ok_mod, ok_div, ok_appG, ok_szG, ok_catG, decide_eq_true_eq, decide_eq_false_iff_not, Bool.not_eq_true', Bool.not_eq_false', cLe, cLt, reduceCtorEq, false_implies, true_implies, implies_true, and_true, true_and])
  refine ok_map (fun r => decide ((r.b : Rat) < gat r.a p)) (fun r hr => ?_) ?_
  · rw [ok_iff]
    (try simp only [ok_some, ok_none, ok_bind, ok_lift1, ok_lift2, ok_lift3, ok_lift4, ok_bind2, ok_app1, ok_app2, ok_app3, ok_app4, ok_bif, ok_andG, ok_orG, ok_chain, ok_bindOut, bo_nx, bo_rt, bo_bk, bo_ct, ok_finO, fo_nx, fo_rt, nx_nx, nx_rt, ok_mul, ok_mod, ok_div, ok_appG, ok_szG, ok_catG, decide_eq_true_eq, decide_eq_false_iff_not, Bool.not_eq_true', Bool.not_eq_false', cLe, cLt, reduceCtorEq, false_implies, true_implies, implies_true, and_true, true_and])
    refine ok_of (sum_at_eq (hS r hr).gb hp) ?_
    (try simp only [ok_some, ok_none, ok_bind, ok_lift1, ok_lift2, ok_lift3, ok_lift4, ok_bind2, ok_app1, ok_app2, ok_app3, ok_app4, ok_bif, ok_andG, ok_orG, ok_chain, ok_bindOut, bo_nx, bo_rt, bo_bk, bo_ct, ok_finO, fo_nx, fo_rt, nx_nx, nx_rt, ok_mul, ok_mod, ok_div, ok_appG, ok_szG, ok_catG, decide_eq_true_eq, decide_eq_false_iff_not, Bool.not_eq_true', Bool.not_eq_false', cLe, cLt, reduceCtorEq, false_implies, true_implies, implies_true, and_true, true_and, int_q])
    exact ok_of (is_less_eq (lim_b (hS r hr)) (gat_b (hS r hr).gb hp) (by decide)) rfl
  · unfold inP
    rw [List.any_map, List.not_any_eq_all_not]
    congr 1
    funext r
    simp only [Function.comp, id]
    rw [Bool.eq_iff_iff]
    simp [Rat.not_lt]
theorem precedes_eq {p q : PT} (hp : PB p) (hq : PB q) : m_precedes (pq p) (some (pq q)) = some (precP p q) := by
  rw [ok_iff]
  unfold m_precedes b_precedes
  have e : ((pq p).a = (pq q).a) ↔ p.x = q.x := ofR_inj
  (try simp only [ok_some, ok_none, ok_bind, ok_lift1, ok_lift2, ok_lift3, ok_lift4, ok_bind2, ok_app1, ok_app2, ok_app3, ok_app4, ok_bif, ok_andG, ok_orG, ok_chain, ok_bindOut, bo_nx, bo_rt, bo_bk, bo_ct, ok_finO, fo_nx, fo_rt, nx_nx, nx_rt, ok_mul, ok_mod, ok_div, ok_appG, ok_szG, ok_catG, decide_eq_true_eq, decide_eq_false_iff_not, Bool.not_eq_true', Bool.not_eq_false', cLe, cLt, reduceCtorEq, false_implies, true_implies, implies_true, and_true, true_and, id])
  refine ok_of (is_less_eq hp.1 hq.1 (by decide)) ⟨fun h => ?_, fun h => ⟨fun h2 => ok_of (is_less_eq hp.2 hq.2 (by decide)) ?_, fun h2 => ?_⟩⟩
  · unfold precP; simp [h]
  · unfold precP; rw [e] at h2; simp [h, h2]
  · unfold precP; rw [e] at h2; simp [h, h2]
theorem law_in_eq {S : List Row} (hS : ∀ r, r ∈ S → RowOk r) {p : PT} (hp : PB p) : Ok (lcL (fun (x : Row) => app2 m__law_less (lift2 T2.mk (lift1 T2.b (some x)) (some (1 : Int))) (app2 m__law_at (lift1 T2.a (some x)) (some (pq p)))) (fun (x : Row) => some x) S) fun l => (l = []) ↔ inP S p = true := by
  refine ok_filter (fun r => decide ((r.b : Rat) < gat r.a p)) (fun r hr => ?_) ?_
  · rw [ok_iff]
    (try simp only [ok_some, ok_none, ok_bind, ok_lift1, ok_lift2, ok_lift3, ok_lift4, ok_bind2, ok_app1, ok_app2, ok_app3, ok_app4, ok_bif, ok_andG, ok_orG, ok_chain, ok_bindOut, bo_nx, bo_rt, bo_bk, bo_ct, ok_finO, fo_nx, fo_rt, nx_nx, nx_rt, ok_mul, ok_mod, ok_div, ok_appG, ok_szG, ok_catG, decide_eq_true_eq, decide_eq_false_iff_not, Bool.not_eq_true', Bool.not_eq_false', cLe, cLt, reduceCtorEq, false_implies, true_implies, implies_true, and_true, true_and])
    refine ok_of (law_at_eq (hS r hr).gb hp) ?_
    (try simp only [ok_some, ok_none, ok_bind, ok_lift1, ok_lift2, ok_lift3, ok_lift4, ok_bind2, ok_app1, ok_app2, ok_app3, ok_app4, ok_bif, ok_andG, ok_orG, ok_chain, ok_bindOut, bo_nx, bo_rt, bo_bk, bo_ct, ok_finO, fo_nx, fo_rt, nx_nx, nx_rt, ok_mul, ok_mod, ok_div, ok_appG, ok_szG, ok_catG, decide_eq_true_eq, decide_eq_false_iff_not, Bool.not_eq_true', Bool.not_eq_false', cLe, cLt, reduceCtorEq, false_implies, true_implies, implies_true, and_true, true_and, int_q])
    exact ok_of (law_less_eq (lim_b (hS r hr)) (gat_b (hS r hr).gb hp) (by decide)) rfl
  · rw [List.filter_eq_nil_iff]
    unfold inP
    rw [List.all_eq_true]
    refine ⟨fun h x hx => ?_, fun h x hx => ?_⟩
    · have := h x hx
      simp only [decide_eq_true_eq] at this ⊢; grind
    · have := h x hx
      simp only [decide_eq_true_eq] at this ⊢; grind
theorem law_prec_eq {p q : PT} (hp : PB p) (hq : PB q) : (orG (app2 m__law_less (lift1 T2.a (some (pq p))) (lift1 T2.a (some (pq q)))) (andG (lift2 (fun x y => decide (x = y)) (lift1 T2.a (some (pq p))) (lift1 T2.a (some (pq q)))) (app2 m__law_less (lift1 T2.b (some (pq p))) (lift1 T2.b (some (pq q)))))) = some (precP p q) := by
  rw [ok_iff]
  have e : ((pq p).a = (pq q).a) ↔ p.x = q.x := ofR_inj
  (try simp only [ok_some, ok_none, ok_bind, ok_lift1, ok_lift2, ok_lift3, ok_lift4, ok_bind2, ok_app1, ok_app2, ok_app3, ok_app4, ok_bif, ok_andG, ok_orG, ok_chain, ok_bindOut, bo_nx, bo_rt, bo_bk, bo_ct, ok_finO, fo_nx, fo_rt, nx_nx, nx_rt, ok_mul, ok_mod, ok_div, ok_appG, ok_szG, ok_catG, decide_eq_true_eq, decide_eq_false_iff_not, Bool.not_eq_true', Bool.not_eq_false', cLe, cLt, reduceCtorEq, false_implies, true_implies, implies_true, and_true, true_and, id])
  refine ok_of (law_less_eq hp.1 hq.1 (by decide)) ⟨fun h => ?_, fun h => ⟨fun h2 => ok_of (law_less_eq hp.2 hq.2 (by decide)) ?_, fun h2 => ?_⟩⟩
  · unfold precP; simp [h]
  · unfold precP; rw [e] at h2; simp [h, h2]
  · unfold precP; rw [e] at h2; simp [h, h2]
end Lay.K36

set_option Elab.async false
set_option linter.all false
set_option maxRecDepth 100000
namespace Lay.K36
open PySem PySem.Spec PyProof.Rows L2 Lay
open Lay.Enc (enc)
theorem ins_mem {F : List PT} {p q : PT} : q ∈ insP F p ↔ q = p ∨ q ∈ F := by
  unfold insP
  generalize (F.filter fun q => precP q p).length = k
  rw [List.mem_append, List.mem_append, List.mem_singleton]
  have := @List.mem_append _ q (F.take k) (F.drop k)
  rw [List.take_append_drop] at this
  rw [this]
  constructor
  · rintro ((h | h) | h)
    · exact .inr (.inl h)
    · exact .inl h
    · exact .inr (.inr h)
  · rintro (h | h | h)
    · exact .inl (.inr h)
    · exact .inl (.inl h)
    · exact .inr h
theorem ins_len {F : List PT} {p : PT} : (insP F p).length = F.length + 1 := by
  unfold insP
  have : (F.filter fun q => precP q p).length ≤ F.length := List.length_filter_le _ _
  generalize (F.filter fun q => precP q p).length = k at this ⊢
  simp only [List.length_append, List.length_take, List.length_drop, List.length_singleton]; omega
theorem add_mem {S : List Row} {F : List PT} {r s : Row} {q : PT} : q ∈ addP S F r s ↔ q ∈ F ∨ (idet r s ≠ 0 ∧ q = crossP r s ∧ inP S q = true) := by
  unfold addP
  by_cases h : idet r s = 0
  · rw [if_pos h]; exact ⟨.inl, fun k => k.elim id fun k => absurd h k.1⟩
  · rw [if_neg h]
    by_cases h2 : crossP r s ∉ F ∧ inP S (crossP r s) = true
    · rw [if_pos h2, ins_mem]
      constructor
      · rintro (k | k)
        · exact .inr ⟨h, k, by rw [k]; exact h2.2⟩
        · exact .inl k
      · rintro (k | ⟨_, k, _⟩)
        · exact .inr k
        · exact .inl k
    · rw [if_neg h2]
      refine ⟨.inl, ?_⟩
      rintro (k | ⟨_, k, k2⟩)
      · exact k
      · subst k
        by_cases c : crossP r s ∈ F
        · exact c
        · exact absurd ⟨c, k2⟩ h2
theorem add_len {S : List Row} {F : List PT} {r s : Row} : (addP S F r s).length ≤ F.length + 1 := by
  unfold addP
  split
  · omega
  · split
    · rw [ins_len]; omega
    · omega
theorem fold_mem {S : List Row} {r : Row} {q : PT} : ∀ {L : List Row} {F : List PT}, q ∈ L.foldl (fun F s => addP S F r s) F ↔ q ∈ F ∨ ∃ s, s ∈ L ∧ idet r s ≠ 0 ∧ q = crossP r s ∧ inP S q = true
  | [], F => by simp
  | s :: L, F => by
    rw [List.foldl_cons, fold_mem, add_mem]
    constructor
    · rintro ((h | h) | ⟨t, ht, h⟩)
      · exact .inl h
      · exact .inr ⟨s, by simp, h⟩
      · exact .inr ⟨t, by simp [ht], h⟩
    · rintro (h | ⟨t, ht, h⟩)
      · exact .inl (.inl h)
      · rcases List.mem_cons.mp ht with e | ht
        · subst e; exact .inl (.inr h)
        · exact .inr ⟨t, ht, h⟩
theorem fold_len {S : List Row} {r : Row} : ∀ {L : List Row} {F : List PT}, (L.foldl (fun F s => addP S F r s) F).length ≤ F.length + L.length
  | [], F => by simp
  | s :: L, F => by
    rw [List.foldl_cons]
    have h1 := fold_len (S := S) (r := r) (L := L) (F := addP S F r s)
    have h2 := add_len (S := S) (F := F) (r := r) (s := s)
    rw [List.length_cons]; omega
theorem cornersN_mem {S : List Row} {q : PT} : ∀ {n : Nat}, q ∈ cornersN S n ↔ ∃ i j r s, i < n ∧ j < i ∧ S[i]? = some r ∧ S[j]? = some s ∧ idet r s ≠ 0 ∧ q = crossP r s ∧ inP S q = true
  | 0 => by simp [cornersN]
  | n + 1 => by
    have ih := cornersN_mem (S := S) (q := q) (n := n)
    have up : (∃ i j r s, i < n ∧ j < i ∧ S[i]? = some r ∧ S[j]? = some s ∧ idet r s ≠ 0 ∧ q = crossP r s ∧ inP S q = true) → ∃ i j r s, i < n + 1 ∧ j < i ∧ S[i]? = some r ∧ S[j]? = some s ∧ idet r s ≠ 0 ∧ q = crossP r s ∧ inP S q = true :=
      fun ⟨i, j, r, s, h, k⟩ => ⟨i, j, r, s, by omega, k⟩
    unfold cornersN
    split
    · rename_i e
      rw [ih]
      refine ⟨up, fun ⟨i, j, r, s, h, k, e1, z⟩ => ⟨i, j, r, s, ?_, k, e1, z⟩⟩
      by_cases c : i = n
      · subst c; rw [e] at e1; cases e1
      · omega
    · rename_i r e
      unfold rowP
      rw [fold_mem, ih]
      constructor
      · rintro (h | ⟨s, hs, k⟩)
        · exact up h
        · obtain ⟨j, hj, e2⟩ := List.mem_iff_getElem?.mp hs |> fun ⟨j, e2⟩ => (⟨j, by
            have := (List.getElem?_eq_some_iff.mp e2).1
            rw [List.length_take] at this; omega, e2⟩ : ∃ j, j < n ∧ (S.take n)[j]? = some s)
          rw [List.getElem?_take_of_lt hj] at e2
          exact ⟨n, j, r, s, by omega, hj, e, e2, k⟩
      · rintro ⟨i, j, r', s, h, k, e1, e2, z⟩
        by_cases c : i = n
        · subst c
          rw [e] at e1; cases e1
          refine .inr ⟨s, ?_, z⟩
          exact List.mem_iff_getElem?.mpr ⟨j, by rw [List.getElem?_take_of_lt k]; exact e2⟩
        · exact .inl ⟨i, j, r', s, by omega, k, e1, e2, z⟩
theorem cornersN_len {S : List Row} : ∀ {n : Nat}, (cornersN S n).length ≤ n * S.length
  | 0 => by simp [cornersN]
  | n + 1 => by
    have ih := cornersN_len (S := S) (n := n)
    have e : (n + 1) * S.length = n * S.length + S.length := Nat.succ_mul _ _
    unfold cornersN
    split
    · omega
    · rename_i r _
      have := fold_len (S := S) (r := r) (L := S.take n) (F := cornersN S n)
      unfold rowP
      rw [List.length_take] at this; omega
theorem corners_pb {S : List Row} (hS : ∀ r, r ∈ S → RowOk r) {n : Nat} {q : PT} (h : q ∈ cornersN S n) : PB q := by
  obtain ⟨i, j, r, s, _, _, e1, e2, d, e, _⟩ := cornersN_mem.mp h
  rw [e]
  exact cross_pb (hS r (List.mem_of_getElem? e1)) (hS s (List.mem_of_getElem? e2)) d
theorem map_not_mem {F : List PT} {p : PT} : pq p ∈ F.map pq ↔ p ∈ F := by
  rw [List.mem_map]
  exact ⟨fun ⟨q, h, e⟩ => by rw [← pq_inj.mp e]; exact h, fun h => ⟨p, h, rfl⟩⟩
theorem ins_ok {F : List PT} {p : PT} {k : Nat} (hk : k = (F.filter fun q => precP q p).length) (hl : F.length ≤ 1000) :
    [pq p].length ≤ 16777216 ∧ (cutL (F.map pq) none (some (k : Int))).length + [pq p].length ≤ 16777216 ∧ (cutL (F.map pq) none (some (k : Int)) ++ [pq p]).length + (cutL (F.map pq) (some (k : Int)) none).length ≤ 16777216 ∧
      cutL (F.map pq) none (some (k : Int)) ++ [pq p] ++ cutL (F.map pq) (some (k : Int)) none = (insP F p).map pq := by
  have le : k ≤ (F.map pq).length := by rw [hk, List.length_map]; exact List.length_filter_le _ _
  rw [cut_to le, cut_from le]
  simp only [List.length_map] at le
  refine ⟨by simp, ?_, ?_, ?_⟩
  · simp only [List.length_take, List.length_map, List.length_cons, List.length_nil]; omega
  · simp only [List.length_append, List.length_take, List.length_drop, List.length_map, List.length_cons, List.length_nil]; omega
  · unfold insP
    rw [← hk, List.map_append, List.map_append, List.map_take, List.map_drop]; rfl
theorem cross_eq {r s : Row} (hr : RowOk r) (hs : RowOk s) : m_crossing r s = some (if idet r s = 0 then none else some (pq (crossP r s))) := by
  rw [ok_iff]
  unfold m_crossing b_crossing
  have h1 := idet_b hr hs
  have h2 := cross_nb hr hs
  have a := hr.a; have b := hr.b; have l := hr.l
  have a' := hs.a; have b' := hs.b; have l' := hs.l
  (try simp only [ok_some, ok_none, ok_bind, ok_lift1, ok_lift2, ok_lift3, ok_lift4, ok_bind2, ok_app1, ok_app2, ok_app3, ok_app4, ok_bif, ok_andG, ok_orG, ok_chain, ok_bindOut, bo_nx, bo_rt, bo_bk, bo_ct, ok_finO, fo_nx, fo_rt, nx_nx, nx_rt, ok_mul, ok_mod, ok_div, ok_appG, ok_szG, ok_catG, decide_eq_true_eq, decide_eq_false_iff_not, Bool.not_eq_true', Bool.not_eq_false', cLe, cLt, reduceCtorEq, false_implies, true_implies, implies_true, and_true, true_and])
  refine ⟨mulOk (by omega) (by omega), mulOk (by omega) (by omega), fun h => ?_, fun h => ?_⟩
  · rw [if_pos (show idet r s = 0 from h)]
  · have h : idet r s ≠ 0 := h
    rw [if_neg h]
    refine ⟨mulOk (by omega) (by omega), mulOk (by omega) (by omega), ok_of (fraction_ne (k := 12) h (by show (idet r s).natAbs < _; omega) (by decide)) ⟨mulOk (by omega) (by omega), mulOk (by omega) (by omega), ok_of (fraction_ne (k := 12) h (by show (idet r s).natAbs < _; omega) (by decide)) rfl⟩⟩
theorem len_filter_map {F : List PT} {f : T2 Q Q → Bool} {g : PT → Bool} (h : ∀ q, q ∈ F → f (pq q) = g q) : ((F.map pq).filter f).length = (F.filter g).length := by
  rw [List.filter_map, List.length_map]
  congr 1
  exact List.filter_congr h
def unq (q : T2 Q Q) : PT := ⟨mkRat q.a.a q.a.b.toNat, mkRat q.b.a q.b.b.toNat⟩
theorem unq_pq (p : PT) : unq (pq p) = p := by
  obtain ⟨x, y⟩ := p
  show (⟨mkRat x.num ((x.den : Int)).toNat, mkRat y.num ((y.den : Int)).toNat⟩ : PT) = _
  rw [Int.toNat_natCast, Int.toNat_natCast, Rat.mkRat_self, Rat.mkRat_self]
theorem filter_pq {F : List PT} {g : PT → Bool} : (F.map pq).filter (fun q => g (unq q)) = (F.filter g).map pq := by
  rw [List.filter_map]
  congr 1
  refine List.filter_congr fun q _ => ?_
  show g (unq (pq q)) = g q
  rw [unq_pq]
theorem mem_pq {F : List PT} {q : T2 Q Q} (h : q ∈ F.map pq) : ∃ p, p ∈ F ∧ q = pq p := let ⟨p, h1, h2⟩ := List.mem_map.mp h; ⟨p, h1, h2.symm⟩
theorem corners_of_eq {S : List Row} (hl : S.length ≤ 8) (hS : ∀ r, r ∈ S → RowOk r) : m_corners_of S = some ((cornersP S).map pq) := by
  rw [ok_iff]
  unfold m_corners_of b_corners_of
  (try simp only [ok_some, ok_none, ok_bind, ok_lift1, ok_lift2, ok_lift3, ok_lift4, ok_bind2, ok_app1, ok_app2, ok_app3, ok_app4, ok_bif, ok_andG, ok_orG, ok_chain, ok_bindOut, bo_nx, bo_rt, bo_bk, bo_ct, ok_finO, fo_nx, fo_rt, nx_nx, nx_rt, ok_mul, ok_mod, ok_div, ok_appG, ok_szG, ok_catG, decide_eq_true_eq, decide_eq_false_iff_not, Bool.not_eq_true', Bool.not_eq_false', cLe, cLt, reduceCtorEq, false_implies, true_implies, implies_true, and_true, true_and])
  refine ⟨by simp, ok_for (fun i s => s = (cornersN S i).map pq) rfl (fun i s y hy hs => ?_) fun s hs => ?_⟩
  · subst hs
    have hi : i < S.length := by
      have := (List.getElem?_eq_some_iff.mp hy).1
      rw [enumL_length] at this; exact this
    have hr := List.getElem?_eq_getElem hi
    rw [enumL_get hr] at hy
    have hy := Option.some.inj hy
    subst hy
    have hrm := List.getElem_mem hi
    generalize S[i] = r at hr hrm
    (try simp only [ok_some, ok_none, ok_bind, ok_lift1, ok_lift2, ok_lift3, ok_lift4, ok_bind2, ok_app1, ok_app2, ok_app3, ok_app4, ok_bif, ok_andG, ok_orG, ok_chain, ok_bindOut, bo_nx, bo_rt, bo_bk, bo_ct, ok_finO, fo_nx, fo_rt, nx_nx, nx_rt, ok_mul, ok_mod, ok_div, ok_appG, ok_szG, ok_catG, decide_eq_true_eq, decide_eq_false_iff_not, Bool.not_eq_true', Bool.not_eq_false', cLe, cLt, reduceCtorEq, false_implies, true_implies, implies_true, and_true, true_and, cut_to (Nat.le_of_lt hi)])
    refine ok_for (fun j s => s = ((S.take j).foldl (fun F t => addP S F r t) (cornersN S i)).map pq) rfl (fun j s t ht hs => ?_) fun s hs => ?_
    · subst hs
      have hj : j < i := by
        have := (List.getElem?_eq_some_iff.mp ht).1
        rw [List.length_take] at this; omega
      rw [List.getElem?_take_of_lt hj] at ht
      have htm := List.mem_of_getElem? ht
      have step : (S.take (j + 1)).foldl (fun F t => addP S F r t) (cornersN S i) = addP S ((S.take j).foldl (fun F t => addP S F r t) (cornersN S i)) r t := by
        rw [take1 ht, List.foldl_append]; rfl
      have fl := fold_len (S := S) (r := r) (L := S.take j) (F := cornersN S i)
      have cl := cornersN_len (S := S) (n := i)
      have fpb : ∀ q, q ∈ (S.take j).foldl (fun F t => addP S F r t) (cornersN S i) → PB q := fun q hq => by
        rcases fold_mem.mp hq with h | ⟨u, hu, d, e, _⟩
        · exact corners_pb hS h
        · rw [e]; exact cross_pb (hS r hrm) (hS u (List.mem_of_mem_take hu)) d
      have fll : ((S.take j).foldl (fun F t => addP S F r t) (cornersN S i)).length ≤ 1000 := by
        rw [List.length_take] at fl
        have := Nat.mul_le_mul (Nat.le_of_lt (Nat.lt_of_lt_of_le hi hl)) hl
        omega
      rw [step]
      generalize (S.take j).foldl (fun F t => addP S F r t) (cornersN S i) = F at fpb fll
      (try simp only [ok_some, ok_none, ok_bind, ok_lift1, ok_lift2, ok_lift3, ok_lift4, ok_bind2, ok_app1, ok_app2, ok_app3, ok_app4, ok_bif, ok_andG, ok_orG, ok_chain, ok_bindOut, bo_nx, bo_rt, bo_bk, bo_ct, ok_finO, fo_nx, fo_rt, nx_nx, nx_rt, ok_mul, ok_mod, ok_div, ok_appG, ok_szG, ok_catG, decide_eq_true_eq, decide_eq_false_iff_not, Bool.not_eq_true', Bool.not_eq_false', cLe, cLt, reduceCtorEq, false_implies, true_implies, implies_true, and_true, true_and])
      refine ok_of (cross_eq (hS r hrm) (hS t htm)) ?_
      by_cases d : idet r t = 0
      · rw [if_pos d]
        (try simp only [ok_some, ok_none, ok_bind, ok_lift1, ok_lift2, ok_lift3, ok_lift4, ok_bind2, ok_app1, ok_app2, ok_app3, ok_app4, ok_bif, ok_andG, ok_orG, ok_chain, ok_bindOut, bo_nx, bo_rt, bo_bk, bo_ct, ok_finO, fo_nx, fo_rt, nx_nx, nx_rt, ok_mul, ok_mod, ok_div, ok_appG, ok_szG, ok_catG, decide_eq_true_eq, decide_eq_false_iff_not, Bool.not_eq_true', Bool.not_eq_false', cLe, cLt, reduceCtorEq, false_implies, true_implies, implies_true, and_true, true_and, Option.isSome_none])
        unfold addP; rw [if_pos d]
      · rw [if_neg d]
        have pb := cross_pb (hS r hrm) (hS t htm) d
        unfold addP
        rw [if_neg d]
        generalize crossP r t = p at pb
        (try simp only [ok_some, ok_none, ok_bind, ok_lift1, ok_lift2, ok_lift3, ok_lift4, ok_bind2, ok_app1, ok_app2, ok_app3, ok_app4, ok_bif, ok_andG, ok_orG, ok_chain, ok_bindOut, bo_nx, bo_rt, bo_bk, bo_ct, ok_finO, fo_nx, fo_rt, nx_nx, nx_rt, ok_mul, ok_mod, ok_div, ok_appG, ok_szG, ok_catG, decide_eq_true_eq, decide_eq_false_iff_not, Bool.not_eq_true', Bool.not_eq_false', cLe, cLt, reduceCtorEq, false_implies, true_implies, implies_true, and_true, true_and, Option.isSome_some, id])
        refine ⟨fun h => ok_of (is_in_eq hS pb) ⟨fun h2 => ?_, fun h2 => ?_⟩, fun h => ?_⟩
        · rw [map_not_mem] at h
          rw [if_pos ⟨h, h2⟩]
          refine ok_filter (fun q => precP (unq q) p) (fun q hq => ?_) ?_
          · obtain ⟨q', h3, e⟩ := mem_pq hq
            subst e
            rw [unq_pq]; exact precedes_eq (fpb q' h3) pb
          · rw [filter_pq (g := fun q => precP q p), List.length_map]
            exact ins_ok rfl fll
        · rw [if_neg (by rw [h2]; simp)]
        · have h : pq p ∈ F.map pq := by simpa using h
          rw [map_not_mem] at h
          rw [if_neg (fun c => c.1 h)]
    · subst hs
      (try simp only [ok_some, ok_none, ok_bind, ok_lift1, ok_lift2, ok_lift3, ok_lift4, ok_bind2, ok_app1, ok_app2, ok_app3, ok_app4, ok_bif, ok_andG, ok_orG, ok_chain, ok_bindOut, bo_nx, bo_rt, bo_bk, bo_ct, ok_finO, fo_nx, fo_rt, nx_nx, nx_rt, ok_mul, ok_mod, ok_div, ok_appG, ok_szG, ok_catG, decide_eq_true_eq, decide_eq_false_iff_not, Bool.not_eq_true', Bool.not_eq_false', cLe, cLt, reduceCtorEq, false_implies, true_implies, implies_true, and_true, true_and])
      rw [show (S.take i).length = i by rw [List.length_take]; omega]
      show _ = (match S[i]? with | none => _ | some r => _ : List PT).map pq
      rw [hr]; rfl
  · subst hs
    (try simp only [ok_some, ok_none, ok_bind, ok_lift1, ok_lift2, ok_lift3, ok_lift4, ok_bind2, ok_app1, ok_app2, ok_app3, ok_app4, ok_bif, ok_andG, ok_orG, ok_chain, ok_bindOut, bo_nx, bo_rt, bo_bk, bo_ct, ok_finO, fo_nx, fo_rt, nx_nx, nx_rt, ok_mul, ok_mod, ok_div, ok_appG, ok_szG, ok_catG, decide_eq_true_eq, decide_eq_false_iff_not, Bool.not_eq_true', Bool.not_eq_false', cLe, cLt, reduceCtorEq, false_implies, true_implies, implies_true, and_true, true_and])
    rw [enumL_length]; rfl
theorem law_corners_eq {S : List Row} (hl : S.length ≤ 8) (hS : ∀ r, r ∈ S → RowOk r) : m__law_corners S = some ((cornersP S).map pq) := by
  rw [ok_iff]
  unfold m__law_corners b__law_corners
  (try simp only [ok_some, ok_none, ok_bind, ok_lift1, ok_lift2, ok_lift3, ok_lift4, ok_bind2, ok_app1, ok_app2, ok_app3, ok_app4, ok_bif, ok_andG, ok_orG, ok_chain, ok_bindOut, bo_nx, bo_rt, bo_bk, bo_ct, ok_finO, fo_nx, fo_rt, nx_nx, nx_rt, ok_mul, ok_mod, ok_div, ok_appG, ok_szG, ok_catG, decide_eq_true_eq, decide_eq_false_iff_not, Bool.not_eq_true', Bool.not_eq_false', cLe, cLt, reduceCtorEq, false_implies, true_implies, implies_true, and_true, true_and])
  refine ⟨by simp, ok_of (rng1_at (by omega)) (ok_for (fun i s => s = (cornersN S i).map pq) rfl (fun i s y hy hs => ?_) fun s hs => ?_)⟩
  · subst hs
    obtain ⟨hi, rfl⟩ := rng_get hy
    have hr := List.getElem?_eq_getElem hi
    have hrm := List.getElem_mem hi
    have ati : atI S (0 + (i : Int)) = some S[i] := by
      rw [atI_eq (by omega) (by omega), show (0 + (i : Int)).toNat = i by omega, hr]
    generalize S[i] = r at hr hrm ati
    (try simp only [ok_some, ok_none, ok_bind, ok_lift1, ok_lift2, ok_lift3, ok_lift4, ok_bind2, ok_app1, ok_app2, ok_app3, ok_app4, ok_bif, ok_andG, ok_orG, ok_chain, ok_bindOut, bo_nx, bo_rt, bo_bk, bo_ct, ok_finO, fo_nx, fo_rt, nx_nx, nx_rt, ok_mul, ok_mod, ok_div, ok_appG, ok_szG, ok_catG, decide_eq_true_eq, decide_eq_false_iff_not, Bool.not_eq_true', Bool.not_eq_false', cLe, cLt, reduceCtorEq, false_implies, true_implies, implies_true, and_true, true_and])
    refine ok_of (show rng1 (0 + (i : Int)) = some (rngL 0 i) by rw [Int.zero_add]; exact rng1_at (by omega)) ?_
    refine ok_for (fun j s => s = ((S.take j).foldl (fun F t => addP S F r t) (cornersN S i)).map pq) rfl (fun j s t ht hs => ?_) fun s hs => ?_
    · subst hs
      obtain ⟨hj, rfl⟩ := rng_get ht
      have hjS : j < S.length := by omega
      have ht := List.getElem?_eq_getElem hjS
      have htm := List.getElem_mem hjS
      have atj : atI S (0 + (j : Int)) = some S[j] := by
        rw [atI_eq (by omega) (by omega), show (0 + (j : Int)).toNat = j by omega, ht]
      generalize S[j] = t at ht htm atj
      have step : (S.take (j + 1)).foldl (fun F t => addP S F r t) (cornersN S i) = addP S ((S.take j).foldl (fun F t => addP S F r t) (cornersN S i)) r t := by
        rw [take1 ht, List.foldl_append]; rfl
      have fl := fold_len (S := S) (r := r) (L := S.take j) (F := cornersN S i)
      have cl := cornersN_len (S := S) (n := i)
      have fpb : ∀ q, q ∈ (S.take j).foldl (fun F t => addP S F r t) (cornersN S i) → PB q := fun q hq => by
        rcases fold_mem.mp hq with h | ⟨u, hu, d, e, _⟩
        · exact corners_pb hS h
        · rw [e]; exact cross_pb (hS r hrm) (hS u (List.mem_of_mem_take hu)) d
      have fll : ((S.take j).foldl (fun F t => addP S F r t) (cornersN S i)).length ≤ 1000 := by
        rw [List.length_take] at fl
        have := Nat.mul_le_mul (Nat.le_of_lt (Nat.lt_of_lt_of_le hi hl)) hl
        omega
      rw [step]
      generalize (S.take j).foldl (fun F t => addP S F r t) (cornersN S i) = F at fpb fll
      have h1 := idet_b (hS r hrm) (hS t htm)
      have h2 := cross_nb (hS r hrm) (hS t htm)
      have a := (hS r hrm).a; have b := (hS r hrm).b; have l := (hS r hrm).l
      have a' := (hS t htm).a; have b' := (hS t htm).b; have l' := (hS t htm).l
      (try simp only [ok_some, ok_none, ok_bind, ok_lift1, ok_lift2, ok_lift3, ok_lift4, ok_bind2, ok_app1, ok_app2, ok_app3, ok_app4, ok_bif, ok_andG, ok_orG, ok_chain, ok_bindOut, bo_nx, bo_rt, bo_bk, bo_ct, ok_finO, fo_nx, fo_rt, nx_nx, nx_rt, ok_mul, ok_mod, ok_div, ok_appG, ok_szG, ok_catG, decide_eq_true_eq, decide_eq_false_iff_not, Bool.not_eq_true', Bool.not_eq_false', cLe, cLt, reduceCtorEq, false_implies, true_implies, implies_true, and_true, true_and])
      refine ok_of ati (ok_of atj ?_)
      (try simp only [ok_some, ok_none, ok_bind, ok_lift1, ok_lift2, ok_lift3, ok_lift4, ok_bind2, ok_app1, ok_app2, ok_app3, ok_app4, ok_bif, ok_andG, ok_orG, ok_chain, ok_bindOut, bo_nx, bo_rt, bo_bk, bo_ct, ok_finO, fo_nx, fo_rt, nx_nx, nx_rt, ok_mul, ok_mod, ok_div, ok_appG, ok_szG, ok_catG, decide_eq_true_eq, decide_eq_false_iff_not, Bool.not_eq_true', Bool.not_eq_false', cLe, cLt, reduceCtorEq, false_implies, true_implies, implies_true, and_true, true_and])
      refine ⟨mulOk (by omega) (by omega), mulOk (by omega) (by omega), fun d => ?_, fun d => ?_⟩
      · have d : idet r t ≠ 0 := fun c => d (by unfold idet at c; omega)
        have pb := cross_pb (hS r hrm) (hS t htm) d
        have dd : (idet r t).natAbs < 2 ^ 12 := by omega
        have x1 : m__law_low (r.b * t.a.b - r.a.b * t.b) (r.a.a * t.a.b - r.a.b * t.a.a) = some (pq (crossP r t)).a := law_low_ne (k := 12) d dd (by decide) (.inr (show (idet r t).natAbs < 1000000 by omega))
        have x2 : m__law_low (r.a.a * t.b - r.b * t.a.a) (r.a.a * t.a.b - r.a.b * t.a.a) = some (pq (crossP r t)).b := law_low_ne (k := 12) d dd (by decide) (.inr (show (idet r t).natAbs < 1000000 by omega))
        refine ⟨mulOk (by omega) (by omega), mulOk (by omega) (by omega), mulOk (by omega) (by omega), mulOk (by omega) (by omega), ok_of x1 ⟨mulOk (by omega) (by omega), mulOk (by omega) (by omega), mulOk (by omega) (by omega), mulOk (by omega) (by omega), ok_of x2 ?_⟩⟩
        unfold addP
        rw [if_neg d]
        have e : (⟨(pq (crossP r t)).a, (pq (crossP r t)).b⟩ : T2 Q Q) = pq (crossP r t) := rfl
        rw [e]
        clear e x1 x2
        generalize crossP r t = p at pb
        (try simp only [ok_some, ok_none, ok_bind, ok_lift1, ok_lift2, ok_lift3, ok_lift4, ok_bind2, ok_app1, ok_app2, ok_app3, ok_app4, ok_bif, ok_andG, ok_orG, ok_chain, ok_bindOut, bo_nx, bo_rt, bo_bk, bo_ct, ok_finO, fo_nx, fo_rt, nx_nx, nx_rt, ok_mul, ok_mod, ok_div, ok_appG, ok_szG, ok_catG, decide_eq_true_eq, decide_eq_false_iff_not, Bool.not_eq_true', Bool.not_eq_false', cLe, cLt, reduceCtorEq, false_implies, true_implies, implies_true, and_true, true_and])
        refine ⟨fun h => ok_mono (law_in_eq hS pb) fun l hl => ⟨by simp, fun h2 => ?_, fun h2 => ?_⟩, fun h => ?_⟩
        · rw [map_not_mem] at h
          rw [if_pos ⟨h, hl.mp h2⟩]
          refine ok_filter (fun q => precP (unq q) p) (fun q hq => ?_) ?_
          · obtain ⟨q', h3, e⟩ := mem_pq hq
            subst e
            rw [unq_pq]; exact law_prec_eq (fpb q' h3) pb
          · rw [filter_pq (g := fun q => precP q p), List.length_map]
            exact ins_ok rfl fll
        · rw [if_neg (fun c => h2 (hl.mpr c.2))]
        · have h : pq p ∈ F.map pq := by simpa using h
          rw [map_not_mem] at h
          rw [if_neg (fun c => c.1 h)]
      · have d : idet r t = 0 := by unfold idet; omega
        unfold addP
        rw [if_pos d]
    · subst hs
      (try simp only [ok_some, ok_none, ok_bind, ok_lift1, ok_lift2, ok_lift3, ok_lift4, ok_bind2, ok_app1, ok_app2, ok_app3, ok_app4, ok_bif, ok_andG, ok_orG, ok_chain, ok_bindOut, bo_nx, bo_rt, bo_bk, bo_ct, ok_finO, fo_nx, fo_rt, nx_nx, nx_rt, ok_mul, ok_mod, ok_div, ok_appG, ok_szG, ok_catG, decide_eq_true_eq, decide_eq_false_iff_not, Bool.not_eq_true', Bool.not_eq_false', cLe, cLt, reduceCtorEq, false_implies, true_implies, implies_true, and_true, true_and])
      rw [rng_len]
      show _ = (match S[i]? with | none => _ | some r => _ : List PT).map pq
      rw [hr]; rfl
  · subst hs
    (try simp only [ok_some, ok_none, ok_bind, ok_lift1, ok_lift2, ok_lift3, ok_lift4, ok_bind2, ok_app1, ok_app2, ok_app3, ok_app4, ok_bif, ok_andG, ok_orG, ok_chain, ok_bindOut, bo_nx, bo_rt, bo_bk, bo_ct, ok_finO, fo_nx, fo_rt, nx_nx, nx_rt, ok_mul, ok_mod, ok_div, ok_appG, ok_szG, ok_catG, decide_eq_true_eq, decide_eq_false_iff_not, Bool.not_eq_true', Bool.not_eq_false', cLe, cLt, reduceCtorEq, false_implies, true_implies, implies_true, and_true, true_and])
    rw [rng_len]; rfl
end Lay.K36

set_option Elab.async false
set_option linter.all false
set_option maxRecDepth 100000
namespace Lay.K36
open PySem PySem.Spec PyProof.Rows L2 Lay
open Lay.Enc (enc)
/-! ### corners and the plane -/
theorem gat_r3 (r : Row) (p : PT) : ev (r3 r) p = gat r.a p := rfl
theorem dt_r3 (r s : Row) : dt (r3 r) (r3 s) = ((idet r s : Int) : Rat) := by
  unfold dt r3 idet
  rw [Rat.intCast_sub, Rat.intCast_mul, Rat.intCast_mul]
theorem idet_q (r s : Row) : ((idet r s : Int) : Rat) = (r.a.a : Rat) * s.a.b - (r.a.b : Rat) * s.a.a := (dt_r3 r s).symm
theorem idet_ne {r s : Row} (h : idet r s ≠ 0) : ((idet r s : Int) : Rat) ≠ 0 := fun c => h (Rat.intCast_eq_zero_iff.mp c)
theorem cross_on {r s : Row} (h : idet r s ≠ 0) : gat r.a (crossP r s) = (r.b : Rat) ∧ gat s.a (crossP r s) = (s.b : Rat) := by
  have hd := idet_ne h
  have hq := idet_q r s
  unfold gat crossP
  generalize ((idet r s : Int) : Rat) = D at hd hq ⊢
  simp only [Rat.intCast_sub, Rat.intCast_mul]
  generalize (r.a.a : Rat) = a at *
  generalize (r.a.b : Rat) = b at *
  generalize (s.a.a : Rat) = c at *
  generalize (s.a.b : Rat) = d at *
  generalize (r.b : Rat) = l at *
  generalize (s.b : Rat) = m at *
  constructor
  · grind
  · grind
theorem cross_uniq {r s : Row} (h : idet r s ≠ 0) {p : PT} (h1 : gat r.a p = (r.b : Rat)) (h2 : gat s.a p = (s.b : Rat)) : p = crossP r s := by
  have hd := idet_ne h
  have hq := idet_q r s
  obtain ⟨x, y⟩ := p
  unfold gat at h1 h2
  unfold crossP
  generalize ((idet r s : Int) : Rat) = D at hd hq ⊢
  simp only [Rat.intCast_sub, Rat.intCast_mul, PT.mk.injEq] at h1 h2 ⊢
  generalize (r.a.a : Rat) = a at *
  generalize (r.a.b : Rat) = b at *
  generalize (s.a.a : Rat) = c at *
  generalize (s.a.b : Rat) = d at *
  generalize (r.b : Rat) = l at *
  generalize (s.b : Rat) = m at *
  constructor
  · grind
  · grind
theorem in_iff {S : List Row} {p : PT} : inP S p = true ↔ ∀ r, r ∈ S → gat r.a p ≤ (r.b : Rat) := by
  unfold inP
  rw [List.all_eq_true]
  exact ⟨fun h r hr => by simpa using h r hr, fun h r hr => by simpa using h r hr⟩
theorem corners_iff {S : List Row} (p : PT) : p ∈ cornersP S ↔ (∃ r, r ∈ S.map r3 ∧ ∃ s, s ∈ S.map r3 ∧ dt r s ≠ 0 ∧ ev r p = r.l ∧ ev s p = s.l) ∧ ∀ r, r ∈ S.map r3 → ev r p ≤ r.l := by
  unfold cornersP
  rw [cornersN_mem]
  constructor
  · rintro ⟨i, j, r, s, _, _, e1, e2, d, e, hin⟩
    have hp := cross_on d
    rw [← e] at hp
    refine ⟨⟨r3 r, List.mem_map_of_mem (List.mem_of_getElem? e1), r3 s, List.mem_map_of_mem (List.mem_of_getElem? e2), by rw [dt_r3]; exact idet_ne d, hp.1, hp.2⟩, fun t ht => ?_⟩
    obtain ⟨t', h1, h2⟩ := List.mem_map.mp ht
    subst h2
    exact in_iff.mp hin t' h1
  · rintro ⟨⟨r, hr, s, hs, d, h1, h2⟩, hall⟩
    obtain ⟨r', hr', e1⟩ := List.mem_map.mp hr
    obtain ⟨s', hs', e2⟩ := List.mem_map.mp hs
    subst e1 e2
    have d' : idet r' s' ≠ 0 := fun c => d (by rw [dt_r3, c]; rfl)
    have ds : idet s' r' ≠ 0 := fun c => d' (by unfold idet at c ⊢; have := Int.mul_comm s'.a.a r'.a.b; have := Int.mul_comm s'.a.b r'.a.a; omega)
    have hin : inP S p = true := in_iff.mpr fun t ht => hall (r3 t) (List.mem_map_of_mem ht)
    obtain ⟨i, hi⟩ := List.mem_iff_getElem?.mp hr'
    obtain ⟨j, hj⟩ := List.mem_iff_getElem?.mp hs'
    have li := (List.getElem?_eq_some_iff.mp hi).1
    have lj := (List.getElem?_eq_some_iff.mp hj).1
    by_cases c : j < i
    · exact ⟨i, j, r', s', li, c, hi, hj, d', cross_uniq d' h1 h2, hin⟩
    · have ne : i ≠ j := fun z => by
        subst z
        rw [hi] at hj; cases hj
        exact d' (by unfold idet; have := Int.mul_comm r'.a.a r'.a.b; omega)
      exact ⟨j, i, s', r', lj, by omega, hj, hi, ds, cross_uniq ds h2 h1, hin⟩
/-! ### wide -/
def crossD (c p q : PT) : Bool := decide ((p.x - c.x) * (q.y - c.y) = (p.y - c.y) * (q.x - c.x))
def wideP (F : List PT) : Bool := match F with
  | [] => false
  | c :: _ => !(F.all fun p => F.all fun q => crossD c p q)
theorem ok_every {R S B α : Type} {step : Unit → α → Option (Out Unit Unit R)} {k : Unit → Option (Out S B R)} {v : R} (p : α → Bool) : ∀ {l : List α}, (∀ x, x ∈ l → step () x = some (if p x = true then .nx () else .rt v)) → bindOut (forL step () l) k = if l.all p = true then k () else some (.rt v)
  | [], _ => rfl
  | x :: l, h => by
    have h1 := h x (by simp)
    have ih := ok_every (k := k) p (l := l) fun y hy => h y (by simp [hy])
    unfold forL
    rw [h1]
    by_cases c : p x = true
    · rw [if_pos c, List.all_cons, c, Bool.true_and]; exact ih
    · rw [if_neg c, List.all_cons]; simp [c]
theorem all_pq {F : List PT} {g : PT → Bool} : (F.map pq).all (fun q => g (unq q)) = F.all g := by
  rw [List.all_map]
  congr 1
  funext q
  show g (unq (pq q)) = g q
  rw [unq_pq]
theorem diff_b {x y : Rat} (hx : Bq 12 x) (hy : Bq 12 y) : Bq 25 (x - y) := bq_sub hx hy
theorem is_wide_eq {F : List PT} (hF : ∀ p, p ∈ F → PB p) : m_is_wide (F.map pq) = some (wideP F) := by
  cases F with
  | nil => rfl
  | cons c F =>
    have hc := hF c (by simp)
    have a0 : atI ((c :: F).map pq) 0 = some (pq c) := atE (i := 0) rfl
    unfold m_is_wide b_is_wide
    rw [Option.bind_some, ok_every (v := true) (fun p => (c :: F).all fun q => crossD c (unq p) q)]
    · rw [all_pq (g := fun p => (c :: F).all fun q => crossD c p q)]
      show finO none (if ((c :: F).all fun p => (c :: F).all fun q => crossD c p q) = true then _ else _) = some (!((c :: F).all fun p => (c :: F).all fun q => crossD c p q))
      cases ((c :: F).all fun p => (c :: F).all fun q => crossD c p q) <;> rfl
    · intro y hy
      obtain ⟨p, hp, e⟩ := mem_pq hy
      subst e
      have pb := hF p hp
      rw [Option.bind_some, ok_every (v := true) (fun q => crossD c p (unq q))]
      · rw [all_pq (g := fun q => crossD c p q), unq_pq]
        split <;> rfl
      · intro z hz
        obtain ⟨q, hq, e⟩ := mem_pq hz
        subst e
        have qb := hF q hq
        rw [ok_iff]
        (try simp only [ok_some, ok_none, ok_bind, ok_lift1, ok_lift2, ok_lift3, ok_lift4, ok_bind2, ok_app1, ok_app2, ok_app3, ok_app4, ok_bif, ok_andG, ok_orG, ok_chain, ok_bindOut, bo_nx, bo_rt, bo_bk, bo_ct, ok_finO, fo_nx, fo_rt, nx_nx, nx_rt, ok_mul, ok_mod, ok_div, ok_appG, ok_szG, ok_catG, decide_eq_true_eq, decide_eq_false_iff_not, Bool.not_eq_true', Bool.not_eq_false', cLe, cLt, reduceCtorEq, false_implies, true_implies, implies_true, and_true, true_and, a0])
        refine ok_of (minus_eq pb.1 hc.1 (by decide)) (ok_of (minus_eq pb.2 hc.2 (by decide)) (ok_of (minus_eq qb.1 hc.1 (by decide)) (ok_of (minus_eq qb.2 hc.2 (by decide)) ?_)))
        refine ok_of (times_eq (diff_b pb.1 hc.1) (diff_b qb.2 hc.2) (by decide)) (ok_of (times_eq (diff_b pb.2 hc.2) (diff_b qb.1 hc.1) (by decide)) ?_)
        rw [unq_pq]
        unfold crossD
        rw [ofR_inj]
        (try simp only [ok_some, ok_none, ok_bind, ok_lift1, ok_lift2, ok_lift3, ok_lift4, ok_bind2, ok_app1, ok_app2, ok_app3, ok_app4, ok_bif, ok_andG, ok_orG, ok_chain, ok_bindOut, bo_nx, bo_rt, bo_bk, bo_ct, ok_finO, fo_nx, fo_rt, nx_nx, nx_rt, ok_mul, ok_mod, ok_div, ok_appG, ok_szG, ok_catG, decide_eq_true_eq, decide_eq_false_iff_not, Bool.not_eq_true', Bool.not_eq_false', cLe, cLt, reduceCtorEq, false_implies, true_implies, implies_true, and_true, true_and])
        exact ⟨fun h => by rw [if_neg (by simpa using h)], fun h => by rw [if_pos (by simpa using h)]⟩
theorem ratio_eq (a b c d : Rat) : a.num * d.num * b.den * c.den = b.num * c.num * a.den * d.den ↔ a * d = b * c := by
  have ha := den_ne a; have hb := den_ne b; have hc := den_ne c; have hd := den_ne d
  have q : ∀ x : Rat, (x.num : Rat) = x * ((x.den : Nat) : Rat) := fun x => by
    have := Rat.div_mul_cancel (a := (x.num : Rat)) (den_ne x)
    rw [num_den] at this; exact this.symm
  have e : ((a.num * d.num * b.den * c.den : Int) : Rat) = (a * d) * (((a.den : Nat) : Rat) * ((b.den : Nat) : Rat) * ((c.den : Nat) : Rat) * ((d.den : Nat) : Rat)) := by
    rw [Rat.intCast_mul, Rat.intCast_mul, Rat.intCast_mul, q a, q d]
    have c1 : ((b.den : Int) : Rat) = ((b.den : Nat) : Rat) := rfl
    have c2 : ((c.den : Int) : Rat) = ((c.den : Nat) : Rat) := rfl
    rw [c1, c2]; grind
  have e' : ((b.num * c.num * a.den * d.den : Int) : Rat) = (b * c) * (((a.den : Nat) : Rat) * ((b.den : Nat) : Rat) * ((c.den : Nat) : Rat) * ((d.den : Nat) : Rat)) := by
    rw [Rat.intCast_mul, Rat.intCast_mul, Rat.intCast_mul, q b, q c]
    have c1 : ((a.den : Int) : Rat) = ((a.den : Nat) : Rat) := rfl
    have c2 : ((d.den : Int) : Rat) = ((d.den : Nat) : Rat) := rfl
    rw [c1, c2]; grind
  have nz : ((a.den : Nat) : Rat) * ((b.den : Nat) : Rat) * ((c.den : Nat) : Rat) * ((d.den : Nat) : Rat) ≠ 0 := fun h => by
    rcases Rat.mul_eq_zero.mp h with h | h
    · rcases Rat.mul_eq_zero.mp h with h | h
      · rcases Rat.mul_eq_zero.mp h with h | h
        · exact ha h
        · exact hb h
      · exact hc h
    · exact hd h
  rw [← Rat.intCast_inj, e, e']
  constructor
  · intro h
    have : (a * d - b * c) * (((a.den : Nat) : Rat) * ((b.den : Nat) : Rat) * ((c.den : Nat) : Rat) * ((d.den : Nat) : Rat)) = 0 := by grind
    rcases Rat.mul_eq_zero.mp this with k | k
    · grind
    · exact absurd k nz
  · intro h; rw [h]
theorem law_diff {p c : Rat} (hp : Bq 12 p) (hc : Bq 12 c) : MulOk (ofR p).a (ofR c).b ∧ MulOk (ofR c).a (ofR p).b ∧ MulOk (ofR p).b (ofR c).b ∧ m__law_low ((ofR p).a * (ofR c).b - (ofR c).a * (ofR p).b) ((ofR p).b * (ofR c).b) = some (ofR (p - c)) := by
  obtain ⟨h1, h2, h3, _⟩ := cross hp hc (by decide)
  obtain ⟨p1, p2⟩ := den_bits hp hc
  refine ⟨h1, h2, h3, ?_⟩
  rw [law_low_eq p1 p2 (by decide), sub_frac]
theorem law_wide_eq {F : List PT} (hF : ∀ p, p ∈ F → PB p) : m__law_is_wide (F.map pq) = some (wideP F) := by
  cases F with
  | nil => rfl
  | cons c F =>
    have hc := hF c (by simp)
    have a0 : atI ((c :: F).map pq) 0 = some (pq c) := atE (i := 0) rfl
    have r2 : rng1 2 = some [0, 1] := by decide
    have row : ∀ p, p ∈ c :: F → (Option.bind (Option.bind (some (2 : Int)) rng1) (lcL (fun (x6 : Int) => (some true)) (fun (x6 : Int) => (app2 m__law_low (lift2 (· - ·) (bind2 mulG (lift1 T2.a (bind2 (fun t i => atI t.l i) (lift1 tp2 (some (pq p))) (some x6))) (lift1 T2.b (bind2 (fun t i => atI t.l i) (lift1 tp2 (bind2 atI (some ((c :: F).map pq)) (some (0 : Int)))) (some x6)))) (bind2 mulG (lift1 T2.a (bind2 (fun t i => atI t.l i) (lift1 tp2 (bind2 atI (some ((c :: F).map pq)) (some (0 : Int)))) (some x6))) (lift1 T2.b (bind2 (fun t i => atI t.l i) (lift1 tp2 (some (pq p))) (some x6))))) (bind2 mulG (lift1 T2.b (bind2 (fun t i => atI t.l i) (lift1 tp2 (some (pq p))) (some x6))) (lift1 T2.b (bind2 (fun t i => atI t.l i) (lift1 tp2 (bind2 atI (some ((c :: F).map pq)) (some (0 : Int)))) (some x6)))))))) = some [ofR (p.x - c.x), ofR (p.y - c.y)] := by
      intro p hp
      have pb := hF p hp
      rw [ok_iff]
      (try simp only [ok_some, ok_none, ok_bind, ok_lift1, ok_lift2, ok_lift3, ok_lift4, ok_bind2, ok_app1, ok_app2, ok_app3, ok_app4, ok_bif, ok_andG, ok_orG, ok_chain, ok_bindOut, bo_nx, bo_rt, bo_bk, bo_ct, ok_finO, fo_nx, fo_rt, nx_nx, nx_rt, ok_mul, ok_mod, ok_div, ok_appG, ok_szG, ok_catG, decide_eq_true_eq, decide_eq_false_iff_not, Bool.not_eq_true', Bool.not_eq_false', cLe, cLt, reduceCtorEq, false_implies, true_implies, implies_true, and_true, true_and, r2])
      refine ok_map (fun i : Int => if i = 0 then ofR (p.x - c.x) else ofR (p.y - c.y)) (fun i hi => ?_) (by simp)
      rw [ok_iff]
      have hi : i = 0 ∨ i = 1 := by simpa using hi
      rcases hi with h | h <;> subst h
      · have e1 : ∀ p : PT, atI (tp2 (pq p)).l 0 = some (ofR p.x) := fun _ => rfl
        obtain ⟨h1, h2, h3, h4⟩ := law_diff pb.1 hc.1
        (try simp only [ok_some, ok_none, ok_bind, ok_lift1, ok_lift2, ok_lift3, ok_lift4, ok_bind2, ok_app1, ok_app2, ok_app3, ok_app4, ok_bif, ok_andG, ok_orG, ok_chain, ok_bindOut, bo_nx, bo_rt, bo_bk, bo_ct, ok_finO, fo_nx, fo_rt, nx_nx, nx_rt, ok_mul, ok_mod, ok_div, ok_appG, ok_szG, ok_catG, decide_eq_true_eq, decide_eq_false_iff_not, Bool.not_eq_true', Bool.not_eq_false', cLe, cLt, reduceCtorEq, false_implies, true_implies, implies_true, and_true, true_and, a0, e1])
        exact ⟨h1, h2, h3, ok_of h4 rfl⟩
      · have e1 : ∀ p : PT, atI (tp2 (pq p)).l 1 = some (ofR p.y) := fun _ => rfl
        obtain ⟨h1, h2, h3, h4⟩ := law_diff pb.2 hc.2
        (try simp only [ok_some, ok_none, ok_bind, ok_lift1, ok_lift2, ok_lift3, ok_lift4, ok_bind2, ok_app1, ok_app2, ok_app3, ok_app4, ok_bif, ok_andG, ok_orG, ok_chain, ok_bindOut, bo_nx, bo_rt, bo_bk, bo_ct, ok_finO, fo_nx, fo_rt, nx_nx, nx_rt, ok_mul, ok_mod, ok_div, ok_appG, ok_szG, ok_catG, decide_eq_true_eq, decide_eq_false_iff_not, Bool.not_eq_true', Bool.not_eq_false', cLe, cLt, reduceCtorEq, false_implies, true_implies, implies_true, and_true, true_and, a0, e1])
        exact ⟨h1, h2, h3, ok_of h4 rfl⟩
    unfold m__law_is_wide b__law_is_wide
    rw [Option.bind_some, ok_every (v := true) (fun p => (c :: F).all fun q => crossD c (unq p) q)]
    · rw [all_pq (g := fun p => (c :: F).all fun q => crossD c p q)]
      show finO none (if ((c :: F).all fun p => (c :: F).all fun q => crossD c p q) = true then _ else _) = some (!((c :: F).all fun p => (c :: F).all fun q => crossD c p q))
      cases ((c :: F).all fun p => (c :: F).all fun q => crossD c p q) <;> rfl
    · intro y hy
      obtain ⟨p, hp, e⟩ := mem_pq hy
      subst e
      have pb := hF p hp
      rw [Option.bind_some, ok_every (v := true) (fun q => crossD c p (unq q))]
      · rw [all_pq (g := fun q => crossD c p q), unq_pq]
        split <;> rfl
      · intro z hz
        obtain ⟨q, hq, e⟩ := mem_pq hz
        subst e
        have qb := hF q hq
        rw [row p hp, row q hq]
        obtain ⟨x1, x2⟩ := diff_b pb.1 hc.1
        obtain ⟨y1, y2⟩ := diff_b pb.2 hc.2
        obtain ⟨z1, z2⟩ := diff_b qb.1 hc.1
        obtain ⟨w1, w2⟩ := diff_b qb.2 hc.2
        have i0 : ∀ a b : Q, atI [a, b] 0 = some a := fun _ _ => rfl
        have i1 : ∀ a b : Q, atI [a, b] 1 = some b := fun _ _ => rfl
        have mm : ∀ {a b : Int} {m n : Nat}, a.natAbs < 2 ^ m → b.natAbs < 2 ^ n → (a * b).natAbs < 2 ^ (m + n) := fun h1 h2 => by rw [Int.natAbs_mul]; exact lt_mul h1 h2
        have cd : ∀ (x : Rat) {k : Nat}, x.den < 2 ^ k → ((x.den : Nat) : Int).natAbs < 2 ^ k := fun x k h => by simpa using h
        rw [ok_iff]
        (try simp only [ok_some, ok_none, ok_bind, ok_lift1, ok_lift2, ok_lift3, ok_lift4, ok_bind2, ok_app1, ok_app2, ok_app3, ok_app4, ok_bif, ok_andG, ok_orG, ok_chain, ok_bindOut, bo_nx, bo_rt, bo_bk, bo_ct, ok_finO, fo_nx, fo_rt, nx_nx, nx_rt, ok_mul, ok_mod, ok_div, ok_appG, ok_szG, ok_catG, decide_eq_true_eq, decide_eq_false_iff_not, Bool.not_eq_true', Bool.not_eq_false', cLe, cLt, reduceCtorEq, false_implies, true_implies, implies_true, and_true, true_and, i0, i1, ofR_a, ofR_b])
        refine ⟨mulOk_bits x1 w1 (by decide), mulOk_bits (mm x1 w1) (cd _ y2) (by decide), mulOk_bits (mm (mm x1 w1) (cd _ y2)) (cd _ z2) (by decide), mulOk_bits y1 z1 (by decide), mulOk_bits (mm y1 z1) (cd _ x2) (by decide), mulOk_bits (mm (mm y1 z1) (cd _ x2)) (cd _ w2) (by decide), ?_⟩
        rw [unq_pq]
        unfold crossD
        rw [ratio_eq]
        exact ⟨fun h => by rw [if_neg (by simpa using h)], fun h => by rw [if_pos (by simpa using h)]⟩
end Lay.K36

set_option Elab.async false
set_option linter.all false
set_option maxRecDepth 100000
namespace Lay.K36
open PySem PySem.Spec PyProof.Rows L2 Lay
open Lay.Enc (enc)
theorem endless_eq {S : List Row} (h : SysOk S) : m_is_endless S = some false := by
  rw [ok_iff]
  unfold m_is_endless b_is_endless
  (try simp only [ok_some, ok_none, ok_bind, ok_lift1, ok_lift2, ok_lift3, ok_lift4, ok_bind2, ok_app1, ok_app2, ok_app3, ok_app4, ok_bif, ok_andG, ok_orG, ok_chain, ok_bindOut, bo_nx, bo_rt, bo_bk, bo_ct, ok_finO, fo_nx, fo_rt, nx_nx, nx_rt, ok_mul, ok_mod, ok_div, ok_appG, ok_szG, ok_catG, decide_eq_true_eq, decide_eq_false_iff_not, Bool.not_eq_true', Bool.not_eq_false', cLe, cLt, reduceCtorEq, false_implies, true_implies, implies_true, and_true, true_and])
  refine ok_for (fun _ _ => True) trivial (fun i s r hr _ => ?_) fun s _ => by (try simp only [ok_some, ok_none, ok_bind, ok_lift1, ok_lift2, ok_lift3, ok_lift4, ok_bind2, ok_app1, ok_app2, ok_app3, ok_app4, ok_bif, ok_andG, ok_orG, ok_chain, ok_bindOut, bo_nx, bo_rt, bo_bk, bo_ct, ok_finO, fo_nx, fo_rt, nx_nx, nx_rt, ok_mul, ok_mod, ok_div, ok_appG, ok_szG, ok_catG, decide_eq_true_eq, decide_eq_false_iff_not, Bool.not_eq_true', Bool.not_eq_false', cLe, cLt, reduceCtorEq, false_implies, true_implies, implies_true, and_true, true_and])
  have hrm := List.mem_of_getElem? hr
  have hn := (h.r r hrm).n
  have ra := (h.r r hrm).a
  have rb := (h.r r hrm).b
  (try simp only [ok_some, ok_none, ok_bind, ok_lift1, ok_lift2, ok_lift3, ok_lift4, ok_bind2, ok_app1, ok_app2, ok_app3, ok_app4, ok_bif, ok_andG, ok_orG, ok_chain, ok_bindOut, bo_nx, bo_rt, bo_bk, bo_ct, ok_finO, fo_nx, fo_rt, nx_nx, nx_rt, ok_mul, ok_mod, ok_div, ok_appG, ok_szG, ok_catG, decide_eq_true_eq, decide_eq_false_iff_not, Bool.not_eq_true', Bool.not_eq_false', cLe, cLt, reduceCtorEq, false_implies, true_implies, implies_true, and_true, true_and])
  refine ok_for (fun _ _ => True) trivial (fun j s y hy _ => ?_) fun s _ => by (try simp only [ok_some, ok_none, ok_bind, ok_lift1, ok_lift2, ok_lift3, ok_lift4, ok_bind2, ok_app1, ok_app2, ok_app3, ok_app4, ok_bif, ok_andG, ok_orG, ok_chain, ok_bindOut, bo_nx, bo_rt, bo_bk, bo_ct, ok_finO, fo_nx, fo_rt, nx_nx, nx_rt, ok_mul, ok_mod, ok_div, ok_appG, ok_szG, ok_catG, decide_eq_true_eq, decide_eq_false_iff_not, Bool.not_eq_true', Bool.not_eq_false', cLe, cLt, reduceCtorEq, false_implies, true_implies, implies_true, and_true, true_and])
  have hy' := List.mem_of_getElem? hy
  have hy2 : y = ⟨-r.a.b, r.a.a⟩ ∨ y = ⟨r.a.b, -r.a.a⟩ := by
    have : y ∈ [(⟨-r.a.b, r.a.a⟩ : T2 Int Int), ⟨r.a.b, -r.a.a⟩] := hy'
    simpa using this
  have ne : y.a ≠ 0 ∨ y.b ≠ 0 := by
    have : r.a.a ≠ 0 ∨ r.a.b ≠ 0 := by
      by_cases c : r.a.a = 0
      · right; intro d
        exact hn (by obtain ⟨⟨a, b⟩, l⟩ := r; simp at c d; rw [c, d])
      · exact .inl c
    rcases hy2 with e | e <;> subst e <;> simp <;> omega
  have yb : (-10 ≤ y.a ∧ y.a ≤ 10) ∧ (-10 ≤ y.b ∧ y.b ≤ 10) := by
    rcases hy2 with e | e <;> subst e <;> simp <;> omega
  (try simp only [ok_some, ok_none, ok_bind, ok_lift1, ok_lift2, ok_lift3, ok_lift4, ok_bind2, ok_app1, ok_app2, ok_app3, ok_app4, ok_bif, ok_andG, ok_orG, ok_chain, ok_bindOut, bo_nx, bo_rt, bo_bk, bo_ct, ok_finO, fo_nx, fo_rt, nx_nx, nx_rt, ok_mul, ok_mod, ok_div, ok_appG, ok_szG, ok_catG, decide_eq_true_eq, decide_eq_false_iff_not, Bool.not_eq_true', Bool.not_eq_false', cLe, cLt, reduceCtorEq, false_implies, true_implies, implies_true, and_true, true_and])
  refine ok_map (fun x : Row => decide (x.a.a * y.a + x.a.b * y.b ≤ 0)) (fun x hx => ?_) ?_
  · have xa := (h.r x hx).a
    have xb := (h.r x hx).b
    rw [ok_iff]
    (try simp only [ok_some, ok_none, ok_bind, ok_lift1, ok_lift2, ok_lift3, ok_lift4, ok_bind2, ok_app1, ok_app2, ok_app3, ok_app4, ok_bif, ok_andG, ok_orG, ok_chain, ok_bindOut, bo_nx, bo_rt, bo_bk, bo_ct, ok_finO, fo_nx, fo_rt, nx_nx, nx_rt, ok_mul, ok_mod, ok_div, ok_appG, ok_szG, ok_catG, decide_eq_true_eq, decide_eq_false_iff_not, Bool.not_eq_true', Bool.not_eq_false', cLe, cLt, reduceCtorEq, false_implies, true_implies, implies_true, and_true, true_and])
    exact ⟨mulOk (by omega) (by omega), mulOk (by omega) (by omega)⟩
  · have : (S.map fun x : Row => decide (x.a.a * y.a + x.a.b * y.b ≤ 0)).all id = false := by
      rw [List.all_map, List.all_eq_false]
      obtain ⟨x, hx, hp⟩ := h.b y.a y.b (ne.elim (fun n => .inl fun c => n (Rat.intCast_eq_zero_iff.mp c)) fun n => .inr fun c => n (Rat.intCast_eq_zero_iff.mp c))
      refine ⟨x, hx, ?_⟩
      rw [← Rat.intCast_mul, ← Rat.intCast_mul, ← Rat.intCast_add] at hp
      have hp := Rat.intCast_pos.mp hp
      simp only [Function.comp, id, decide_eq_true_eq]; omega
    rw [this]
    exact fun c => absurd c (by decide)
theorem check_eq {S : List Row} (h : SysOk S) (hw : wideP (cornersP S) = true) : m_check_system S = some () := by
  rw [ok_iff]
  unfold m_check_system b_check_system
  have hl := h.l
  (try simp only [ok_some, ok_none, ok_bind, ok_lift1, ok_lift2, ok_lift3, ok_lift4, ok_bind2, ok_app1, ok_app2, ok_app3, ok_app4, ok_bif, ok_andG, ok_orG, ok_chain, ok_bindOut, bo_nx, bo_rt, bo_bk, bo_ct, ok_finO, fo_nx, fo_rt, nx_nx, nx_rt, ok_mul, ok_mod, ok_div, ok_appG, ok_szG, ok_catG, decide_eq_true_eq, decide_eq_false_iff_not, Bool.not_eq_true', Bool.not_eq_false', cLe, cLt, reduceCtorEq, false_implies, true_implies, implies_true, and_true, true_and])
  refine ⟨fun _ => ⟨fun c => absurd c (by omega), fun _ => ?_⟩, fun c => absurd c (by omega)⟩
  refine ok_for (fun _ _ => True) trivial (fun i s y hy _ => ?_) fun s _ => ?_
  · have hi : i < S.length := by
      have := (List.getElem?_eq_some_iff.mp hy).1
      rw [enumL_length] at this; exact this
    have hr := List.getElem?_eq_getElem hi
    rw [enumL_get hr] at hy
    have hy := Option.some.inj hy
    subst hy
    have R := h.r _ (List.getElem_mem hi)
    generalize S[i] = r at hr R
    have ra := R.a; have rb := R.b; have rl := R.l
    (try simp only [ok_some, ok_none, ok_bind, ok_lift1, ok_lift2, ok_lift3, ok_lift4, ok_bind2, ok_app1, ok_app2, ok_app3, ok_app4, ok_bif, ok_andG, ok_orG, ok_chain, ok_bindOut, bo_nx, bo_rt, bo_bk, bo_ct, ok_finO, fo_nx, fo_rt, nx_nx, nx_rt, ok_mul, ok_mod, ok_div, ok_appG, ok_szG, ok_catG, decide_eq_true_eq, decide_eq_false_iff_not, Bool.not_eq_true', Bool.not_eq_false', cLe, cLt, reduceCtorEq, false_implies, true_implies, implies_true, and_true, true_and])
    refine ⟨fun c => absurd c R.n, fun _ => ok_map (fun x => true) (fun x hx => ?_) ?_⟩
    · have hx : x = r.a.a ∨ x = r.a.b := by
        have : x ∈ [r.a.a, r.a.b] := hx
        simpa using this
      rw [ok_iff]
      (try simp only [ok_some, ok_none, ok_bind, ok_lift1, ok_lift2, ok_lift3, ok_lift4, ok_bind2, ok_app1, ok_app2, ok_app3, ok_app4, ok_bif, ok_andG, ok_orG, ok_chain, ok_bindOut, bo_nx, bo_rt, bo_bk, bo_ct, ok_finO, fo_nx, fo_rt, nx_nx, nx_rt, ok_mul, ok_mod, ok_div, ok_appG, ok_szG, ok_catG, decide_eq_true_eq, decide_eq_false_iff_not, Bool.not_eq_true', Bool.not_eq_false', cLe, cLt, reduceCtorEq, false_implies, true_implies, implies_true, and_true, true_and])
      exact ⟨fun _ => by omega, fun c => absurd c (by omega)⟩
    · have : ((tp2 r.a).l.map fun _ => true).all id = true := by rw [List.all_map]; simp
      rw [this]
      (try simp only [ok_some, ok_none, ok_bind, ok_lift1, ok_lift2, ok_lift3, ok_lift4, ok_bind2, ok_app1, ok_app2, ok_app3, ok_app4, ok_bif, ok_andG, ok_orG, ok_chain, ok_bindOut, bo_nx, bo_rt, bo_bk, bo_ct, ok_finO, fo_nx, fo_rt, nx_nx, nx_rt, ok_mul, ok_mod, ok_div, ok_appG, ok_szG, ok_catG, decide_eq_true_eq, decide_eq_false_iff_not, Bool.not_eq_true', Bool.not_eq_false', cLe, cLt, reduceCtorEq, false_implies, true_implies, implies_true, and_true, true_and])
      exact ⟨fun _ c => absurd c (by omega), fun c => absurd c (by omega)⟩
  · (try simp only [ok_some, ok_none, ok_bind, ok_lift1, ok_lift2, ok_lift3, ok_lift4, ok_bind2, ok_app1, ok_app2, ok_app3, ok_app4, ok_bif, ok_andG, ok_orG, ok_chain, ok_bindOut, bo_nx, bo_rt, bo_bk, bo_ct, ok_finO, fo_nx, fo_rt, nx_nx, nx_rt, ok_mul, ok_mod, ok_div, ok_appG, ok_szG, ok_catG, decide_eq_true_eq, decide_eq_false_iff_not, Bool.not_eq_true', Bool.not_eq_false', cLe, cLt, reduceCtorEq, false_implies, true_implies, implies_true, and_true, true_and])
    refine ok_of (endless_eq h) ⟨fun c => absurd c (by decide), fun _ => ?_⟩
    refine ok_of (corners_of_eq h.l.2 h.r) (ok_of (is_wide_eq fun p hp => corners_pb h.r hp) ?_)
    rw [hw]
    exact fun c => absurd c (by decide)
theorem gains_eq {g : T2 Int Int} (ha : -12 ≤ g.a ∧ g.a ≤ 12) (hb : -12 ≤ g.b ∧ g.b ≤ 12) : m_check_gains g = some () := by
  rw [ok_iff]
  unfold m_check_gains b_check_gains
  have e : (tp2 g).l = [g.a, g.b] := rfl
  (try simp only [ok_some, ok_none, ok_bind, ok_lift1, ok_lift2, ok_lift3, ok_lift4, ok_bind2, ok_app1, ok_app2, ok_app3, ok_app4, ok_bif, ok_andG, ok_orG, ok_chain, ok_bindOut, bo_nx, bo_rt, bo_bk, bo_ct, ok_finO, fo_nx, fo_rt, nx_nx, nx_rt, ok_mul, ok_mod, ok_div, ok_appG, ok_szG, ok_catG, decide_eq_true_eq, decide_eq_false_iff_not, Bool.not_eq_true', Bool.not_eq_false', cLe, cLt, reduceCtorEq, false_implies, true_implies, implies_true, and_true, true_and, e])
  refine ⟨fun c => absurd rfl c, fun _ => ok_for (fun _ _ => True) trivial (fun i s y hy _ => ?_) fun _ _ => by (try simp only [ok_some, ok_none, ok_bind, ok_lift1, ok_lift2, ok_lift3, ok_lift4, ok_bind2, ok_app1, ok_app2, ok_app3, ok_app4, ok_bif, ok_andG, ok_orG, ok_chain, ok_bindOut, bo_nx, bo_rt, bo_bk, bo_ct, ok_finO, fo_nx, fo_rt, nx_nx, nx_rt, ok_mul, ok_mod, ok_div, ok_appG, ok_szG, ok_catG, decide_eq_true_eq, decide_eq_false_iff_not, Bool.not_eq_true', Bool.not_eq_false', cLe, cLt, reduceCtorEq, false_implies, true_implies, implies_true, and_true, true_and])⟩
  have hy : y = ⟨0, g.a⟩ ∨ y = ⟨1, g.b⟩ := by
    have : y ∈ [(⟨0, g.a⟩ : T2 Int Int), ⟨1, g.b⟩] := List.mem_of_getElem? hy
    simpa using this
  have : -12 ≤ y.b ∧ y.b ≤ 12 := by rcases hy with e | e <;> subst e <;> simp <;> omega
  (try simp only [ok_some, ok_none, ok_bind, ok_lift1, ok_lift2, ok_lift3, ok_lift4, ok_bind2, ok_app1, ok_app2, ok_app3, ok_app4, ok_bif, ok_andG, ok_orG, ok_chain, ok_bindOut, bo_nx, bo_rt, bo_bk, bo_ct, ok_finO, fo_nx, fo_rt, nx_nx, nx_rt, ok_mul, ok_mod, ok_div, ok_appG, ok_szG, ok_catG, decide_eq_true_eq, decide_eq_false_iff_not, Bool.not_eq_true', Bool.not_eq_false', cLe, cLt, reduceCtorEq, false_implies, true_implies, implies_true, and_true, true_and])
  exact ⟨fun _ c => absurd c (by omega), fun c => absurd c (by omega)⟩
/-- the greatest value at corners -/
structure IsMax (F : List PT) (g : T2 Int Int) (v : Rat) : Prop where
  ex : ∃ p, p ∈ F ∧ gat g p = v
  le : ∀ p, p ∈ F → gat g p ≤ v
theorem IsMax.uniq {F : List PT} {g : T2 Int Int} {v w : Rat} (h : IsMax F g v) (h' : IsMax F g w) : v = w := by
  obtain ⟨p, hp, e⟩ := h.ex
  obtain ⟨q, hq, e'⟩ := h'.ex
  have h1 := h.le q hq
  have h2 := h'.le p hp
  grind
theorem top_eq {S : List Row} (h : SysOk S) (hne : cornersP S ≠ []) {g : T2 Int Int} (hg : GB g) : ∃ p, p ∈ cornersP S ∧ IsMax (cornersP S) g (gat g p) ∧ m_top_of S g = some (some ⟨ofR (gat g p), pq p⟩) := by
  have key : Ok (m_top_of S g) fun r => ∃ p, p ∈ cornersP S ∧ IsMax (cornersP S) g (gat g p) ∧ r = some ⟨ofR (gat g p), pq p⟩ := by
    unfold m_top_of b_top_of
    have hF : ∀ p, p ∈ cornersP S → PB p := fun p hp => corners_pb h.r hp
    (try simp only [ok_some, ok_none, ok_bind, ok_lift1, ok_lift2, ok_lift3, ok_lift4, ok_bind2, ok_app1, ok_app2, ok_app3, ok_app4, ok_bif, ok_andG, ok_orG, ok_chain, ok_bindOut, bo_nx, bo_rt, bo_bk, bo_ct, ok_finO, fo_nx, fo_rt, nx_nx, nx_rt, ok_mul, ok_mod, ok_div, ok_appG, ok_szG, ok_catG, decide_eq_true_eq, decide_eq_false_iff_not, Bool.not_eq_true', Bool.not_eq_false', cLe, cLt, reduceCtorEq, false_implies, true_implies, implies_true, and_true, true_and])
    refine ok_of (corners_of_eq h.l.2 h.r) ?_
    generalize cornersP S = F at hF hne
    refine ok_for (fun i s => (i = 0 ∧ s = none) ∨ ∃ p, p ∈ F ∧ s = some ⟨ofR (gat g p), pq p⟩ ∧ ∀ q, q ∈ F.take i → gat g q ≤ gat g p) (.inl ⟨rfl, rfl⟩) (fun i s y hy hs => ?_) fun s hs => ?_
    · rw [List.getElem?_map] at hy
      cases c : F[i]? with
      | none => rw [c] at hy; cases hy
      | some q =>
        rw [c] at hy; cases hy
        have hq := List.mem_of_getElem? c
        have tk := take1 c
        (try simp only [ok_some, ok_none, ok_bind, ok_lift1, ok_lift2, ok_lift3, ok_lift4, ok_bind2, ok_app1, ok_app2, ok_app3, ok_app4, ok_bif, ok_andG, ok_orG, ok_chain, ok_bindOut, bo_nx, bo_rt, bo_bk, bo_ct, ok_finO, fo_nx, fo_rt, nx_nx, nx_rt, ok_mul, ok_mod, ok_div, ok_appG, ok_szG, ok_catG, decide_eq_true_eq, decide_eq_false_iff_not, Bool.not_eq_true', Bool.not_eq_false', cLe, cLt, reduceCtorEq, false_implies, true_implies, implies_true, and_true, true_and])
        refine ok_of (sum_at2_eq hg (hF q hq)) ?_
        rcases hs with ⟨e1, e2⟩ | ⟨p, hp, e, hm⟩
        · subst e1 e2
          (try simp only [ok_some, ok_none, ok_bind, ok_lift1, ok_lift2, ok_lift3, ok_lift4, ok_bind2, ok_app1, ok_app2, ok_app3, ok_app4, ok_bif, ok_andG, ok_orG, ok_chain, ok_bindOut, bo_nx, bo_rt, bo_bk, bo_ct, ok_finO, fo_nx, fo_rt, nx_nx, nx_rt, ok_mul, ok_mod, ok_div, ok_appG, ok_szG, ok_catG, decide_eq_true_eq, decide_eq_false_iff_not, Bool.not_eq_true', Bool.not_eq_false', cLe, cLt, reduceCtorEq, false_implies, true_implies, implies_true, and_true, true_and, Option.isNone_none])
          refine .inr ⟨q, hq, rfl, fun x hx => ?_⟩
          rw [tk] at hx
          have hx : x = q := by simpa using hx
          subst hx; exact Rat.le_refl
        · subst e
          (try simp only [ok_some, ok_none, ok_bind, ok_lift1, ok_lift2, ok_lift3, ok_lift4, ok_bind2, ok_app1, ok_app2, ok_app3, ok_app4, ok_bif, ok_andG, ok_orG, ok_chain, ok_bindOut, bo_nx, bo_rt, bo_bk, bo_ct, ok_finO, fo_nx, fo_rt, nx_nx, nx_rt, ok_mul, ok_mod, ok_div, ok_appG, ok_szG, ok_catG, decide_eq_true_eq, decide_eq_false_iff_not, Bool.not_eq_true', Bool.not_eq_false', cLe, cLt, reduceCtorEq, false_implies, true_implies, implies_true, and_true, true_and, Option.isNone_some, id])
          refine ok_of (is_less_eq (gat_b hg (hF p hp)) (gat_b hg (hF q hq)) (by decide)) ?_
          (try simp only [ok_some, ok_none, ok_bind, ok_lift1, ok_lift2, ok_lift3, ok_lift4, ok_bind2, ok_app1, ok_app2, ok_app3, ok_app4, ok_bif, ok_andG, ok_orG, ok_chain, ok_bindOut, bo_nx, bo_rt, bo_bk, bo_ct, ok_finO, fo_nx, fo_rt, nx_nx, nx_rt, ok_mul, ok_mod, ok_div, ok_appG, ok_szG, ok_catG, decide_eq_true_eq, decide_eq_false_iff_not, Bool.not_eq_true', Bool.not_eq_false', cLe, cLt, reduceCtorEq, false_implies, true_implies, implies_true, and_true, true_and])
          refine ⟨fun lt => .inr ⟨q, hq, rfl, fun x hx => ?_⟩, fun ge => .inr ⟨p, hp, rfl, fun x hx => ?_⟩⟩
          · rw [tk, List.mem_append, List.mem_singleton] at hx
            rcases hx with hx | hx
            · have := hm x hx; grind
            · subst hx; exact Rat.le_refl
          · rw [tk, List.mem_append, List.mem_singleton] at hx
            rcases hx with hx | hx
            · exact hm x hx
            · subst hx; exact Rat.not_lt.mp ge
    · (try simp only [ok_some, ok_none, ok_bind, ok_lift1, ok_lift2, ok_lift3, ok_lift4, ok_bind2, ok_app1, ok_app2, ok_app3, ok_app4, ok_bif, ok_andG, ok_orG, ok_chain, ok_bindOut, bo_nx, bo_rt, bo_bk, bo_ct, ok_finO, fo_nx, fo_rt, nx_nx, nx_rt, ok_mul, ok_mod, ok_div, ok_appG, ok_szG, ok_catG, decide_eq_true_eq, decide_eq_false_iff_not, Bool.not_eq_true', Bool.not_eq_false', cLe, cLt, reduceCtorEq, false_implies, true_implies, implies_true, and_true, true_and])
      rw [List.length_map] at hs
      rcases hs with ⟨e1, _⟩ | ⟨p, hp, e, hm⟩
      · exact absurd (List.length_eq_zero_iff.mp e1) hne
      · rw [List.take_length] at hm
        exact ⟨p, hp, ⟨⟨p, hp, rfl⟩, hm⟩, e⟩
  obtain ⟨r, e, p, hp, hm, e2⟩ := key
  exact ⟨p, hp, hm, by rw [e, e2]⟩
theorem law_value_eq {F : List PT} (hF : ∀ p, p ∈ F → PB p) (hne : F ≠ []) {g : T2 Int Int} (hg : GB g) {v : Rat} (hv : IsMax F g v) : m__law_value (F.map pq) g = some (ofR v) := by
  have key : Ok (m__law_value (F.map pq) g) fun r => ∃ w, IsMax F g w ∧ r = ofR w := by
    unfold m__law_value b__law_value
    cases F with
    | nil => exact absurd rfl hne
    | cons c F =>
      have hc := hF c (by simp)
      have a0 : atI ((c :: F).map pq) 0 = some (pq c) := atE (i := 0) rfl
      (try simp only [ok_some, ok_none, ok_bind, ok_lift1, ok_lift2, ok_lift3, ok_lift4, ok_bind2, ok_app1, ok_app2, ok_app3, ok_app4, ok_bif, ok_andG, ok_orG, ok_chain, ok_bindOut, bo_nx, bo_rt, bo_bk, bo_ct, ok_finO, fo_nx, fo_rt, nx_nx, nx_rt, ok_mul, ok_mod, ok_div, ok_appG, ok_szG, ok_catG, decide_eq_true_eq, decide_eq_false_iff_not, Bool.not_eq_true', Bool.not_eq_false', cLe, cLt, reduceCtorEq, false_implies, true_implies, implies_true, and_true, true_and, a0])
      refine ok_of (law_at_eq hg hc) ?_
      refine ok_for (fun i s => ∃ p, p ∈ c :: F ∧ s = ofR (gat g p) ∧ ∀ q, q ∈ (c :: F).take i → gat g q ≤ gat g p) ⟨c, by simp, rfl, by simp⟩ (fun i s y hy hs => ?_) fun s hs => ?_
      · obtain ⟨p, hp, e, hm⟩ := hs
        subst e
        rw [List.getElem?_map] at hy
        cases k : (c :: F)[i]? with
        | none => rw [k] at hy; cases hy
        | some q =>
          rw [k] at hy; cases hy
          have hq := List.mem_of_getElem? k
          have tk := take1 k
          (try simp only [ok_some, ok_none, ok_bind, ok_lift1, ok_lift2, ok_lift3, ok_lift4, ok_bind2, ok_app1, ok_app2, ok_app3, ok_app4, ok_bif, ok_andG, ok_orG, ok_chain, ok_bindOut, bo_nx, bo_rt, bo_bk, bo_ct, ok_finO, fo_nx, fo_rt, nx_nx, nx_rt, ok_mul, ok_mod, ok_div, ok_appG, ok_szG, ok_catG, decide_eq_true_eq, decide_eq_false_iff_not, Bool.not_eq_true', Bool.not_eq_false', cLe, cLt, reduceCtorEq, false_implies, true_implies, implies_true, and_true, true_and])
          refine ok_of (law_at_eq hg (hF q hq)) ⟨by simp, ok_of (law_less_eq (gat_b hg (hF p hp)) (gat_b hg (hF q hq)) (by decide)) ?_⟩
          by_cases lt : gat g p < gat g q
          · rw [decide_eq_true lt, if_pos rfl, show atI [ofR (gat g p), ofR (gat g q)] 1 = some (ofR (gat g q)) from rfl]
            (try simp only [ok_some, ok_none, ok_bind, ok_lift1, ok_lift2, ok_lift3, ok_lift4, ok_bind2, ok_app1, ok_app2, ok_app3, ok_app4, ok_bif, ok_andG, ok_orG, ok_chain, ok_bindOut, bo_nx, bo_rt, bo_bk, bo_ct, ok_finO, fo_nx, fo_rt, nx_nx, nx_rt, ok_mul, ok_mod, ok_div, ok_appG, ok_szG, ok_catG, decide_eq_true_eq, decide_eq_false_iff_not, Bool.not_eq_true', Bool.not_eq_false', cLe, cLt, reduceCtorEq, false_implies, true_implies, implies_true, and_true, true_and])
            refine ⟨q, hq, rfl, fun x hx => ?_⟩
            rw [tk, List.mem_append, List.mem_singleton] at hx
            rcases hx with hx | hx
            · have := hm x hx; grind
            · subst hx; exact Rat.le_refl
          · rw [decide_eq_false lt, if_neg (by decide), show atI [ofR (gat g p), ofR (gat g q)] 0 = some (ofR (gat g p)) from rfl]
            (try simp only [ok_some, ok_none, ok_bind, ok_lift1, ok_lift2, ok_lift3, ok_lift4, ok_bind2, ok_app1, ok_app2, ok_app3, ok_app4, ok_bif, ok_andG, ok_orG, ok_chain, ok_bindOut, bo_nx, bo_rt, bo_bk, bo_ct, ok_finO, fo_nx, fo_rt, nx_nx, nx_rt, ok_mul, ok_mod, ok_div, ok_appG, ok_szG, ok_catG, decide_eq_true_eq, decide_eq_false_iff_not, Bool.not_eq_true', Bool.not_eq_false', cLe, cLt, reduceCtorEq, false_implies, true_implies, implies_true, and_true, true_and])
            refine ⟨p, hp, rfl, fun x hx => ?_⟩
            rw [tk, List.mem_append, List.mem_singleton] at hx
            rcases hx with hx | hx
            · exact hm x hx
            · subst hx; exact Rat.not_lt.mp lt
      · obtain ⟨p, hp, e, hm⟩ := hs
        (try simp only [ok_some, ok_none, ok_bind, ok_lift1, ok_lift2, ok_lift3, ok_lift4, ok_bind2, ok_app1, ok_app2, ok_app3, ok_app4, ok_bif, ok_andG, ok_orG, ok_chain, ok_bindOut, bo_nx, bo_rt, bo_bk, bo_ct, ok_finO, fo_nx, fo_rt, nx_nx, nx_rt, ok_mul, ok_mod, ok_div, ok_appG, ok_szG, ok_catG, decide_eq_true_eq, decide_eq_false_iff_not, Bool.not_eq_true', Bool.not_eq_false', cLe, cLt, reduceCtorEq, false_implies, true_implies, implies_true, and_true, true_and])
        rw [List.length_map, List.take_length] at hm
        exact ⟨_, ⟨⟨p, hp, rfl⟩, hm⟩, e⟩
  obtain ⟨r, e, w, hw, e2⟩ := key
  rw [e, e2, hv.uniq hw]
/-- what is known of a system that was checked -/
structure Good (S : List Row) : Prop where
  s : SysOk S
  w : wideP (cornersP S) = true
theorem Good.ne {S : List Row} (h : Good S) : cornersP S ≠ [] := fun c => by have := h.w; rw [c] at this; cases this
theorem Good.pb {S : List Row} (h : Good S) : ∀ p, p ∈ cornersP S → PB p := fun _ hp => corners_pb h.s.r hp
def G12 (g : T2 Int Int) : Prop := (-12 ≤ g.a ∧ g.a ≤ 12) ∧ (-12 ≤ g.b ∧ g.b ≤ 12)
theorem G12.gb {g : T2 Int Int} (h : G12 g) : GB g := by unfold G12 at h; exact ⟨by omega, by omega⟩
theorem value_eq {S : List Row} (h : Good S) {g : T2 Int Int} (hg : G12 g) {v : Rat} (hv : IsMax (cornersP S) g v) : m_value S g = some (ofR v) := by
  obtain ⟨p, hp, hm, e⟩ := top_eq h.s h.ne hg.gb
  rw [ok_iff]
  unfold m_value b_value
  (try simp only [ok_some, ok_none, ok_bind, ok_lift1, ok_lift2, ok_lift3, ok_lift4, ok_bind2, ok_app1, ok_app2, ok_app3, ok_app4, ok_bif, ok_andG, ok_orG, ok_chain, ok_bindOut, bo_nx, bo_rt, bo_bk, bo_ct, ok_finO, fo_nx, fo_rt, nx_nx, nx_rt, ok_mul, ok_mod, ok_div, ok_appG, ok_szG, ok_catG, decide_eq_true_eq, decide_eq_false_iff_not, Bool.not_eq_true', Bool.not_eq_false', cLe, cLt, reduceCtorEq, false_implies, true_implies, implies_true, and_true, true_and])
  refine ok_of (check_eq h.s h.w) (ok_of (gains_eq hg.1 hg.2) ?_)
  rw [e]
  (try simp only [ok_some, ok_none, ok_bind, ok_lift1, ok_lift2, ok_lift3, ok_lift4, ok_bind2, ok_app1, ok_app2, ok_app3, ok_app4, ok_bif, ok_andG, ok_orG, ok_chain, ok_bindOut, bo_nx, bo_rt, bo_bk, bo_ct, ok_finO, fo_nx, fo_rt, nx_nx, nx_rt, ok_mul, ok_mod, ok_div, ok_appG, ok_szG, ok_catG, decide_eq_true_eq, decide_eq_false_iff_not, Bool.not_eq_true', Bool.not_eq_false', cLe, cLt, reduceCtorEq, false_implies, true_implies, implies_true, and_true, true_and, id])
  rw [hm.uniq hv]
theorem max_ex {S : List Row} (h : Good S) (g : T2 Int Int) : ∃ v, IsMax (cornersP S) g v := by
  obtain ⟨p, hp, hm⟩ := min_of (fun p => - gat g p) (cornersP S) h.ne
  exact ⟨gat g p, ⟨p, hp, rfl⟩, fun q hq => by have := hm q hq; grind⟩
end Lay.K36

set_option Elab.async false
set_option linter.all false
set_option maxRecDepth 100000
namespace Lay.K36
open PySem PySem.Spec PyProof.Rows L2 Lay
open Lay.Enc (enc)
/-! ### prices -/
theorem ok_find {R α : Type} {step : Unit → α → Option (Out Unit Unit R)} (T : α → Prop) (W : R → Prop) : ∀ {l : List α}, (∀ x, x ∈ l → Ok (step () x) fun o => (o = .nx () ∧ ¬ T x) ∨ ∃ r, o = .rt r ∧ W r) →
    Ok (forL (B := Unit) step () l) fun o => (o = .nx () ∧ ∀ x, x ∈ l → ¬ T x) ∨ ∃ r, o = .rt r ∧ W r
  | [], _ => ⟨.nx (), rfl, .inl ⟨rfl, by simp⟩⟩
  | x :: l, h => by
    have h1 := h x (by simp)
    have ih := ok_find (step := step) T W (l := l) fun y hy => h y (by simp [hy])
    obtain ⟨o, e, q⟩ := h1
    unfold forL
    rw [e]
    rcases q with ⟨e2, nt⟩ | ⟨r, e2, w⟩
    · subst e2
      refine ok_mono ih fun o q => ?_
      rcases q with ⟨e3, k⟩ | k
      · refine .inl ⟨e3, fun y hy => ?_⟩
        rcases List.mem_cons.mp hy with z | z
        · subst z; exact nt
        · exact k y z
      · exact .inr k
    · subst e2
      exact ⟨.rt r, rfl, .inr ⟨r, rfl, w⟩⟩
def tightB (S : List Row) (p : PT) : List Int := ((enumL S).filter fun y => decide (gat y.b.a p = (y.b.b : Rat))).map T2.a
theorem tight_mem {S : List Row} {p : PT} {i : Int} : i ∈ tightB S p ↔ ∃ r, atI S i = some r ∧ 0 ≤ i ∧ i < S.length ∧ gat r.a p = (r.b : Rat) := by
  unfold tightB
  rw [List.mem_map]
  constructor
  · rintro ⟨y, hy, rfl⟩
    obtain ⟨h1, h2⟩ := List.mem_filter.mp hy
    obtain ⟨k, hk⟩ := List.mem_iff_getElem?.mp h1
    have hi : k < S.length := by
      have := (List.getElem?_eq_some_iff.mp hk).1
      rw [enumL_length] at this; exact this
    have hr := List.getElem?_eq_getElem hi
    rw [enumL_get hr] at hk
    have hk := Option.some.inj hk
    subst hk
    exact ⟨_, atE hr, by show (0 : Int) ≤ (k : Int); omega, by show (k : Int) < _; omega, by simpa using h2⟩
  · rintro ⟨r, e, h0, h1, h2⟩
    rw [atI_eq h0 h1] at e
    refine ⟨⟨i, r⟩, List.mem_filter.mpr ⟨?_, by simpa using h2⟩, rfl⟩
    have := enumL_get e
    rw [Int.toNat_of_nonneg h0] at this
    exact List.mem_of_getElem? this
theorem tight_eq {S : List Row} (hS : ∀ r, r ∈ S → RowOk r) {p : PT} (hp : PB p) : m_tight_at S (pq p) = some (tightB S p) := by
  rw [ok_iff]
  unfold m_tight_at b_tight_at
  (try simp only [ok_some, ok_none, ok_bind, ok_lift1, ok_lift2, ok_lift3, ok_lift4, ok_bind2, ok_app1, ok_app2, ok_app3, ok_app4, ok_bif, ok_andG, ok_orG, ok_chain, ok_bindOut, bo_nx, bo_rt, bo_bk, bo_ct, ok_finO, fo_nx, fo_rt, nx_nx, nx_rt, ok_mul, ok_mod, ok_div, ok_appG, ok_szG, ok_catG, decide_eq_true_eq, decide_eq_false_iff_not, Bool.not_eq_true', Bool.not_eq_false', cLe, cLt, reduceCtorEq, false_implies, true_implies, implies_true, and_true, true_and])
  refine ok_lc (fun y : T2 Int Row => decide (gat y.b.a p = (y.b.b : Rat))) T2.a (fun y hy => ?_) (fun y hy _ => rfl) rfl
  obtain ⟨k, hk⟩ := List.mem_iff_getElem?.mp hy
  have hi : k < S.length := by
    have := (List.getElem?_eq_some_iff.mp hk).1
    rw [enumL_length] at this; exact this
  have hr := List.getElem?_eq_getElem hi
  rw [enumL_get hr] at hk
  have hk := Option.some.inj hk
  subst hk
  rw [ok_iff]
  (try simp only [ok_some, ok_none, ok_bind, ok_lift1, ok_lift2, ok_lift3, ok_lift4, ok_bind2, ok_app1, ok_app2, ok_app3, ok_app4, ok_bif, ok_andG, ok_orG, ok_chain, ok_bindOut, bo_nx, bo_rt, bo_bk, bo_ct, ok_finO, fo_nx, fo_rt, nx_nx, nx_rt, ok_mul, ok_mod, ok_div, ok_appG, ok_szG, ok_catG, decide_eq_true_eq, decide_eq_false_iff_not, Bool.not_eq_true', Bool.not_eq_false', cLe, cLt, reduceCtorEq, false_implies, true_implies, implies_true, and_true, true_and])
  refine ok_of (sum_at2_eq (hS _ (List.getElem_mem hi)).gb hp) ?_
  rw [int_q]
  exact decide_eq_decide.mpr ofR_inj

/-! ### the ends of a corner's cone -/
theorem gcd_posN {x : Z2} (h : x ≠ o2) : 0 < gcdI x.a x.b := by
  unfold gcdI
  have : Nat.gcd x.a.natAbs x.b.natAbs ≠ 0 := fun c => by
    rw [Nat.gcd_eq_zero_iff] at c
    exact h (z2_ext (by show x.a = 0; omega) (by show x.b = 0; omega))
  omega
def primZ (x : Z2) : Z2 := ⟨x.a / gcdI x.a x.b, x.b / gcdI x.a x.b⟩
theorem primZ_eq {x : Z2} (h : x ≠ o2) : x = sc (gcdI x.a x.b) (primZ x) ∧ prim (primZ x) := by
  have g := gcd_posN h
  obtain ⟨⟨a, ha⟩, ⟨b, hb⟩⟩ := gcd_dvd (n := x.a) (d := x.b)
  have gn : gcdI x.a x.b ≠ 0 := by omega
  have e1 : x.a / gcdI x.a x.b = a := by
    conv => lhs; lhs; rw [ha]
    exact Int.mul_ediv_cancel_left _ gn
  have e2 : x.b / gcdI x.a x.b = b := by
    conv => lhs; lhs; rw [hb]
    exact Int.mul_ediv_cancel_left _ gn
  have ep : primZ x = ⟨a, b⟩ := by unfold primZ; rw [e1, e2]
  rw [ep]
  refine ⟨z2_ext ha hb, ?_⟩
  have n1 : x.a.natAbs = (gcdI x.a x.b).natAbs * a.natAbs := by conv => lhs; rw [ha, Int.natAbs_mul]
  have n2 : x.b.natAbs = (gcdI x.a x.b).natAbs * b.natAbs := by conv => lhs; rw [hb, Int.natAbs_mul]
  have n3 : (gcdI x.a x.b).natAbs = Nat.gcd x.a.natAbs x.b.natAbs := by unfold gcdI; rw [Int.natAbs_natCast]
  have n4 : Nat.gcd x.a.natAbs x.b.natAbs = (gcdI x.a x.b).natAbs * Nat.gcd a.natAbs b.natAbs := by
    rw [n1, n2, Nat.gcd_mul_left]
  rw [← n3] at n4
  have pos : 0 < (gcdI x.a x.b).natAbs := by omega
  show Nat.gcd a.natAbs b.natAbs = 1
  exact Nat.eq_of_mul_eq_mul_left pos (by omega)
theorem ray_eq {x y : Z2} (px : prim x) (py : prim y) (h : sd x y = 0) : y = x ∨ y = sc (-1) x := by
  obtain ⟨k, e⟩ := on_ray px h
  subst e
  have : Nat.gcd (k * x.a).natAbs (k * x.b).natAbs = 1 := py
  rw [Int.natAbs_mul, Int.natAbs_mul, Nat.gcd_mul_left, show Nat.gcd x.a.natAbs x.b.natAbs = 1 from px] at this
  have : k = 1 ∨ k = -1 := by omega
  rcases this with c | c <;> subst c
  · exact .inl (z2_ext (by show 1 * x.a = x.a; omega) (by show 1 * x.b = x.b; omega))
  · exact .inr rfl
theorem sd_scale {k m : Int} (hk : 0 < k) (hm : 0 < m) (x y : Z2) : 0 ≤ sd (sc k x) (sc m y) ↔ 0 ≤ sd x y := by
  rw [sd_sc_l, sd_sc_r]
  constructor
  · intro h
    by_cases c : 0 ≤ sd x y
    · exact c
    · have h1 : m * sd x y < 0 := Int.mul_neg_of_pos_of_neg hm (by omega)
      have h2 : k * (m * sd x y) < 0 := Int.mul_neg_of_pos_of_neg hk h1
      omega
  · intro h
    exact Int.mul_nonneg (Int.le_of_lt hk) (Int.mul_nonneg (Int.le_of_lt hm) h)
theorem sd_scale_pos {k m : Int} (hk : 0 < k) (hm : 0 < m) (x y : Z2) : 0 < sd (sc k x) (sc m y) ↔ 0 < sd x y := by
  have h1 := sd_scale hk hm x y
  have h2 := sd_scale hm hk y x
  rw [sd_anti x y, sd_anti (sc k x) (sc m y)] at h2
  omega
structure Ends (S : List Row) (p : PT) (e : T2 Z2 Z2) : Prop where
  pa : prim e.a
  pb : prim e.b
  pos : 0 < sd e.a e.b
  ra : ∃ r, r ∈ S ∧ gat r.a p = (r.b : Rat) ∧ ∃ k : Int, 0 < k ∧ r.a = sc k e.a
  rb : ∃ r, r ∈ S ∧ gat r.a p = (r.b : Rat) ∧ ∃ k : Int, 0 < k ∧ r.a = sc k e.b
  ct : ∀ t, t ∈ S → gat t.a p = (t.b : Rat) → Cone e.a e.b t.a
  ba : (-10 ≤ e.a.a ∧ e.a.a ≤ 10) ∧ (-10 ≤ e.a.b ∧ e.a.b ≤ 10)
  bb : (-10 ≤ e.b.a ∧ e.b.a ≤ 10) ∧ (-10 ≤ e.b.b ∧ e.b.b ≤ 10)
theorem ends_uniq {S S' : List Row} {p : PT} {e e' : T2 Z2 Z2} (h : Ends S p e) (h' : Ends S' p e') (c : ∀ t, t ∈ S' → gat t.a p = (t.b : Rat) → Cone e.a e.b t.a)
    (ia : ∃ r, r ∈ S' ∧ gat r.a p = (r.b : Rat) ∧ ∃ k : Int, 0 < k ∧ r.a = sc k e.a) (ib : ∃ r, r ∈ S' ∧ gat r.a p = (r.b : Rat) ∧ ∃ k : Int, 0 < k ∧ r.a = sc k e.b) : e' = e := by
  obtain ⟨r, hr, rp, k, hk, re⟩ := ia
  obtain ⟨s, hs, sp, m, hm, se⟩ := ib
  obtain ⟨r', hr', rp', k', hk', re'⟩ := h'.ra
  obtain ⟨s', hs', sp', m', hm', se'⟩ := h'.rb
  have unit : ∀ x : Z2, sc 1 x = x := fun x => z2_ext (by show 1 * x.a = x.a; omega) (by show 1 * x.b = x.b; omega)
  have a1 := (h'.ct r hr rp).f
  have a2 := (c r' hr' rp').f
  have a3 := (c r' hr' rp').l
  have b1 := (h'.ct s hs sp).l
  have b2 := (c s' hs' sp').l
  have b3 := (c s' hs' sp').f
  rw [re, ← unit e'.a, sd_scale (by decide) hk] at a1
  rw [re', ← unit e.a, sd_scale (by decide) hk'] at a2
  rw [re', ← unit e.b, sd_scale hk' (by decide)] at a3
  rw [se, ← unit e'.b, sd_scale hm (by decide)] at b1
  rw [se', ← unit e.b, sd_scale hm' (by decide)] at b2
  rw [se', ← unit e.a, sd_scale (by decide) hm'] at b3
  have pos := h.pos
  have ea : e'.a = e.a := by
    have z : sd e.a e'.a = 0 := by rw [sd_anti] at a1; omega
    rcases ray_eq h.pa h'.pa z with q | q
    · exact q
    · rw [q, sd_sc_l] at a3; omega
  have eb : e'.b = e.b := by
    have z : sd e.b e'.b = 0 := by rw [sd_anti] at b2; omega
    rcases ray_eq h.pb h'.pb z with q | q
    · exact q
    · rw [q, sd_sc_r] at b3; omega
  obtain ⟨x, y⟩ := e'
  obtain ⟨u, v⟩ := e
  simp at ea eb
  rw [ea, eb]
theorem row_ne {r : Row} (h : RowOk r) : r.a ≠ o2 := h.n
theorem nz_r3 {S : List Row} (h : SysOk S) : ∀ t, t ∈ S.map r3 → t.a ≠ 0 ∨ t.b ≠ 0 := fun t ht => by
  obtain ⟨r, hr, z⟩ := List.mem_map.mp ht
  subst z
  have n := (h.r r hr).n
  by_cases c : r.a.a = 0
  · refine .inr fun c2 => n ?_
    have c2 : r.a.b = 0 := Rat.intCast_eq_zero_iff.mp c2
    obtain ⟨⟨a, b⟩, l⟩ := r
    simp at c c2
    rw [c, c2]
  · exact .inl fun c2 => c (Rat.intCast_eq_zero_iff.mp c2)
theorem bd_r3 {S : List Row} (h : SysOk S) : ∀ x y : Rat, (x ≠ 0 ∨ y ≠ 0) → ∃ r, r ∈ S.map r3 ∧ 0 < r.a * x + r.b * y := fun x y hxy =>
  let ⟨r, hr, z⟩ := h.b x y hxy; ⟨r3 r, List.mem_map_of_mem hr, z⟩
theorem wide_ex {S : List Row} (h : Good S) : ∃ c0 c1 c2, c0 ∈ cornersP S ∧ c1 ∈ cornersP S ∧ c2 ∈ cornersP S ∧ (c1.x - c0.x) * (c2.y - c0.y) ≠ (c1.y - c0.y) * (c2.x - c0.x) := by
  have wd := h.w
  unfold wideP at wd
  cases hF : cornersP S with
  | nil => rw [hF] at wd; cases wd
  | cons c F =>
    rw [hF] at wd
    have wd : ((c :: F).all fun p => (c :: F).all fun q => crossD c p q) = false := by simpa only [Bool.not_eq_true'] using wd
    rw [List.all_eq_false] at wd
    obtain ⟨p1, h1, w1⟩ := wd
    have w1 : ((c :: F).all fun q => crossD c p1 q) = false := by simpa only [Bool.not_eq_true] using w1
    rw [List.all_eq_false] at w1
    obtain ⟨p2, h2, w2⟩ := w1
    exact ⟨c, p1, p2, by simp, h1, h2, by unfold crossD at w2; simpa using w2⟩
theorem dt_sd (r s : Row) : dt (r3 r) (r3 s) = ((sd r.a s.a : Int) : Rat) := dt_r3 r s
theorem ext_ex {S : List Row} (h : Good S) {p : PT} (hp : p ∈ cornersP S) : ∃ r s, r ∈ S ∧ s ∈ S ∧ gat r.a p = (r.b : Rat) ∧ gat s.a p = (s.b : Rat) ∧ 0 < sd r.a s.a ∧ ∀ t, t ∈ S → gat t.a p = (t.b : Rat) → Cone r.a s.a t.a := by
  obtain ⟨r, hr, s, hs, e1, e2, d, ex⟩ := extremes (S := S.map r3) (C := fun p => p ∈ cornersP S) corners_iff (nz_r3 h.s) (wide_ex h) hp
  obtain ⟨r', hr', z⟩ := List.mem_map.mp hr
  subst z
  obtain ⟨s', hs', z⟩ := List.mem_map.mp hs
  subst z
  refine ⟨r', s', hr', hs', e1, e2, ?_, fun t ht et => ?_⟩
  · rw [dt_sd] at d; exact Rat.intCast_pos.mp d
  · obtain ⟨h1, h2⟩ := ex (r3 t) (List.mem_map_of_mem ht) et
    rw [dt_sd] at h1 h2
    exact ⟨Rat.intCast_nonneg.mp h1, Rat.intCast_nonneg.mp h2⟩
/-- gains that are greatest at p lie in its cone -/
theorem max_cone {S : List Row} (h : Good S) {p : PT} (hp : p ∈ cornersP S) {e : T2 Z2 Z2} (he : Ends S p e) {g : Z2} (mx : ∀ q, q ∈ cornersP S → gat g q ≤ gat g p) : Cone e.a e.b g := by
  obtain ⟨r, hr, rp, k, hk, re⟩ := he.ra
  obtain ⟨s, hs, sp, m, hm, se⟩ := he.rb
  have unit : ∀ x : Z2, sc 1 x = x := fun x => z2_ext (by show 1 * x.a = x.a; omega) (by show 1 * x.b = x.b; omega)
  obtain ⟨n1, n2⟩ := normal (S := S.map r3) (C := fun p => p ∈ cornersP S) corners_iff (nz_r3 h.s) (bd_r3 h.s) hp (g0 := (g.a : Rat)) (g1 := (g.b : Rat)) (fun q hq => mx q hq) (List.mem_map_of_mem hr) (List.mem_map_of_mem hs) rp sp fun t ht et => by
    obtain ⟨t', ht', z⟩ := List.mem_map.mp ht
    subst z
    have c := he.ct t' ht' et
    rw [dt_sd, dt_sd]
    refine ⟨Rat.intCast_nonneg.mpr ?_, Rat.intCast_nonneg.mpr ?_⟩
    · rw [re, ← unit t'.a, sd_scale hk (by decide)]; exact c.f
    · rw [se, ← unit t'.a, sd_scale (by decide) hm]; exact c.l
  have n1 : 0 ≤ (g.a : Rat) * (s.a.b : Rat) - (g.b : Rat) * (s.a.a : Rat) := n1
  have n2 : 0 ≤ (g.b : Rat) * (r.a.a : Rat) - (g.a : Rat) * (r.a.b : Rat) := n2
  rw [← Rat.intCast_mul, ← Rat.intCast_mul, ← Rat.intCast_sub] at n1 n2
  have n1 : 0 ≤ sd g s.a := Rat.intCast_nonneg.mp n1
  have n2 : 0 ≤ sd r.a g := by
    have := Rat.intCast_nonneg.mp n2
    unfold sd
    rw [Int.mul_comm r.a.a, Int.mul_comm r.a.b]; exact this
  rw [se, ← unit g, sd_scale (by decide) hm] at n1
  rw [re, ← unit g, sd_scale hk (by decide)] at n2
  exact ⟨n2, n1⟩
/-- and the other way round -/
theorem cone_max {S : List Row} {p : PT} {e : T2 Z2 Z2} (he : Ends S p e) {g : Z2} (hg : Cone e.a e.b g) {q : PT} (hq : ∀ r, r ∈ S → gat r.a q ≤ (r.b : Rat)) : gat g q ≤ gat g p := by
  obtain ⟨r, hr, rp, k, hk, re⟩ := he.ra
  obtain ⟨s, hs, sp, m, hm, se⟩ := he.rb
  have h1 := hq r hr
  have h2 := hq s hs
  rw [← rp] at h1
  rw [← sp] at h2
  have sg : ∀ (k : Int) (x : Z2) (y : PT), gat (sc k x) y = (k : Rat) * gat x y := fun k x y => by
    unfold gat sc
    simp only [Rat.intCast_mul]; grind
  rw [re, sg, sg] at h1
  rw [se, sg, sg] at h2
  have hk' : (0 : Rat) < (k : Rat) := Rat.intCast_pos.mpr hk
  have hm' : (0 : Rat) < (m : Rat) := Rat.intCast_pos.mpr hm
  have cancel : ∀ {c x y : Rat}, 0 < c → c * x ≤ c * y → x ≤ y := fun {c x y} hc h => Rat.le_of_mul_le_mul_left h hc
  have h1 := cancel hk' h1
  have h2 := cancel hm' h2
  -- d g = side(g, l) f + side(f, g) l
  have idn : ((sd e.a e.b : Int) : Rat) * gat g q - ((sd e.a e.b : Int) : Rat) * gat g p = ((sd g e.b : Int) : Rat) * (gat e.a q - gat e.a p) + ((sd e.a g : Int) : Rat) * (gat e.b q - gat e.b p) := by
    unfold gat sd
    simp only [Rat.intCast_sub, Rat.intCast_mul]; grind
  have d : (0 : Rat) < ((sd e.a e.b : Int) : Rat) := Rat.intCast_pos.mpr he.pos
  have a1 := Rat.mul_le_mul_of_nonneg_left (show gat e.a q - gat e.a p ≤ 0 by grind) (Rat.intCast_nonneg.mpr hg.l)
  have a2 := Rat.mul_le_mul_of_nonneg_left (show gat e.b q - gat e.b p ≤ 0 by grind) (Rat.intCast_nonneg.mpr hg.f)
  refine cancel d ?_
  grind
end Lay.K36

set_option Elab.async false
set_option linter.all false
set_option maxRecDepth 100000
namespace Lay.K36
open PySem PySem.Spec PyProof.Rows L2 Lay
open Lay.Enc (enc)
def SB (x : Z2) : Prop := (-100 ≤ x.a ∧ x.a ≤ 100) ∧ (-100 ≤ x.b ∧ x.b ≤ 100)
theorem side_eq {x y : Z2} (hx : SB x) (hy : SB y) : m_side x y = some (sd x y) := by
  obtain ⟨⟨_, _⟩, _, _⟩ := hx
  obtain ⟨⟨_, _⟩, _, _⟩ := hy
  rw [ok_iff]
  unfold m_side b_side
  (try simp only [ok_some, ok_none, ok_bind, ok_lift1, ok_lift2, ok_lift3, ok_lift4, ok_bind2, ok_app1, ok_app2, ok_app3, ok_app4, ok_bif, ok_andG, ok_orG, ok_chain, ok_bindOut, bo_nx, bo_rt, bo_bk, bo_ct, ok_finO, fo_nx, fo_rt, nx_nx, nx_rt, ok_mul, ok_mod, ok_div, ok_appG, ok_szG, ok_catG, decide_eq_true_eq, decide_eq_false_iff_not, Bool.not_eq_true', Bool.not_eq_false', cLe, cLt, reduceCtorEq, false_implies, true_implies, implies_true, and_true, true_and])
  exact ⟨mulOk (by omega) (by omega), mulOk (by omega) (by omega), rfl⟩
theorem law_side_eq {x y : Z2} (hx : SB x) (hy : SB y) : m__law_side x y = some (sd x y) := by
  obtain ⟨⟨_, _⟩, _, _⟩ := hx
  obtain ⟨⟨_, _⟩, _, _⟩ := hy
  rw [ok_iff]
  unfold m__law_side b__law_side
  (try simp only [ok_some, ok_none, ok_bind, ok_lift1, ok_lift2, ok_lift3, ok_lift4, ok_bind2, ok_app1, ok_app2, ok_app3, ok_app4, ok_bif, ok_andG, ok_orG, ok_chain, ok_bindOut, bo_nx, bo_rt, bo_bk, bo_ct, ok_finO, fo_nx, fo_rt, nx_nx, nx_rt, ok_mul, ok_mod, ok_div, ok_appG, ok_szG, ok_catG, decide_eq_true_eq, decide_eq_false_iff_not, Bool.not_eq_true', Bool.not_eq_false', cLe, cLt, reduceCtorEq, false_implies, true_implies, implies_true, and_true, true_and])
  exact ⟨mulOk (by omega) (by omega), mulOk (by omega) (by omega), rfl⟩
theorem row_sb {r : Row} (h : RowOk r) : SB r.a := ⟨by have := h.a; omega, by have := h.b; omega⟩
theorem primZ_b {r : Row} (h : RowOk r) : (-10 ≤ (primZ r.a).a ∧ (primZ r.a).a ≤ 10) ∧ (-10 ≤ (primZ r.a).b ∧ (primZ r.a).b ≤ 10) := by
  have g := gcd_posN (row_ne h)
  obtain ⟨e, _⟩ := primZ_eq (row_ne h)
  have ea : r.a.a = gcdI r.a.a r.a.b * (primZ r.a).a := congrArg T2.a e
  have eb : r.a.b = gcdI r.a.a r.a.b * (primZ r.a).b := congrArg T2.b e
  have ha := h.a
  have hb := h.b
  generalize gcdI r.a.a r.a.b = G at *
  have key : ∀ x y : Int, x = G * y → (-10 ≤ x ∧ x ≤ 10) → -10 ≤ y ∧ y ≤ 10 := fun x y e b => by
    have n : x.natAbs = G.natAbs * y.natAbs := by rw [e, Int.natAbs_mul]
    have : 1 * y.natAbs ≤ G.natAbs * y.natAbs := Nat.mul_le_mul_right _ (by omega)
    omega
  exact ⟨key _ _ ea ha, key _ _ eb hb⟩
def ownL (S : List Row) (p : PT) : List Z2 := (tightB S p).map fun i => primZ (S.getD i.toNat ⟨⟨0, 0⟩, 0⟩).a
theorem own_mem {S : List Row} {p : PT} {x : Z2} : x ∈ ownL S p ↔ ∃ r, r ∈ S ∧ gat r.a p = (r.b : Rat) ∧ x = primZ r.a := by
  unfold ownL
  rw [List.mem_map]
  constructor
  · rintro ⟨i, hi, rfl⟩
    obtain ⟨r, e, h0, h1, h2⟩ := tight_mem.mp hi
    have := atD (⟨⟨0, 0⟩, 0⟩ : Row) h0 h1
    rw [e] at this
    have := Option.some.inj this
    exact ⟨r, by rw [atI_eq h0 h1] at e; exact List.mem_of_getElem? e, h2, by rw [← this]⟩
  · rintro ⟨r, hr, h2, rfl⟩
    obtain ⟨i, hi⟩ := List.mem_iff_getElem?.mp hr
    have li := (List.getElem?_eq_some_iff.mp hi).1
    refine ⟨(i : Int), tight_mem.mpr ⟨r, atE hi, by omega, by omega, h2⟩, ?_⟩
    rw [Int.toNat_natCast, List.getD_eq_getElem?_getD, hi]; rfl
theorem tight_len {S : List Row} {p : PT} : (tightB S p).length ≤ S.length := by
  unfold tightB
  rw [List.length_map]
  exact Nat.le_trans (List.length_filter_le _ _) (by rw [enumL_length]; exact Nat.le_refl _)
theorem ends_ok {S : List Row} (h : Good S) {p : PT} (hp : p ∈ cornersP S) : Ok (m_ends_of S (pq p)) (Ends S p) := by
  have pb := h.pb p hp
  obtain ⟨r, s, hr, hs, er, es, pos, ext⟩ := ext_ex h hp
  have R := h.s.r r hr
  have T := h.s.r s hs
  have own : ∀ x, x ∈ ownL S p → SB x ∧ prim x ∧ ∃ t, t ∈ S ∧ gat t.a p = (t.b : Rat) ∧ x = primZ t.a ∧ ∃ k : Int, 0 < k ∧ t.a = sc k x := fun x hx => by
    obtain ⟨t, ht, et, e⟩ := own_mem.mp hx
    have B := primZ_b (h.s.r t ht)
    obtain ⟨e1, e2⟩ := primZ_eq (row_ne (h.s.r t ht))
    subst e
    exact ⟨⟨by omega, by omega⟩, e2, t, ht, et, rfl, _, gcd_posN (row_ne (h.s.r t ht)), e1⟩
  have mr : primZ r.a ∈ ownL S p := own_mem.mpr ⟨r, hr, er, rfl⟩
  have ms : primZ s.a ∈ ownL S p := own_mem.mpr ⟨s, hs, es, rfl⟩
  obtain ⟨r1, r2⟩ := primZ_eq (row_ne R)
  obtain ⟨s1, s2⟩ := primZ_eq (row_ne T)
  have gr := gcd_posN (row_ne R)
  have gs := gcd_posN (row_ne T)
  have pos' : 0 < sd (primZ r.a) (primZ s.a) := by rw [r1, s1, sd_scale_pos gr gs] at pos; exact pos
  have ext' : ∀ x, x ∈ ownL S p → Cone (primZ r.a) (primZ s.a) x := fun x hx => by
    obtain ⟨_, _, t, ht, et, _, k, hk, e⟩ := own x hx
    have c := ext t ht et
    have c1 := c.f
    have c2 := c.l
    rw [r1, e, sd_scale gr hk] at c1
    rw [s1, e, sd_scale hk gs] at c2
    exact ⟨c1, c2⟩
  unfold m_ends_of b_ends_of
  (try simp only [ok_some, ok_none, ok_bind, ok_lift1, ok_lift2, ok_lift3, ok_lift4, ok_bind2, ok_app1, ok_app2, ok_app3, ok_app4, ok_bif, ok_andG, ok_orG, ok_chain, ok_bindOut, bo_nx, bo_rt, bo_bk, bo_ct, ok_finO, fo_nx, fo_rt, nx_nx, nx_rt, ok_mul, ok_mod, ok_div, ok_appG, ok_szG, ok_catG, decide_eq_true_eq, decide_eq_false_iff_not, Bool.not_eq_true', Bool.not_eq_false', cLe, cLt, reduceCtorEq, false_implies, true_implies, implies_true, and_true, true_and])
  refine ⟨by simp, ok_of (tight_eq h.s.r pb) (ok_for (fun i st => st = (ownL S p).take i) rfl (fun i st y hy hst => ?_) fun st hst => ?_)⟩
  · subst hst
    have hi := (List.getElem?_eq_some_iff.mp hy).1
    have hm := List.mem_of_getElem? hy
    obtain ⟨t, e, h0, h1, h2⟩ := tight_mem.mp hm
    have tm : t ∈ S := by rw [atI_eq h0 h1] at e; exact List.mem_of_getElem? e
    have B := h.s.r t tm
    have g := gcd_posN (row_ne B)
    have gl : gcdI t.a.a t.a.b ≤ 1000 := by
      obtain ⟨q, _⟩ := primZ_eq (row_ne B)
      have ea : t.a.a = gcdI t.a.a t.a.b * (primZ t.a).a := congrArg T2.a q
      have eb : t.a.b = gcdI t.a.a t.a.b * (primZ t.a).b := congrArg T2.b q
      have n : (primZ t.a).a ≠ 0 ∨ (primZ t.a).b ≠ 0 := by
        by_cases c : (primZ t.a).a = 0
        · refine .inr fun d => row_ne B (z2_ext ?_ ?_)
          · rw [ea, c]; show _ = (0 : Int); omega
          · rw [eb, d]; show _ = (0 : Int); omega
        · exact .inl c
      have ba := B.a
      have bb := B.b
      generalize gcdI t.a.a t.a.b = G at *
      rcases n with n | n
      · have : t.a.a.natAbs = G.natAbs * (primZ t.a).a.natAbs := by conv => lhs; rw [ea, Int.natAbs_mul]
        have : G.natAbs * 1 ≤ G.natAbs * (primZ t.a).a.natAbs := Nat.mul_le_mul_left _ (by omega)
        omega
      · have : t.a.b.natAbs = G.natAbs * (primZ t.a).b.natAbs := by conv => lhs; rw [eb, Int.natAbs_mul]
        have : G.natAbs * 1 ≤ G.natAbs * (primZ t.a).b.natAbs := Nat.mul_le_mul_left _ (by omega)
        omega
    have dok := divOk g (by omega)
    have tl := tight_len (S := S) (p := p)
    have sl := h.s.l
    have nx : (ownL S p)[i]? = some (primZ t.a) := by
      unfold ownL
      rw [List.getElem?_map, hy]
      have := atD (⟨⟨0, 0⟩, 0⟩ : Row) h0 h1
      rw [e] at this
      have := Option.some.inj this
      show some (primZ (S.getD y.toNat ⟨⟨0, 0⟩, 0⟩).a) = _
      rw [← this]
    (try simp only [ok_some, ok_none, ok_bind, ok_lift1, ok_lift2, ok_lift3, ok_lift4, ok_bind2, ok_app1, ok_app2, ok_app3, ok_app4, ok_bif, ok_andG, ok_orG, ok_chain, ok_bindOut, bo_nx, bo_rt, bo_bk, bo_ct, ok_finO, fo_nx, fo_rt, nx_nx, nx_rt, ok_mul, ok_mod, ok_div, ok_appG, ok_szG, ok_catG, decide_eq_true_eq, decide_eq_false_iff_not, Bool.not_eq_true', Bool.not_eq_false', cLe, cLt, reduceCtorEq, false_implies, true_implies, implies_true, and_true, true_and])
    refine ok_of e ?_
    refine ⟨dok, dok, ?_, ?_⟩
    · rw [List.length_take]; omega
    · rw [take1 nx]; rfl
  · subst hst
    have full : (ownL S p).take (tightB S p).length = ownL S p := by
      rw [List.take_of_length_le]; unfold ownL; rw [List.length_map]; exact Nat.le_refl _
    rw [full]
    have sides : ∀ x, x ∈ ownL S p → ∀ y, y ∈ ownL S p → m_side x y = some (sd x y) := fun x hx y hy => side_eq (own x hx).1 (own y hy).1
    -- what is first, what is last
    have firstIs : ∀ x, x ∈ ownL S p → (∀ y, y ∈ ownL S p → 0 ≤ sd x y) → x = primZ r.a := fun x hx hall => by
      have a := hall _ mr
      have b := (ext' x hx).f
      have c := hall _ ms
      rcases ray_eq r2 (own x hx).2.1 (show sd (primZ r.a) x = 0 by rw [sd_anti] at a; omega) with q | q
      · exact q
      · rw [q, sd_sc_l] at c; omega
    have lastIs : ∀ x, x ∈ ownL S p → (∀ y, y ∈ ownL S p → 0 ≤ sd y x) → x = primZ s.a := fun x hx hall => by
      have a := hall _ ms
      have b := (ext' x hx).l
      have c := hall _ mr
      rcases ray_eq s2 (own x hx).2.1 (show sd (primZ s.a) x = 0 by rw [sd_anti] at b; omega) with q | q
      · exact q
      · rw [q, sd_sc_r] at c; omega
    have pick : ∀ (g : Z2 → Bool) (v : Z2), v ∈ ownL S p → g v = true → (∀ x, x ∈ ownL S p → g x = true → x = v) → ∀ P : Z2 → Prop, P v → Ok (atI ((ownL S p).filter g) 0) P := fun g v hv gv uniq P hP => by
      have mem : v ∈ (ownL S p).filter g := List.mem_filter.mpr ⟨hv, gv⟩
      have pos : 0 < ((ownL S p).filter g).length := List.length_pos_of_mem mem
      refine ok_atI (by decide) (by omega) fun x _ hx => ?_
      obtain ⟨h1, h2⟩ := List.mem_filter.mp hx
      rw [uniq x h1 h2]; exact hP
    (try simp only [ok_some, ok_none, ok_bind, ok_lift1, ok_lift2, ok_lift3, ok_lift4, ok_bind2, ok_app1, ok_app2, ok_app3, ok_app4, ok_bif, ok_andG, ok_orG, ok_chain, ok_bindOut, bo_nx, bo_rt, bo_bk, bo_ct, ok_finO, fo_nx, fo_rt, nx_nx, nx_rt, ok_mul, ok_mod, ok_div, ok_appG, ok_szG, ok_catG, decide_eq_true_eq, decide_eq_false_iff_not, Bool.not_eq_true', Bool.not_eq_false', cLe, cLt, reduceCtorEq, false_implies, true_implies, implies_true, and_true, true_and])
    refine ok_filter (fun x => (ownL S p).all fun y => decide (0 ≤ sd x y)) (fun x hx => ?_) ?_
    · rw [ok_iff]
      (try simp only [ok_some, ok_none, ok_bind, ok_lift1, ok_lift2, ok_lift3, ok_lift4, ok_bind2, ok_app1, ok_app2, ok_app3, ok_app4, ok_bif, ok_andG, ok_orG, ok_chain, ok_bindOut, bo_nx, bo_rt, bo_bk, bo_ct, ok_finO, fo_nx, fo_rt, nx_nx, nx_rt, ok_mul, ok_mod, ok_div, ok_appG, ok_szG, ok_catG, decide_eq_true_eq, decide_eq_false_iff_not, Bool.not_eq_true', Bool.not_eq_false', cLe, cLt, reduceCtorEq, false_implies, true_implies, implies_true, and_true, true_and])
      refine ok_map (fun y => decide (0 ≤ sd x y)) (fun y hy => ?_) (by rw [List.all_map]; rfl)
      rw [ok_iff]
      (try simp only [ok_some, ok_none, ok_bind, ok_lift1, ok_lift2, ok_lift3, ok_lift4, ok_bind2, ok_app1, ok_app2, ok_app3, ok_app4, ok_bif, ok_andG, ok_orG, ok_chain, ok_bindOut, bo_nx, bo_rt, bo_bk, bo_ct, ok_finO, fo_nx, fo_rt, nx_nx, nx_rt, ok_mul, ok_mod, ok_div, ok_appG, ok_szG, ok_catG, decide_eq_true_eq, decide_eq_false_iff_not, Bool.not_eq_true', Bool.not_eq_false', cLe, cLt, reduceCtorEq, false_implies, true_implies, implies_true, and_true, true_and])
      exact ok_of (sides x hx y hy) rfl
    refine pick _ (primZ r.a) mr ?_ ?_ _ ?_
    · rw [List.all_eq_true]; intro y hy; simpa using (ext' y hy).f
    · intro x hx hg
      rw [List.all_eq_true] at hg
      exact firstIs x hx fun y hy => by simpa using hg y hy
    refine ok_filter (fun x => (ownL S p).all fun y => decide (0 ≤ sd y x)) (fun x hx => ?_) ?_
    · rw [ok_iff]
      (try simp only [ok_some, ok_none, ok_bind, ok_lift1, ok_lift2, ok_lift3, ok_lift4, ok_bind2, ok_app1, ok_app2, ok_app3, ok_app4, ok_bif, ok_andG, ok_orG, ok_chain, ok_bindOut, bo_nx, bo_rt, bo_bk, bo_ct, ok_finO, fo_nx, fo_rt, nx_nx, nx_rt, ok_mul, ok_mod, ok_div, ok_appG, ok_szG, ok_catG, decide_eq_true_eq, decide_eq_false_iff_not, Bool.not_eq_true', Bool.not_eq_false', cLe, cLt, reduceCtorEq, false_implies, true_implies, implies_true, and_true, true_and])
      refine ok_map (fun y => decide (0 ≤ sd y x)) (fun y hy => ?_) (by rw [List.all_map]; rfl)
      rw [ok_iff]
      (try simp only [ok_some, ok_none, ok_bind, ok_lift1, ok_lift2, ok_lift3, ok_lift4, ok_bind2, ok_app1, ok_app2, ok_app3, ok_app4, ok_bif, ok_andG, ok_orG, ok_chain, ok_bindOut, bo_nx, bo_rt, bo_bk, bo_ct, ok_finO, fo_nx, fo_rt, nx_nx, nx_rt, ok_mul, ok_mod, ok_div, ok_appG, ok_szG, ok_catG, decide_eq_true_eq, decide_eq_false_iff_not, Bool.not_eq_true', Bool.not_eq_false', cLe, cLt, reduceCtorEq, false_implies, true_implies, implies_true, and_true, true_and])
      exact ok_of (sides y hy x hx) rfl
    refine pick _ (primZ s.a) ms ?_ ?_ _ ?_
    · rw [List.all_eq_true]; intro y hy; simpa using (ext' y hy).l
    · intro x hx hg
      rw [List.all_eq_true] at hg
      exact lastIs x hx fun y hy => by simpa using hg y hy
    refine ⟨r2, s2, pos', ⟨r, hr, er, _, gr, r1⟩, ⟨s, hs, es, _, gs, s1⟩, fun t ht et => ?_, primZ_b R, primZ_b T⟩
    obtain ⟨t1, _⟩ := primZ_eq (row_ne (h.s.r t ht))
    have c := ext' _ (own_mem.mpr ⟨t, ht, et, rfl⟩)
    have gt := gcd_posN (row_ne (h.s.r t ht))
    have unit : ∀ x : Z2, sc 1 x = x := fun x => z2_ext (by show 1 * x.a = x.a; omega) (by show 1 * x.b = x.b; omega)
    refine ⟨?_, ?_⟩
    · rw [t1, ← unit (primZ r.a), sd_scale (by decide) gt]; exact c.f
    · rw [t1, ← unit (primZ s.a), sd_scale gt (by decide)]; exact c.l
end Lay.K36

set_option Elab.async false
set_option linter.all false
set_option maxRecDepth 100000
namespace Lay.K36
open PySem PySem.Spec PyProof.Rows L2 Lay
open Lay.Enc (enc)
structure EB (e : T2 Z2 Z2) : Prop where
  pa : prim e.a
  pb : prim e.b
  pos : 0 < sd e.a e.b
  ba : (-10 ≤ e.a.a ∧ e.a.a ≤ 10) ∧ (-10 ≤ e.a.b ∧ e.a.b ≤ 10)
  bb : (-10 ≤ e.b.a ∧ e.b.a ≤ 10) ∧ (-10 ≤ e.b.b ∧ e.b.b ≤ 10)
theorem Ends.eb {S : List Row} {p : PT} {e : T2 Z2 Z2} (h : Ends S p e) : EB e := ⟨h.pa, h.pb, h.pos, h.ba, h.bb⟩
/-- what plain_of tells -/
structure Plain (e : T2 Z2 Z2) (l : List Z2) : Prop where
  c : ∀ z, z ∈ l → Cone e.a e.b z ∧ z ≠ o2 ∧ (-20 ≤ z.a ∧ z.a ≤ 20) ∧ (-20 ≤ z.b ∧ z.b ≤ 20)
  i : ∀ z, Irr e.a e.b z → z ∈ l
  n : l.Nodup
  l : l.length ≤ 1681
theorem minL_ok {l : List Int} (h : l ≠ []) {P : Int → Prop} (hp : ∀ m, m ∈ l → (∀ x, x ∈ l → m ≤ x) → P m) : Ok (minL l) P := by
  cases l with
  | nil => exact absurd rfl h
  | cons x xs =>
    have e : minL (x :: xs) = some (xs.foldl (fun m y => if y < m then y else m) x) := rfl
    obtain ⟨h1, h2⟩ := minL_spec e
    exact ok_of e (hp _ h1 h2)
theorem in_cone_eq {e : T2 Z2 Z2} (h : EB e) {z : Z2} (hz : SB z) : m_in_cone e z = some (decide (0 ≤ sd e.a z) && decide (0 ≤ sd z e.b)) := by
  have ba := h.ba; have bb := h.bb
  have sa : SB e.a := ⟨by omega, by omega⟩
  have sb : SB e.b := ⟨by omega, by omega⟩
  rw [ok_iff]
  unfold m_in_cone b_in_cone
  (try simp only [ok_some, ok_none, ok_bind, ok_lift1, ok_lift2, ok_lift3, ok_lift4, ok_bind2, ok_app1, ok_app2, ok_app3, ok_app4, ok_bif, ok_andG, ok_orG, ok_chain, ok_bindOut, bo_nx, bo_rt, bo_bk, bo_ct, ok_finO, fo_nx, fo_rt, nx_nx, nx_rt, ok_mul, ok_mod, ok_div, ok_appG, ok_szG, ok_catG, decide_eq_true_eq, decide_eq_false_iff_not, Bool.not_eq_true', Bool.not_eq_false', cLe, cLt, reduceCtorEq, false_implies, true_implies, implies_true, and_true, true_and])
  refine ok_of (side_eq sa hz) ⟨fun c => ok_of (side_eq hz sb) ?_, fun c => ?_⟩
  · rw [decide_eq_true c]; simp
  · rw [decide_eq_false c]; simp
def goodZ (e : T2 Z2 Z2) (z : Z2) : Prop := z ≠ o2 ∧ (0 ≤ sd z e.b ∧ sd z e.b ≤ sd e.a e.b) ∧ (0 ≤ sd e.a z ∧ sd e.a z ≤ sd e.a e.b)
def plB (e : T2 Z2 Z2) (F : List Z2) (z : Z2) : Bool := !((F.filter fun w => !decide (w = z)).any fun w => !decide (sb z w = o2) && (decide (0 ≤ sd e.a (sb z w)) && decide (0 ≤ sd (sb z w) e.b)))
theorem coef {f l z : Z2} : sd f l * z.a = sd z l * f.a + sd f z * l.a ∧ sd f l * z.b = sd z l * f.b + sd f z * l.b := by
  unfold sd; constructor <;> grind
theorem part {d a x m : Int} (ha : 0 ≤ a) (hd : a ≤ d) (hm : m ≤ 0) (hx : m ≤ x) : d * m ≤ a * x := by
  have h1 : a * m ≤ a * x := Int.mul_le_mul_of_nonneg_left hx ha
  have h2 : d * m ≤ a * m := Int.mul_le_mul_of_nonpos_right hd hm
  omega
theorem part' {d a x m : Int} (ha : 0 ≤ a) (hd : a ≤ d) (hm : 0 ≤ m) (hx : x ≤ m) : a * x ≤ d * m := by
  have h1 : a * x ≤ a * m := Int.mul_le_mul_of_nonneg_left hx ha
  have h2 : a * m ≤ d * m := Int.mul_le_mul_of_nonneg_right hd hm
  omega
theorem box1 {d a b x y z lo hi : Int} (hd : 0 < d) (ha : 0 ≤ a ∧ a ≤ d) (hb : 0 ≤ b ∧ b ≤ d) (e : d * z = a * x + b * y) (l0 : lo ≤ 0) (l1 : lo ≤ x) (l2 : lo ≤ y) (l3 : lo ≤ x + y) (h0 : 0 ≤ hi) (h1 : x ≤ hi) (h2 : y ≤ hi) (h3 : x + y ≤ hi) : lo ≤ z ∧ z ≤ hi := by
  have low : ∀ m n : Int, m ≤ 0 → m ≤ x → n ≤ 0 → n ≤ y → m + n ≤ z := fun m n hm hx hn hy => by
    have p1 := part ha.1 ha.2 hm hx
    have p2 := part hb.1 hb.2 hn hy
    have : d * (m + n) ≤ d * z := by rw [e, Int.mul_add]; omega
    exact Int.le_of_mul_le_mul_left this hd
  have high : ∀ m n : Int, 0 ≤ m → x ≤ m → 0 ≤ n → y ≤ n → z ≤ m + n := fun m n hm hx hn hy => by
    have p1 := part' ha.1 ha.2 hm hx
    have p2 := part' hb.1 hb.2 hn hy
    have : d * z ≤ d * (m + n) := by rw [e, Int.mul_add]; omega
    exact Int.le_of_mul_le_mul_left this hd
  constructor
  · by_cases c1 : 0 ≤ x
    · by_cases c2 : 0 ≤ y
      · have := low 0 0 (by omega) c1 (by omega) c2; omega
      · have := low 0 y (by omega) c1 (by omega) (by omega); omega
    · by_cases c2 : 0 ≤ y
      · have := low x 0 (by omega) (by omega) (by omega) c2; omega
      · have := low x y (by omega) (by omega) (by omega) (by omega); omega
  · by_cases c1 : 0 ≤ x
    · by_cases c2 : 0 ≤ y
      · have := high x y (by omega) (by omega) (by omega) (by omega); omega
      · have := high x 0 (by omega) (by omega) (by omega) (by omega); omega
    · by_cases c2 : 0 ≤ y
      · have := high 0 y (by omega) (by omega) (by omega) (by omega); omega
      · have := high 0 0 (by omega) (by omega) (by omega) (by omega); omega
theorem plain_ok {e : T2 Z2 Z2} (h : EB e) : Ok (m_plain_of e) (Plain e) := by
  have ba := h.ba; have bb := h.bb; have pos := h.pos
  have sa : SB e.a := ⟨by omega, by omega⟩
  have sbb : SB e.b := ⟨by omega, by omega⟩
  unfold m_plain_of b_plain_of
  (try simp only [ok_some, ok_none, ok_bind, ok_lift1, ok_lift2, ok_lift3, ok_lift4, ok_bind2, ok_app1, ok_app2, ok_app3, ok_app4, ok_bif, ok_andG, ok_orG, ok_chain, ok_bindOut, bo_nx, bo_rt, bo_bk, bo_ct, ok_finO, fo_nx, fo_rt, nx_nx, nx_rt, ok_mul, ok_mod, ok_div, ok_appG, ok_szG, ok_catG, decide_eq_true_eq, decide_eq_false_iff_not, Bool.not_eq_true', Bool.not_eq_false', cLe, cLt, reduceCtorEq, false_implies, true_implies, implies_true, and_true, true_and])
  refine ok_of (side_eq sa sbb) ⟨by simp, by simp, ?_⟩
  refine ok_map T2.a (fun _ _ => rfl) (minL_ok (by simp) fun x0 hx0 mx0 => ok_map T2.a (fun _ _ => rfl) (maxL_ok (by simp) fun x1 hx1 mx1 => ?_))
  have lists : ∀ P : Prop, P → P := fun _ h => h
  simp only [List.map_cons, List.map_nil, List.mem_cons, List.not_mem_nil, or_false, forall_eq_or_imp, forall_eq] at hx0 mx0 hx1 mx1
  have bx0 : -20 ≤ x0 ∧ x0 ≤ 20 := by omega
  have bx1 : -20 ≤ x1 ∧ x1 ≤ 20 := by omega
  have le1 : x0 ≤ x1 := by omega
  refine ok_of (show rng2N x0 (x1 + 1) = some (rngL x0 (x1 + 1 - x0).toNat) from if_pos (by omega)) ?_
  -- all that is found
  refine ok_for (fun i s => (∀ z, z ∈ s → goodZ e z ∧ (-20 ≤ z.a ∧ z.a < x0 + i) ∧ (-20 ≤ z.b ∧ z.b ≤ 20)) ∧ (∀ z, goodZ e z → x0 ≤ z.a → z.a < x0 + i → z ∈ s) ∧ s.Nodup ∧ s.length ≤ 41 * i) ⟨by simp, fun z _ h1 h2 => by omega, by simp, by simp⟩ (fun i s x hx hs => ?_) fun s hs => ?_
  · obtain ⟨hi, rfl⟩ := rng_get hx
    obtain ⟨s1, s2, s3, s4⟩ := hs
    (try simp only [ok_some, ok_none, ok_bind, ok_lift1, ok_lift2, ok_lift3, ok_lift4, ok_bind2, ok_app1, ok_app2, ok_app3, ok_app4, ok_bif, ok_andG, ok_orG, ok_chain, ok_bindOut, bo_nx, bo_rt, bo_bk, bo_ct, ok_finO, fo_nx, fo_rt, nx_nx, nx_rt, ok_mul, ok_mod, ok_div, ok_appG, ok_szG, ok_catG, decide_eq_true_eq, decide_eq_false_iff_not, Bool.not_eq_true', Bool.not_eq_false', cLe, cLt, reduceCtorEq, false_implies, true_implies, implies_true, and_true, true_and])
    refine ok_map T2.b (fun _ _ => rfl) (minL_ok (by simp) fun y0 hy0 my0 => ok_map T2.b (fun _ _ => rfl) (maxL_ok (by simp) fun y1 hy1 my1 => ?_))
    simp only [List.map_cons, List.map_nil, List.mem_cons, List.not_mem_nil, or_false, forall_eq_or_imp, forall_eq] at hy0 my0 hy1 my1
    have by0 : -20 ≤ y0 ∧ y0 ≤ 20 := by omega
    have by1 : -20 ≤ y1 ∧ y1 ≤ 20 := by omega
    refine ok_of (show rng2N y0 (y1 + 1) = some (rngL y0 (y1 + 1 - y0).toNat) from if_pos (by omega)) ?_
    refine ok_for (fun j t => (∀ z, z ∈ t → goodZ e z ∧ (-20 ≤ z.a ∧ z.a < x0 + (i + 1)) ∧ (-20 ≤ z.b ∧ z.b ≤ 20) ∧ (z.a = x0 + i → z.b < y0 + j)) ∧ (∀ z, z ∈ s → z ∈ t) ∧ (∀ z, goodZ e z → z.a = x0 + i → y0 ≤ z.b → z.b < y0 + j → z ∈ t) ∧ t.Nodup ∧ t.length ≤ s.length + j) ⟨fun z hz => ?_, fun z hz => hz, fun z _ _ h1 h2 => by omega, s3, by omega⟩ (fun j t y hy ht => ?_) fun t ht => ?_
    · obtain ⟨a, b, c⟩ := s1 z hz
      exact ⟨a, by omega, c, fun q => by omega⟩
    · obtain ⟨hj, rfl⟩ := rng_get hy
      obtain ⟨t1, t2, t3, t4, t5⟩ := ht
      have zb : SB ⟨x0 + i, y0 + j⟩ := ⟨by show -100 ≤ x0 + (i : Int) ∧ x0 + (i : Int) ≤ 100; omega, by show -100 ≤ y0 + (j : Int) ∧ y0 + (j : Int) ≤ 100; omega⟩
      have keep : ¬ goodZ e ⟨x0 + i, y0 + j⟩ → (∀ z, z ∈ t → goodZ e z ∧ (-20 ≤ z.a ∧ z.a < x0 + (i + 1)) ∧ (-20 ≤ z.b ∧ z.b ≤ 20) ∧ (z.a = x0 + i → z.b < y0 + ((j : Int) + 1))) ∧ (∀ z, z ∈ s → z ∈ t) ∧ (∀ z, goodZ e z → z.a = x0 + i → y0 ≤ z.b → z.b < y0 + ((j : Int) + 1) → z ∈ t) ∧ t.Nodup ∧ t.length ≤ s.length + (j + 1) := fun ng => by
        refine ⟨fun z hz => ?_, t2, fun z hg e1 h1 h2 => ?_, t4, by omega⟩
        · obtain ⟨a, b, c, d⟩ := t1 z hz
          exact ⟨a, b, c, fun q => by have := d q; omega⟩
        · by_cases q : z.b = y0 + j
          · exact absurd hg (by rw [show z = (⟨x0 + i, y0 + j⟩ : Z2) from z2_ext e1 q]; exact ng)
          · exact t3 z hg e1 h1 (by omega)
      (try simp only [ok_some, ok_none, ok_bind, ok_lift1, ok_lift2, ok_lift3, ok_lift4, ok_bind2, ok_app1, ok_app2, ok_app3, ok_app4, ok_bif, ok_andG, ok_orG, ok_chain, ok_bindOut, bo_nx, bo_rt, bo_bk, bo_ct, ok_finO, fo_nx, fo_rt, nx_nx, nx_rt, ok_mul, ok_mod, ok_div, ok_appG, ok_szG, ok_catG, decide_eq_true_eq, decide_eq_false_iff_not, Bool.not_eq_true', Bool.not_eq_false', cLe, cLt, reduceCtorEq, false_implies, true_implies, implies_true, and_true, true_and])
      refine ⟨fun n0 => ok_of (side_eq zb sbb) ⟨fun c1 => ?_, fun c1 => ?_⟩, fun n0 => ?_⟩
      · refine ⟨fun c2 => ok_of (side_eq sa zb) ⟨fun c3 => ⟨fun c4 => ?_, fun c4 => ?_⟩, fun c3 => ?_⟩, fun c2 => ?_⟩
        · have gz : goodZ e ⟨x0 + i, y0 + j⟩ := ⟨n0, ⟨c1, c2⟩, c3, c4⟩
          have sl : t.length ≤ 41 * 41 + 41 := by
            have : 41 * i ≤ 41 * 41 := Nat.mul_le_mul_left _ (by omega)
            omega
          refine ⟨by omega, fun z hz => ?_, fun z hz => List.mem_append_left _ (t2 z hz), fun z hg e1 h1 h2 => ?_, ?_, by simp; omega⟩
          · rw [List.mem_append, List.mem_singleton] at hz
            rcases hz with q | q
            · obtain ⟨a, b, c, d⟩ := t1 z q
              exact ⟨a, b, c, fun q => by have := d q; omega⟩
            · subst q
              exact ⟨gz, by show -20 ≤ x0 + (i : Int) ∧ x0 + (i : Int) < x0 + ((i : Int) + 1); omega, by show -20 ≤ y0 + (j : Int) ∧ y0 + (j : Int) ≤ 20; omega, fun _ => by show y0 + (j : Int) < y0 + ((j + 1 : Nat) : Int); omega⟩
          · rw [List.mem_append, List.mem_singleton]
            by_cases q : z.b = y0 + j
            · exact .inr (z2_ext e1 q)
            · exact .inl (t3 z hg e1 h1 (by omega))
          · rw [List.nodup_append]
            refine ⟨t4, by simp, fun a ha b hb => ?_⟩
            have hb : b = ⟨x0 + i, y0 + j⟩ := by simpa using hb
            subst hb
            intro q
            subst q
            have := (t1 _ ha).2.2.2 rfl
            have : y0 + (j : Int) < y0 + j := this
            omega
        · exact keep fun g => c4 g.2.2.2
        · exact keep fun g => c3 g.2.2.1
        · exact keep fun g => c2 g.2.1.2
      · exact keep fun g => c1 g.2.1.1
      · exact keep fun g => g.1 n0
    · obtain ⟨t1, t2, t3, t4, t5⟩ := ht
      rw [rng_len] at t3 t5
      (try simp only [ok_some, ok_none, ok_bind, ok_lift1, ok_lift2, ok_lift3, ok_lift4, ok_bind2, ok_app1, ok_app2, ok_app3, ok_app4, ok_bif, ok_andG, ok_orG, ok_chain, ok_bindOut, bo_nx, bo_rt, bo_bk, bo_ct, ok_finO, fo_nx, fo_rt, nx_nx, nx_rt, ok_mul, ok_mod, ok_div, ok_appG, ok_szG, ok_catG, decide_eq_true_eq, decide_eq_false_iff_not, Bool.not_eq_true', Bool.not_eq_false', cLe, cLt, reduceCtorEq, false_implies, true_implies, implies_true, and_true, true_and])
      refine ⟨fun z hz => ?_, fun z hg h1 h2 => ?_, t4, ?_⟩
      · obtain ⟨a, b, c, _⟩ := t1 z hz
        exact ⟨a, by omega, c⟩
      · by_cases q : z.a = x0 + i
        · have bx := box1 (z := z.b) h.pos hg.2.1 hg.2.2 coef.2 my0.1 my0.2.1 my0.2.2.1 my0.2.2.2 my1.1 my1.2.1 my1.2.2.1 my1.2.2.2
          exact t3 z hg q bx.1 (by omega)
        · exact t2 z (s2 z hg h1 (by omega))
      · have : 41 * (i + 1) = 41 * i + 41 := by omega
        omega
  · obtain ⟨s1, s2, s3, s4⟩ := hs
    rw [rng_len] at s1 s2 s4
    have s2 : ∀ z, goodZ e z → z ∈ s := fun z hg => by
      have bx := box1 (z := z.a) h.pos hg.2.1 hg.2.2 coef.1 mx0.1 mx0.2.1 mx0.2.2.1 mx0.2.2.2 mx1.1 mx1.2.1 mx1.2.2.1 mx1.2.2.2
      exact s2 z hg bx.1 (by omega)
    have s1 : ∀ z, z ∈ s → goodZ e z ∧ (-20 ≤ z.a ∧ z.a ≤ 20) ∧ (-20 ≤ z.b ∧ z.b ≤ 20) := fun z hz => by
      obtain ⟨a, b, c⟩ := s1 z hz
      exact ⟨a, by omega, c⟩
    have sl : s.length ≤ 1681 := by
      have : 41 * (x1 + 1 - x0).toNat ≤ 41 * 41 := Nat.mul_le_mul_left _ (by omega)
      omega
    (try simp only [ok_some, ok_none, ok_bind, ok_lift1, ok_lift2, ok_lift3, ok_lift4, ok_bind2, ok_app1, ok_app2, ok_app3, ok_app4, ok_bif, ok_andG, ok_orG, ok_chain, ok_bindOut, bo_nx, bo_rt, bo_bk, bo_ct, ok_finO, fo_nx, fo_rt, nx_nx, nx_rt, ok_mul, ok_mod, ok_div, ok_appG, ok_szG, ok_catG, decide_eq_true_eq, decide_eq_false_iff_not, Bool.not_eq_true', Bool.not_eq_false', cLe, cLt, reduceCtorEq, false_implies, true_implies, implies_true, and_true, true_and])
    refine ⟨by simp, ok_for (fun i t => t = (s.take i).filter (plB e s)) rfl (fun i t z hz ht => ?_) fun t ht => ?_⟩
    · subst ht
      have zm := List.mem_of_getElem? hz
      obtain ⟨gz, bz⟩ := s1 z zm
      have tk := take1 hz
      (try simp only [ok_some, ok_none, ok_bind, ok_lift1, ok_lift2, ok_lift3, ok_lift4, ok_bind2, ok_app1, ok_app2, ok_app3, ok_app4, ok_bif, ok_andG, ok_orG, ok_chain, ok_bindOut, bo_nx, bo_rt, bo_bk, bo_ct, ok_finO, fo_nx, fo_rt, nx_nx, nx_rt, ok_mul, ok_mod, ok_div, ok_appG, ok_szG, ok_catG, decide_eq_true_eq, decide_eq_false_iff_not, Bool.not_eq_true', Bool.not_eq_false', cLe, cLt, reduceCtorEq, false_implies, true_implies, implies_true, and_true, true_and])
      refine ok_lc (fun w => !decide (w = z)) (fun w => sb z w) (fun w _ => rfl) (fun w _ _ => rfl) ?_
      refine ok_map (fun w => !decide (w = o2) && (decide (0 ≤ sd e.a w) && decide (0 ≤ sd w e.b))) (fun w hw => ?_) ?_
      · obtain ⟨v, hv, q⟩ := List.mem_map.mp hw
        obtain ⟨gv, bv⟩ := s1 v (List.mem_filter.mp hv).1
        have wb : SB w := by
          rw [← q]
          exact ⟨by show -100 ≤ z.a - v.a ∧ z.a - v.a ≤ 100; omega, by show -100 ≤ z.b - v.b ∧ z.b - v.b ≤ 100; omega⟩
        rw [ok_iff]
        (try simp only [ok_some, ok_none, ok_bind, ok_lift1, ok_lift2, ok_lift3, ok_lift4, ok_bind2, ok_app1, ok_app2, ok_app3, ok_app4, ok_bif, ok_andG, ok_orG, ok_chain, ok_bindOut, bo_nx, bo_rt, bo_bk, bo_ct, ok_finO, fo_nx, fo_rt, nx_nx, nx_rt, ok_mul, ok_mod, ok_div, ok_appG, ok_szG, ok_catG, decide_eq_true_eq, decide_eq_false_iff_not, Bool.not_eq_true', Bool.not_eq_false', cLe, cLt, reduceCtorEq, false_implies, true_implies, implies_true, and_true, true_and])
        refine ⟨fun c => ok_of (in_cone_eq h wb) ?_, fun c => ?_⟩
        · have c : ¬ w = o2 := c
          rw [decide_eq_false c]; rfl
        · have c : w = o2 := c
          rw [decide_eq_true c]; rfl
      · have eq : (((s.filter fun w => !decide (w = z)).map fun w => sb z w).map fun w => !decide (w = o2) && (decide (0 ≤ sd e.a w) && decide (0 ≤ sd w e.b))).any id = !plB e s z := by
          unfold plB
          rw [List.any_map, List.any_map, Bool.not_not]; rfl
        rw [eq, tk, List.filter_append]
        (try simp only [ok_some, ok_none, ok_bind, ok_lift1, ok_lift2, ok_lift3, ok_lift4, ok_bind2, ok_app1, ok_app2, ok_app3, ok_app4, ok_bif, ok_andG, ok_orG, ok_chain, ok_bindOut, bo_nx, bo_rt, bo_bk, bo_ct, ok_finO, fo_nx, fo_rt, nx_nx, nx_rt, ok_mul, ok_mod, ok_div, ok_appG, ok_szG, ok_catG, decide_eq_true_eq, decide_eq_false_iff_not, Bool.not_eq_true', Bool.not_eq_false', cLe, cLt, reduceCtorEq, false_implies, true_implies, implies_true, and_true, true_and])
        refine ⟨fun c => ?_, fun c => ?_⟩
        · have fl : ((s.take i).filter (plB e s)).length ≤ (s.take i).length := List.length_filter_le _ _
          rw [List.length_take] at fl
          refine ⟨by omega, ?_⟩
          rw [List.filter_cons_of_pos (by simpa using c)]; rfl
        · rw [List.filter_cons_of_neg (by simpa using c), List.filter_nil, List.append_nil]
    · subst ht
      rw [List.take_length]
      have fl : (s.filter (plB e s)).length ≤ s.length := List.length_filter_le _ _
      (try simp only [ok_some, ok_none, ok_bind, ok_lift1, ok_lift2, ok_lift3, ok_lift4, ok_bind2, ok_app1, ok_app2, ok_app3, ok_app4, ok_bif, ok_andG, ok_orG, ok_chain, ok_bindOut, bo_nx, bo_rt, bo_bk, bo_ct, ok_finO, fo_nx, fo_rt, nx_nx, nx_rt, ok_mul, ok_mod, ok_div, ok_appG, ok_szG, ok_catG, decide_eq_true_eq, decide_eq_false_iff_not, Bool.not_eq_true', Bool.not_eq_false', cLe, cLt, reduceCtorEq, false_implies, true_implies, implies_true, and_true, true_and])
      refine ok_sortD rfl (by omega) ?_
      have pm := List.mergeSort_perm (s.filter (plB e s)) leD
      refine ⟨fun z hz => ?_, fun z hz => ?_, ?_, by rw [pm.length_eq]; omega⟩
      · have hz := (List.mem_filter.mp (pm.mem_iff.mp hz)).1
        obtain ⟨g, b, c⟩ := s1 z hz
        exact ⟨⟨g.2.2.1, g.2.1.1⟩, g.1, b, c⟩
      · refine pm.mem_iff.mpr (List.mem_filter.mpr ⟨s2 z ⟨hz.n, ⟨hz.c.l, irr_low pos hz⟩, hz.c.f, irr_high pos hz⟩, ?_⟩)
        unfold plB
        rw [Bool.not_eq_true', List.any_eq_false]
        intro w hw c
        obtain ⟨h1, h2⟩ := List.mem_filter.mp hw
        obtain ⟨gw, _⟩ := s1 w h1
        simp only [Bool.and_eq_true, Bool.not_eq_true', decide_eq_false_iff_not, decide_eq_true_eq] at c
        rcases hz.i w (sb z w) ⟨gw.2.2.1, gw.2.1.1⟩ ⟨c.2.1, c.2.2⟩ (ad_sb z w) with q | q
        · exact gw.1 q
        · exact c.1 q
      · exact pm.nodup_iff.mpr (s3.filter _)
end Lay.K36

set_option Elab.async false
set_option linter.all false
set_option maxRecDepth 100000
namespace Lay.K36
open PySem PySem.Spec PyProof.Rows L2 Lay
open Lay.Enc (enc)
/-! ### corners are in order -/
theorem prec_irr (p : PT) : precP p p = false := by
  unfold precP
  have : ¬ p.x < p.x := Rat.lt_irrefl
  have : ¬ p.y < p.y := Rat.lt_irrefl
  simp [*]
theorem prec_iff {p q : PT} : precP p q = true ↔ p.x < q.x ∨ (p.x = q.x ∧ p.y < q.y) := by unfold precP; simp
theorem prec_tr {p q r : PT} (h1 : precP p q = true) (h2 : precP q r = true) : precP p r = true := by
  rw [prec_iff] at *
  rcases h1 with h1 | ⟨h1, h1'⟩
  · rcases h2 with h2 | ⟨h2, h2'⟩
    · exact .inl (by grind)
    · exact .inl (by grind)
  · rcases h2 with h2 | ⟨h2, h2'⟩
    · exact .inl (by grind)
    · exact .inr ⟨by grind, by grind⟩
theorem prec_tot {p q : PT} (h : p ≠ q) : precP p q = true ∨ precP q p = true := by
  rw [prec_iff, prec_iff]
  obtain ⟨a, b⟩ := p
  obtain ⟨c, d⟩ := q
  have h : ¬ (a = c ∧ b = d) := fun z => h (by rw [z.1, z.2])
  show (a < c ∨ (a = c ∧ b < d)) ∨ (c < a ∨ (c = a ∧ d < b))
  by_cases e : a = c
  · by_cases f : b = d
    · exact absurd ⟨e, f⟩ h
    · rcases Rat.le_total (a := b) (b := d) with k | k
      · exact .inl (.inr ⟨e, by grind⟩)
      · exact .inr (.inr ⟨e.symm, by grind⟩)
  · rcases Rat.le_total (a := a) (b := c) with k | k
    · exact .inl (.inl (by grind))
    · exact .inr (.inl (by grind))
def Srt (F : List PT) : Prop := F.Pairwise fun a b => precP a b = true
theorem cut_srt {p : PT} : ∀ {F : List PT}, Srt F → F.take (F.filter fun q => precP q p).length = F.filter (fun q => precP q p) ∧ ∀ q, q ∈ F.drop (F.filter fun q => precP q p).length → precP q p = false
  | [], _ => by simp
  | a :: F, h => by
    have h2 := List.pairwise_cons.mp h
    obtain ⟨i1, i2⟩ := cut_srt (p := p) (F := F) h2.2
    by_cases c : precP a p = true
    · rw [List.filter_cons_of_pos (p := fun q => precP q p) c, List.length_cons, List.take_succ_cons, List.drop_succ_cons, i1]
      exact ⟨rfl, i2⟩
    · have none : (a :: F).filter (fun q => precP q p) = [] := by
        rw [List.filter_eq_nil_iff]
        intro b hb d
        rcases List.mem_cons.mp hb with z | z
        · subst z; exact c d
        · exact c (prec_tr (h2.1 b z) d)
      rw [none]
      refine ⟨rfl, fun q hq => ?_⟩
      rw [List.filter_eq_nil_iff] at none
      have := none q hq
      simpa using this
theorem ins_srt {F : List PT} {p : PT} (h : Srt F) (hp : p ∉ F) : Srt (insP F p) := by
  obtain ⟨c1, c2⟩ := cut_srt (p := p) h
  have m1 : ∀ q, q ∈ F.take (F.filter fun q => precP q p).length → precP q p = true := fun q hq => by
    rw [c1] at hq; simpa using (List.mem_filter.mp hq).2
  have m2 : ∀ q, q ∈ F.drop (F.filter fun q => precP q p).length → precP p q = true := fun q hq => by
    have e := c2 q hq
    have ne : p ≠ q := fun z => hp (by rw [z]; exact List.mem_of_mem_drop hq)
    rcases prec_tot ne with k | k
    · exact k
    · rw [e] at k; cases k
  unfold insP Srt
  have hh : Srt (F.take (F.filter fun q => precP q p).length ++ F.drop (F.filter fun q => precP q p).length) := by rw [List.take_append_drop]; exact h
  generalize (F.filter fun q => precP q p).length = k at *
  unfold Srt at hh
  rw [List.pairwise_append] at hh ⊢
  obtain ⟨h1, h2, h3⟩ := hh
  refine ⟨?_, h2, fun a ha b hb => ?_⟩
  · rw [List.pairwise_append]
    refine ⟨h1, by simp, fun a ha b hb => ?_⟩
    have hb : b = p := by simpa using hb
    subst hb; exact m1 a ha
  · rw [List.mem_append, List.mem_singleton] at ha
    rcases ha with z | z
    · exact h3 a z b hb
    · subst z; exact m2 b hb
theorem add_srt {S : List Row} {F : List PT} {r s : Row} (h : Srt F) : Srt (addP S F r s) := by
  unfold addP
  split
  · exact h
  · split
    · rename_i c; exact ins_srt h c.1
    · exact h
theorem fold_srt {S : List Row} {r : Row} : ∀ {L : List Row} {F : List PT}, Srt F → Srt (L.foldl (fun F s => addP S F r s) F)
  | [], _, h => h
  | _ :: _, _, h => by rw [List.foldl_cons]; exact fold_srt (add_srt h)
theorem corners_srt (S : List Row) : ∀ n, Srt (cornersN S n)
  | 0 => List.Pairwise.nil
  | n + 1 => by
    unfold cornersN
    split
    · exact corners_srt S n
    · exact fold_srt (corners_srt S n)
theorem srt_uniq : ∀ {F G : List PT}, Srt F → Srt G → (∀ p, p ∈ F ↔ p ∈ G) → F = G
  | [], [], _, _, _ => rfl
  | [], b :: G, _, _, h => absurd ((h b).mpr (by simp)) (by simp)
  | a :: F, [], _, _, h => absurd ((h a).mp (by simp)) (by simp)
  | a :: F, b :: G, hF, hG, h => by
    have f := List.pairwise_cons.mp hF
    have g := List.pairwise_cons.mp hG
    have e : a = b := by
      rcases List.mem_cons.mp ((h a).mp (by simp)) with z | z
      · exact z
      · rcases List.mem_cons.mp ((h b).mpr (by simp)) with y | y
        · exact y.symm
        · have := prec_tr (f.1 b y) (g.1 a z)
          rw [prec_irr] at this; cases this
    subst e
    congr 1
    refine srt_uniq f.2 g.2 fun p => ?_
    have := h p
    simp only [List.mem_cons] at this
    constructor
    · intro k
      rcases this.mp (.inr k) with z | z
      · subst z
        have := f.1 p k
        rw [prec_irr] at this; cases this
      · exact z
    · intro k
      rcases this.mpr (.inr k) with z | z
      · subst z
        have := g.1 p k
        rw [prec_irr] at this; cases this
      · exact z
def tri : Nat → Nat
  | 0 => 0
  | n + 1 => tri n + n
theorem cornersN_tri {S : List Row} : ∀ {n : Nat}, (cornersN S n).length ≤ tri n
  | 0 => by simp [cornersN]
  | n + 1 => by
    have ih := cornersN_tri (S := S) (n := n)
    unfold cornersN tri
    split
    · omega
    · rename_i r _
      have := fold_len (S := S) (r := r) (L := S.take n) (F := cornersN S n)
      unfold rowP
      rw [List.length_take] at this; omega
theorem tri_mono : ∀ {m n : Nat}, m ≤ n → tri m ≤ tri n
  | m, 0, h => by have : m = 0 := by omega
                  subst this; exact Nat.le_refl _
  | m, n + 1, h => by
    by_cases c : m = n + 1
    · subst c; exact Nat.le_refl _
    · have := tri_mono (m := m) (n := n) (by omega)
      show tri m ≤ tri n + n
      omega
theorem corners28 {S : List Row} (h : S.length ≤ 8) : (cornersP S).length ≤ 28 := by
  have := cornersN_tri (S := S) (n := S.length)
  have := tri_mono h
  have : tri 8 = 28 := rfl
  unfold cornersP; omega
/-! ### full rows -/
abbrev FR := T2 Z2 Q
def plP (S : List Row) (p : PT) : List Z2 := ((m_ends_of S (pq p)).bind m_plain_of).getD []
theorem pl_ok {S : List Row} (h : Good S) {p : PT} (hp : p ∈ cornersP S) : ∃ e, m_ends_of S (pq p) = some e ∧ Ends S p e ∧ m_plain_of e = some (plP S p) ∧ Plain e (plP S p) := by
  obtain ⟨e, e1, he⟩ := ends_ok h hp
  obtain ⟨l, e2, hl⟩ := plain_ok he.eb
  have : plP S p = l := by unfold plP; rw [e1, Option.bind_some, e2]; rfl
  rw [this]
  exact ⟨e, e1, he, e2, hl⟩
def atP (p : PT) (z : Z2) : FR := ⟨z, ofR (gat z p)⟩
def frN (S : List Row) : List PT → List FR → List FR
  | [], F => F
  | p :: C, F => frN S C (F ++ ((plP S p).map (atP p)).filter fun y => !decide (y ∈ F))
def frP (S : List Row) : List FR := frN S (cornersP S) []
theorem frN_mem {S : List Row} {y : FR} : ∀ {C : List PT} {F : List FR}, y ∈ frN S C F ↔ y ∈ F ∨ ∃ p, p ∈ C ∧ ∃ z, z ∈ plP S p ∧ y = atP p z
  | [], F => by simp [frN]
  | p :: C, F => by
    unfold frN
    rw [frN_mem, List.mem_append, List.mem_filter, List.mem_map]
    constructor
    · rintro ((h | ⟨⟨z, hz, e⟩, _⟩) | ⟨q, hq, z, hz, e⟩)
      · exact .inl h
      · exact .inr ⟨p, by simp, z, hz, e.symm⟩
      · exact .inr ⟨q, by simp [hq], z, hz, e⟩
    · rintro (h | ⟨q, hq, z, hz, e⟩)
      · exact .inl (.inl h)
      · rcases List.mem_cons.mp hq with k | k
        · subst k
          by_cases c : y ∈ F
          · exact .inl (.inl c)
          · exact .inl (.inr ⟨⟨z, hz, e.symm⟩, by simpa using c⟩)
        · exact .inr ⟨q, k, z, hz, e⟩
theorem frP_mem {S : List Row} {y : FR} : y ∈ frP S ↔ ∃ p, p ∈ cornersP S ∧ ∃ z, z ∈ plP S p ∧ y = atP p z := by
  unfold frP; rw [frN_mem]; simp
theorem frN_app {S : List Row} {p : PT} : ∀ {C : List PT} {F : List FR}, frN S (C ++ [p]) F = frN S C F ++ ((plP S p).map (atP p)).filter fun y => !decide (y ∈ frN S C F)
  | [], F => rfl
  | q :: C, F => by
    show frN S (C ++ [p]) _ = frN S C _ ++ ((plP S p).map (atP p)).filter fun y => !decide (y ∈ frN S C _)
    exact frN_app
theorem frN_len {S : List Row} (h : Good S) : ∀ {C : List PT} {F : List FR}, (∀ p, p ∈ C → p ∈ cornersP S) → (frN S C F).length ≤ F.length + 1681 * C.length
  | [], F, _ => by simp [frN]
  | p :: C, F, hC => by
    have ih := frN_len h (C := C) (F := F ++ ((plP S p).map (atP p)).filter fun y => !decide (y ∈ F)) fun q hq => hC q (by simp [hq])
    obtain ⟨e, _, _, _, pl⟩ := pl_ok h (hC p (by simp))
    have l := pl.l
    have fl := List.length_filter_le (fun y => !decide (y ∈ F)) ((plP S p).map (atP p))
    rw [List.length_map] at fl
    rw [List.length_append] at ih
    unfold frN
    rw [List.length_cons, Nat.mul_add]; omega
theorem fr_z {S : List Row} (h : Good S) {y : FR} (hy : y ∈ frP S) : ∃ p, p ∈ cornersP S ∧ ∃ e, Ends S p e ∧ Cone e.a e.b y.a ∧ y.a ≠ o2 ∧ (-20 ≤ y.a.a ∧ y.a.a ≤ 20) ∧ (-20 ≤ y.a.b ∧ y.a.b ≤ 20) ∧ y.a ∈ plP S p ∧ y.b = ofR (gat y.a p) := by
  obtain ⟨p, hp, z, hz, e⟩ := frP_mem.mp hy
  obtain ⟨en, _, he, _, pl⟩ := pl_ok h hp
  subst e
  obtain ⟨c1, c2, c3, c4⟩ := pl.c z hz
  exact ⟨p, hp, en, he, c1, c2, c3, c4, hz, rfl⟩
theorem full_rows_eq {S : List Row} (h : Good S) : m_full_rows S = some ((frP S).mergeSort leD) := by
  have l28 := corners28 h.s.l.2
  have fl := frN_len h (C := cornersP S) (F := []) fun _ hp => hp
  have hb : (frP S).length ≤ 47068 := by unfold frP; rw [List.length_nil] at fl; omega
  rw [ok_iff]
  unfold m_full_rows b_full_rows
  (try simp only [ok_some, ok_none, ok_bind, ok_lift1, ok_lift2, ok_lift3, ok_lift4, ok_bind2, ok_app1, ok_app2, ok_app3, ok_app4, ok_bif, ok_andG, ok_orG, ok_chain, ok_bindOut, bo_nx, bo_rt, bo_bk, bo_ct, ok_finO, fo_nx, fo_rt, nx_nx, nx_rt, ok_mul, ok_mod, ok_div, ok_appG, ok_szG, ok_catG, decide_eq_true_eq, decide_eq_false_iff_not, Bool.not_eq_true', Bool.not_eq_false', cLe, cLt, reduceCtorEq, false_implies, true_implies, implies_true, and_true, true_and])
  refine ok_of (check_eq h.s h.w) ⟨by simp, ok_of (corners_of_eq h.s.l.2 h.s.r) (ok_for (fun i s => s = frN S ((cornersP S).take i) []) rfl (fun i s y hy hs => ?_) fun s hs => ?_)⟩
  · subst hs
    rw [List.getElem?_map] at hy
    cases c : (cornersP S)[i]? with
    | none => rw [c] at hy; cases hy
    | some p =>
      rw [c] at hy; cases hy
      have hp := List.mem_of_getElem? c
      have hi := (List.getElem?_eq_some_iff.mp c).1
      have pb := h.pb p hp
      obtain ⟨e, e1, he, e2, pl⟩ := pl_ok h hp
      have tk := take1 c
      have gl := frN_len h (C := (cornersP S).take i) (F := []) fun q hq => List.mem_of_mem_take hq
      rw [List.length_take, List.length_nil] at gl
      rw [tk, frN_app]
      generalize frN S ((cornersP S).take i) [] = F at gl
      (try simp only [ok_some, ok_none, ok_bind, ok_lift1, ok_lift2, ok_lift3, ok_lift4, ok_bind2, ok_app1, ok_app2, ok_app3, ok_app4, ok_bif, ok_andG, ok_orG, ok_chain, ok_bindOut, bo_nx, bo_rt, bo_bk, bo_ct, ok_finO, fo_nx, fo_rt, nx_nx, nx_rt, ok_mul, ok_mod, ok_div, ok_appG, ok_szG, ok_catG, decide_eq_true_eq, decide_eq_false_iff_not, Bool.not_eq_true', Bool.not_eq_false', cLe, cLt, reduceCtorEq, false_implies, true_implies, implies_true, and_true, true_and])
      refine ok_of e1 (ok_of e2 (ok_for (fun j t => t = F ++ (((plP S p).take j).map (atP p)).filter fun y => !decide (y ∈ F)) (by simp) (fun j t z hz ht => ?_) fun t ht => ?_))
      · subst ht
        have hzm := List.mem_of_getElem? hz
        obtain ⟨_, _, zb1, zb2⟩ := pl.c z hzm
        have tz := take1 hz
        have fresh : atP p z ∉ ((plP S p).take j).map (atP p) := fun k => by
          obtain ⟨w, hw, q⟩ := List.mem_map.mp k
          have q : w = z := congrArg T2.a q
          subst q
          obtain ⟨m, hm⟩ := List.mem_iff_getElem?.mp hw
          have mj : m < j := by
            have := (List.getElem?_eq_some_iff.mp hm).1
            rw [List.length_take] at this; omega
          rw [List.getElem?_take_of_lt mj] at hm
          obtain ⟨l1, g1⟩ := List.getElem?_eq_some_iff.mp hm
          obtain ⟨l2, g2⟩ := List.getElem?_eq_some_iff.mp hz
          have := (List.getElem_inj pl.n).mp (g1.trans g2.symm)
          omega
        (try simp only [ok_some, ok_none, ok_bind, ok_lift1, ok_lift2, ok_lift3, ok_lift4, ok_bind2, ok_app1, ok_app2, ok_app3, ok_app4, ok_bif, ok_andG, ok_orG, ok_chain, ok_bindOut, bo_nx, bo_rt, bo_bk, bo_ct, ok_finO, fo_nx, fo_rt, nx_nx, nx_rt, ok_mul, ok_mod, ok_div, ok_appG, ok_szG, ok_catG, decide_eq_true_eq, decide_eq_false_iff_not, Bool.not_eq_true', Bool.not_eq_false', cLe, cLt, reduceCtorEq, false_implies, true_implies, implies_true, and_true, true_and])
        refine ok_of (sum_at2_eq (g := z) ⟨by omega, by omega⟩ pb) ?_
        have ye : (⟨z, ofR (gat z p)⟩ : FR) = atP p z := rfl
        rw [ye, tz, List.map_append, List.filter_append]
        have tl : ((((plP S p).take j).map (atP p)).filter fun y => !decide (y ∈ F)).length ≤ 1681 := by
          refine Nat.le_trans (List.length_filter_le _ _) ?_
          rw [List.length_map, List.length_take]; have := pl.l; omega
        refine ⟨fun n => ?_, fun n => ?_⟩
        · rw [List.mem_append] at n
          have nF : atP p z ∉ F := fun k => n (.inl k)
          have sg : ([z].map (atP p)).filter (fun y => !decide (y ∈ F)) = [atP p z] := by simp [nF]
          rw [sg]
          refine ⟨?_, by rw [List.append_assoc]⟩
          have : 1681 * min i (cornersP S).length ≤ 1681 * 28 := Nat.mul_le_mul_left _ (by omega)
          rw [List.length_append]; omega
        · have n : atP p z ∈ F := by
            have n : atP p z ∈ F ++ (((plP S p).take j).map (atP p)).filter fun y => !decide (y ∈ F) := by simpa using n
            rcases List.mem_append.mp n with k | k
            · exact k
            · exact absurd (List.mem_filter.mp k).1 fresh
          have sg : ([z].map (atP p)).filter (fun y => !decide (y ∈ F)) = [] := by simp [n]
          rw [sg, List.append_nil]
      · subst ht
        rw [List.take_length]
        (try simp only [ok_some, ok_none, ok_bind, ok_lift1, ok_lift2, ok_lift3, ok_lift4, ok_bind2, ok_app1, ok_app2, ok_app3, ok_app4, ok_bif, ok_andG, ok_orG, ok_chain, ok_bindOut, bo_nx, bo_rt, bo_bk, bo_ct, ok_finO, fo_nx, fo_rt, nx_nx, nx_rt, ok_mul, ok_mod, ok_div, ok_appG, ok_szG, ok_catG, decide_eq_true_eq, decide_eq_false_iff_not, Bool.not_eq_true', Bool.not_eq_false', cLe, cLt, reduceCtorEq, false_implies, true_implies, implies_true, and_true, true_and])
  · subst hs
    rw [List.length_map, List.take_length]
    (try simp only [ok_some, ok_none, ok_bind, ok_lift1, ok_lift2, ok_lift3, ok_lift4, ok_bind2, ok_app1, ok_app2, ok_app3, ok_app4, ok_bif, ok_andG, ok_orG, ok_chain, ok_bindOut, bo_nx, bo_rt, bo_bk, bo_ct, ok_finO, fo_nx, fo_rt, nx_nx, nx_rt, ok_mul, ok_mod, ok_div, ok_appG, ok_szG, ok_catG, decide_eq_true_eq, decide_eq_false_iff_not, Bool.not_eq_true', Bool.not_eq_false', cLe, cLt, reduceCtorEq, false_implies, true_implies, implies_true, and_true, true_and])
    exact ok_sortD rfl (by show (frP S).length ≤ _; omega) rfl
end Lay.K36

set_option Elab.async false
set_option linter.all false
set_option maxRecDepth 100000
namespace Lay.K36
open PySem PySem.Spec PyProof.Rows L2 Lay
open Lay.Enc (enc)
/-! ### plain pairs of all corners -/
theorem plain_pairs_eq {S : List Row} (h : Good S) : m_plain_pairs S = some ((cornersP S).map (plP S)) := by
  rw [ok_iff]
  unfold m_plain_pairs b_plain_pairs
  (try simp only [ok_some, ok_none, ok_bind, ok_lift1, ok_lift2, ok_lift3, ok_lift4, ok_bind2, ok_app1, ok_app2, ok_app3, ok_app4, ok_bif, ok_andG, ok_orG, ok_chain, ok_bindOut, bo_nx, bo_rt, bo_bk, bo_ct, ok_finO, fo_nx, fo_rt, nx_nx, nx_rt, ok_mul, ok_mod, ok_div, ok_appG, ok_szG, ok_catG, decide_eq_true_eq, decide_eq_false_iff_not, Bool.not_eq_true', Bool.not_eq_false', cLe, cLt, reduceCtorEq, false_implies, true_implies, implies_true, and_true, true_and])
  refine ok_of (check_eq h.s h.w) (ok_of (corners_of_eq h.s.l.2 h.s.r) ?_)
  rw [lcL_over]
  refine ok_of (lcL_map (f := plP S) fun p hp => ?_) rfl
  obtain ⟨e, e1, _, e2, _⟩ := pl_ok h hp
  show app1 m_plain_of (m_ends_of S (pq p)) = _
  rw [e1]
  exact e2
/-! ### sums of plain pairs -/
theorem lies_eq {own : List Z2} {g one two : Z2} (ho : ∀ z, z ∈ own → SB z) (hg : SB g) (h1 : one ∈ own) (h2 : two ∈ own) (hs : sd one two = 1) (hc : Cone one two g) : m__law_lies own g = some true := by
  rw [ok_iff]
  unfold m__law_lies b__law_lies
  (try simp only [ok_some, ok_none, ok_bind, ok_lift1, ok_lift2, ok_lift3, ok_lift4, ok_bind2, ok_app1, ok_app2, ok_app3, ok_app4, ok_bif, ok_andG, ok_orG, ok_chain, ok_bindOut, bo_nx, bo_rt, bo_bk, bo_ct, ok_finO, fo_nx, fo_rt, nx_nx, nx_rt, ok_mul, ok_mod, ok_div, ok_appG, ok_szG, ok_catG, decide_eq_true_eq, decide_eq_false_iff_not, Bool.not_eq_true', Bool.not_eq_false', cLe, cLt, reduceCtorEq, false_implies, true_implies, implies_true, and_true, true_and])
  refine ok_mono (ok_find (fun y => y = one) (fun r => r = true) fun y hy => ?_) fun o q => ?_
  · (try simp only [ok_some, ok_none, ok_bind, ok_lift1, ok_lift2, ok_lift3, ok_lift4, ok_bind2, ok_app1, ok_app2, ok_app3, ok_app4, ok_bif, ok_andG, ok_orG, ok_chain, ok_bindOut, bo_nx, bo_rt, bo_bk, bo_ct, ok_finO, fo_nx, fo_rt, nx_nx, nx_rt, ok_mul, ok_mod, ok_div, ok_appG, ok_szG, ok_catG, decide_eq_true_eq, decide_eq_false_iff_not, Bool.not_eq_true', Bool.not_eq_false', cLe, cLt, reduceCtorEq, false_implies, true_implies, implies_true, and_true, true_and])
    refine ok_mono (ok_find (fun z => y = one ∧ z = two) (fun r => r = true) fun z hz => ?_) fun o q => ?_
    · have sdb : ∀ {x y : Z2}, SB x → SB y → -20000 ≤ sd x y ∧ sd x y ≤ 20000 := fun {x y} hx hy => by
        have := mul_box hx.1 hy.2
        have := mul_box hx.2 hy.1
        unfold sd; omega
      have b1 := sdb (ho y hy) (ho z hz)
      (try simp only [ok_some, ok_none, ok_bind, ok_lift1, ok_lift2, ok_lift3, ok_lift4, ok_bind2, ok_app1, ok_app2, ok_app3, ok_app4, ok_bif, ok_andG, ok_orG, ok_chain, ok_bindOut, bo_nx, bo_rt, bo_bk, bo_ct, ok_finO, fo_nx, fo_rt, nx_nx, nx_rt, ok_mul, ok_mod, ok_div, ok_appG, ok_szG, ok_catG, decide_eq_true_eq, decide_eq_false_iff_not, Bool.not_eq_true', Bool.not_eq_false', cLe, cLt, reduceCtorEq, false_implies, true_implies, implies_true, and_true, true_and])
      refine ok_of (law_side_eq (ho y hy) (ho z hz)) ⟨fun d => ?_, fun d => ?_⟩
      · refine ok_of (law_side_eq hg (ho z hz)) (ok_of (law_side_eq (ho y hy) hg) ?_)
        have d : 0 < sd y z := d
        refine ⟨fun a1 => ⟨fun a2 => ⟨d, fun a3 => ⟨d, fun a4 => .inr ⟨_, rfl, rfl⟩, fun a4 => .inl ?_⟩, fun a3 => .inl ?_⟩, fun a2 => .inl ?_⟩, fun a1 => .inl ?_⟩
        · rintro ⟨c1, c2⟩
          subst c1 c2
          exact a4 (by rw [hs, Int.emod_one])
        · rintro ⟨c1, c2⟩
          subst c1 c2
          exact a3 (by rw [hs, Int.emod_one])
        · rintro ⟨c1, c2⟩
          subst c1 c2
          exact a2 hc.f
        · rintro ⟨c1, c2⟩
          subst c1 c2
          exact a1 hc.l
      · refine .inl fun c => ?_
        obtain ⟨c1, c2⟩ := c
        subst c1 c2
        exact d (by show 0 < sd y z; omega)
    · rcases q with ⟨e, k⟩ | ⟨l, e, k⟩
      · subst e
        (try simp only [ok_some, ok_none, ok_bind, ok_lift1, ok_lift2, ok_lift3, ok_lift4, ok_bind2, ok_app1, ok_app2, ok_app3, ok_app4, ok_bif, ok_andG, ok_orG, ok_chain, ok_bindOut, bo_nx, bo_rt, bo_bk, bo_ct, ok_finO, fo_nx, fo_rt, nx_nx, nx_rt, ok_mul, ok_mod, ok_div, ok_appG, ok_szG, ok_catG, decide_eq_true_eq, decide_eq_false_iff_not, Bool.not_eq_true', Bool.not_eq_false', cLe, cLt, reduceCtorEq, false_implies, true_implies, implies_true, and_true, true_and])
        exact .inl fun c => k two h2 ⟨c, rfl⟩
      · subst e
        (try simp only [ok_some, ok_none, ok_bind, ok_lift1, ok_lift2, ok_lift3, ok_lift4, ok_bind2, ok_app1, ok_app2, ok_app3, ok_app4, ok_bif, ok_andG, ok_orG, ok_chain, ok_bindOut, bo_nx, bo_rt, bo_bk, bo_ct, ok_finO, fo_nx, fo_rt, nx_nx, nx_rt, ok_mul, ok_mod, ok_div, ok_appG, ok_szG, ok_catG, decide_eq_true_eq, decide_eq_false_iff_not, Bool.not_eq_true', Bool.not_eq_false', cLe, cLt, reduceCtorEq, false_implies, true_implies, implies_true, and_true, true_and])
        exact .inr ⟨_, rfl, k⟩
  · rcases q with ⟨e, k⟩ | ⟨l, e, k⟩
    · exact absurd rfl (k one h1)
    · subst e
      (try simp only [ok_some, ok_none, ok_bind, ok_lift1, ok_lift2, ok_lift3, ok_lift4, ok_bind2, ok_app1, ok_app2, ok_app3, ok_app4, ok_bif, ok_andG, ok_orG, ok_chain, ok_bindOut, bo_nx, bo_rt, bo_bk, bo_ct, ok_finO, fo_nx, fo_rt, nx_nx, nx_rt, ok_mul, ok_mod, ok_div, ok_appG, ok_szG, ok_catG, decide_eq_true_eq, decide_eq_false_iff_not, Bool.not_eq_true', Bool.not_eq_false', cLe, cLt, reduceCtorEq, false_implies, true_implies, implies_true, and_true, true_and])
      exact k
/-! ### what full rows are -/
theorem gat_ad (x y : Z2) (q : PT) : gat (ad x y) q = gat x q + gat y q := by
  unfold gat ad
  simp only [Rat.intCast_add]; grind
theorem gat_sc (k : Int) (x : Z2) (q : PT) : gat (sc k x) q = (k : Rat) * gat x q := by
  unfold gat sc
  simp only [Rat.intCast_mul]; grind
theorem cn_iff {S : List Row} (p : PT) : p ∈ cornersP S ↔ (∃ r, r ∈ S ∧ ∃ s, s ∈ S ∧ sd r.a s.a ≠ 0 ∧ gat r.a p = (r.b : Rat) ∧ gat s.a p = (s.b : Rat)) ∧ ∀ r, r ∈ S → gat r.a p ≤ (r.b : Rat) := by
  rw [corners_iff]
  constructor
  · rintro ⟨⟨r, hr, s, hs, d, e1, e2⟩, h⟩
    obtain ⟨r', hr', z⟩ := List.mem_map.mp hr
    subst z
    obtain ⟨s', hs', z⟩ := List.mem_map.mp hs
    subst z
    refine ⟨⟨r', hr', s', hs', fun c => d ?_, e1, e2⟩, fun t ht => h (r3 t) (List.mem_map_of_mem ht)⟩
    rw [dt_sd, c]; rfl
  · rintro ⟨⟨r, hr, s, hs, d, e1, e2⟩, h⟩
    refine ⟨⟨r3 r, List.mem_map_of_mem hr, r3 s, List.mem_map_of_mem hs, fun c => d ?_, e1, e2⟩, fun t ht => ?_⟩
    · rw [dt_sd] at c; exact Rat.intCast_eq_zero_iff.mp c
    · obtain ⟨t', ht', z⟩ := List.mem_map.mp ht
      subst z
      exact h t' ht'
theorem corner_in {S : List Row} {p : PT} (hp : p ∈ cornersP S) : ∀ r, r ∈ S → gat r.a p ≤ (r.b : Rat) := ((cn_iff p).mp hp).2
theorem pl_two {S : List Row} (h : Good S) {p : PT} (hp : p ∈ cornersP S) {g : Z2} (mx : ∀ q, q ∈ cornersP S → gat g q ≤ gat g p) : ∃ one two, one ∈ plP S p ∧ two ∈ plP S p ∧ sd one two = 1 ∧ Cone one two g := by
  obtain ⟨e, _, he, _, pl⟩ := pl_ok h hp
  obtain ⟨one, two, i1, i2, d, c⟩ := two_plain _ e.a e.b g rfl he.pa he.pb he.pos (max_cone h hp he mx)
  exact ⟨one, two, pl.i _ i1, pl.i _ i2, d, c⟩
theorem pl_max {S : List Row} (h : Good S) {p : PT} (hp : p ∈ cornersP S) {z : Z2} (hz : z ∈ plP S p) {q : PT} (hq : ∀ r, r ∈ S → gat r.a q ≤ (r.b : Rat)) : gat z q ≤ gat z p := by
  obtain ⟨e, _, he, _, pl⟩ := pl_ok h hp
  exact cone_max he (pl.c z hz).1 hq
theorem pl_b {S : List Row} (h : Good S) {p : PT} (hp : p ∈ cornersP S) {z : Z2} (hz : z ∈ plP S p) : z ≠ o2 ∧ (-20 ≤ z.a ∧ z.a ≤ 20) ∧ (-20 ≤ z.b ∧ z.b ≤ 20) := by
  obtain ⟨e, _, he, _, pl⟩ := pl_ok h hp
  exact (pl.c z hz).2
theorem gat_two {f p z : Z2} (h : sd f p = 1) (q : PT) : gat z q = ((sd z p : Int) : Rat) * gat f q + ((sd f z : Int) : Rat) * gat p q := by
  conv => lhs; rw [by_unit (z := z) h]
  rw [gat_ad, gat_sc, gat_sc]
theorem pl_ends {S : List Row} (h : Good S) {p : PT} (hp : p ∈ cornersP S) : ∃ e, m_ends_of S (pq p) = some e ∧ Ends S p e ∧ e.a ∈ plP S p ∧ e.b ∈ plP S p := by
  obtain ⟨e, e1, he, _, pl⟩ := pl_ok h hp
  exact ⟨e, e1, he, pl.i _ (irr_first he.pa he.pos), pl.i _ (irr_last he.pb he.pos)⟩
/-! ### whole numbers -/
def IsI (x : Rat) : Prop := ∃ n : Int, x = (n : Rat)
theorem isI_iff {x : Rat} : IsI x ↔ ¬ (1 < (ofR x).b) := by
  have hd := x.den_pos
  show IsI x ↔ ¬ (1 < (x.den : Int))
  constructor
  · rintro ⟨n, e⟩
    subst e
    rw [Rat.den_intCast]; decide
  · intro h
    have : x.den = 1 := by omega
    refine ⟨x.num, ?_⟩
    have e := Rat.mkRat_self x
    rw [this] at e
    have e2 := Rat.mkRat_one x.num
    exact e.symm.trans e2
theorem int_den {x : Rat} (h : IsI x) : ((ofR x).a : Rat) = x := by
  obtain ⟨n, e⟩ := h
  subst e
  show (((n : Rat).num : Int) : Rat) = n
  rw [Rat.num_intCast]
theorem whole_iff {S : List Row} (h : Good S) : (∀ y, y ∈ frP S → ¬ (1 < y.b.b)) ↔ ∀ p, p ∈ cornersP S → ¬ (1 < (pq p).a.b) ∧ ¬ (1 < (pq p).b.b) := by
  constructor
  · intro k p hp
    obtain ⟨e, _, he, _, _⟩ := pl_ends h hp
    obtain ⟨one, two, h1, h2, d, _⟩ := pl_two h hp (g := e.a) fun q hq => cone_max he ⟨by rw [sd_self]; decide, Int.le_of_lt he.pos⟩ (corner_in hq)
    obtain ⟨m, em⟩ := isI_iff.mpr (k _ (frP_mem.mpr ⟨p, hp, one, h1, rfl⟩))
    obtain ⟨n, en⟩ := isI_iff.mpr (k _ (frP_mem.mpr ⟨p, hp, two, h2, rfl⟩))
    have dq : (one.a : Rat) * two.b - (one.b : Rat) * two.a = 1 := by
      have : ((sd one two : Int) : Rat) = ((1 : Int) : Rat) := by rw [d]
      unfold sd at this
      rw [Rat.intCast_sub, Rat.intCast_mul, Rat.intCast_mul] at this
      exact this
    unfold gat at em en
    refine ⟨isI_iff.mp ⟨m * two.b - n * one.b, ?_⟩, isI_iff.mp ⟨one.a * n - two.a * m, ?_⟩⟩
    · rw [Rat.intCast_sub, Rat.intCast_mul, Rat.intCast_mul, ← em, ← en]
      grind
    · rw [Rat.intCast_sub, Rat.intCast_mul, Rat.intCast_mul, ← em, ← en]
      grind
  · intro k y hy
    obtain ⟨p, hp, z, hz, e⟩ := frP_mem.mp hy
    subst e
    obtain ⟨k1, k2⟩ := k p hp
    obtain ⟨m, em⟩ := isI_iff.mpr k1
    obtain ⟨n, en⟩ := isI_iff.mpr k2
    refine isI_iff.mp ⟨z.a * m + z.b * n, ?_⟩
    unfold gat
    rw [em, en, Rat.intCast_add, Rat.intCast_mul, Rat.intCast_mul]
/-! ### the system of the full rows -/
structure Sm (S T : List Row) : Prop where
  i : ∀ r, r ∈ T → ∃ p, p ∈ cornersP S ∧ r.a ∈ plP S p ∧ gat r.a p = (r.b : Rat)
  o : ∀ p, p ∈ cornersP S → ∀ z, z ∈ plP S p → ∃ r, r ∈ T ∧ r.a = z ∧ gat z p = (r.b : Rat)
theorem sm_in {S T : List Row} (h : Good S) (hs : Sm S T) (q : PT) : (∀ r, r ∈ S → gat r.a q ≤ (r.b : Rat)) ↔ ∀ r, r ∈ T → gat r.a q ≤ (r.b : Rat) := by
  constructor
  · intro k r hr
    obtain ⟨p, hp, hz, e⟩ := hs.i r hr
    rw [← e]; exact pl_max h hp hz k
  · intro k t ht
    obtain ⟨v, ⟨⟨c, hc, ev⟩, le⟩⟩ := max_ex h t.a
    obtain ⟨one, two, h1, h2, d, cn⟩ := pl_two h hc (g := t.a) fun q hq => by rw [ev]; exact le q hq
    obtain ⟨r1, m1, e1, f1⟩ := hs.o c hc one h1
    obtain ⟨r2, m2, e2, f2⟩ := hs.o c hc two h2
    have k1 := k r1 m1
    have k2 := k r2 m2
    rw [e1, ← f1] at k1
    rw [e2, ← f2] at k2
    have tc := corner_in hc t ht
    rw [gat_two (z := t.a) d] at tc ⊢
    have a0 : (0 : Rat) ≤ ((sd t.a two : Int) : Rat) := Rat.intCast_nonneg.mpr cn.l
    have b0 : (0 : Rat) ≤ ((sd one t.a : Int) : Rat) := Rat.intCast_nonneg.mpr cn.f
    have x1 := Rat.mul_le_mul_of_nonneg_left k1 a0
    have x2 := Rat.mul_le_mul_of_nonneg_left k2 b0
    grind
theorem sm_bd {S T : List Row} (h : Good S) (hs : Sm S T) : ∀ x y : Rat, (x ≠ 0 ∨ y ≠ 0) → ∃ r, r ∈ T ∧ 0 < (r.a.a : Rat) * x + (r.a.b : Rat) * y := fun x y n => by
  obtain ⟨t, ht, pos⟩ := h.s.b x y n
  obtain ⟨v, ⟨⟨c, hc, ev⟩, le⟩⟩ := max_ex h t.a
  obtain ⟨one, two, h1, h2, d, cn⟩ := pl_two h hc (g := t.a) fun q hq => by rw [ev]; exact le q hq
  obtain ⟨r1, m1, e1, f1⟩ := hs.o c hc one h1
  obtain ⟨r2, m2, e2, f2⟩ := hs.o c hc two h2
  have pos : 0 < gat t.a ⟨x, y⟩ := pos
  rw [gat_two (z := t.a) d] at pos
  have a0 : (0 : Rat) ≤ ((sd t.a two : Int) : Rat) := Rat.intCast_nonneg.mpr cn.l
  have b0 : (0 : Rat) ≤ ((sd one t.a : Int) : Rat) := Rat.intCast_nonneg.mpr cn.f
  by_cases c1 : 0 < gat one ⟨x, y⟩
  · exact ⟨r1, m1, by rw [e1]; exact c1⟩
  · by_cases c2 : 0 < gat two ⟨x, y⟩
    · exact ⟨r2, m2, by rw [e2]; exact c2⟩
    · exfalso
      have x1 := Rat.mul_le_mul_of_nonneg_left (Rat.not_lt.mp c1) a0
      have x2 := Rat.mul_le_mul_of_nonneg_left (Rat.not_lt.mp c2) b0
      grind
theorem par {a b c : Z2} (n : a ≠ o2) (h1 : sd a b = 0) (h2 : sd a c = 0) : sd b c = 0 := by
  have e1 : a.a * sd b c = b.a * sd a c - c.a * sd a b := by unfold sd; grind
  have e2 : a.b * sd b c = b.b * sd a c - c.b * sd a b := by unfold sd; grind
  rw [h1, h2] at e1 e2
  have e1 : a.a * sd b c = 0 := by omega
  have e2 : a.b * sd b c = 0 := by omega
  rcases Int.mul_eq_zero.mp e1 with z | z
  · rcases Int.mul_eq_zero.mp e2 with w | w
    · exact absurd (z2_ext z w) n
    · exact w
  · exact z
theorem sm_key {S T : List Row} (h : Good S) (hs : Sm S T) {p : PT} (hp : ∀ r, r ∈ S → gat r.a p ≤ (r.b : Rat)) {r : Row} (hr : r ∈ T) (et : gat r.a p = (r.b : Rat)) : p ∈ cornersP S ∨ ∃ t, t ∈ S ∧ gat t.a p = (t.b : Rat) ∧ sd t.a r.a = 0 ∧ t.a ≠ o2 := by
  obtain ⟨c, hc, hz, ec⟩ := hs.i r hr
  obtain ⟨e, _, he, _, pl⟩ := pl_ok h hc
  obtain ⟨cn, ne, _⟩ := pl.c _ hz
  have ka := cone_max he ⟨by rw [sd_self]; decide, Int.le_of_lt he.pos⟩ (g := e.a) hp
  have kb := cone_max he ⟨Int.le_of_lt he.pos, by rw [sd_self]; decide⟩ (g := e.b) hp
  obtain ⟨ra, hra, ta, k, hk, ea⟩ := he.ra
  obtain ⟨rb, hrb, tb, m, hm, eb⟩ := he.rb
  have cf := coef (f := e.a) (l := e.b) (z := r.a)
  have lin : ∀ q, ((sd e.a e.b : Int) : Rat) * gat r.a q = ((sd r.a e.b : Int) : Rat) * gat e.a q + ((sd e.a r.a : Int) : Rat) * gat e.b q := fun q => by
    have z : sc (sd e.a e.b) r.a = ad (sc (sd r.a e.b) e.a) (sc (sd e.a r.a) e.b) := z2_ext cf.1 cf.2
    rw [← gat_sc, z, gat_ad, gat_sc, gat_sc]
  have l1 := lin p
  have l2 := lin c
  rw [et] at l1
  rw [ec] at l2
  have a0 : (0 : Rat) ≤ ((sd r.a e.b : Int) : Rat) := Rat.intCast_nonneg.mpr cn.l
  have b0 : (0 : Rat) ≤ ((sd e.a r.a : Int) : Rat) := Rat.intCast_nonneg.mpr cn.f
  have x1 := Rat.mul_nonneg a0 (show 0 ≤ gat e.a c - gat e.a p by grind)
  have x2 := Rat.mul_nonneg b0 (show 0 ≤ gat e.b c - gat e.b p by grind)
  have y1 : ((sd r.a e.b : Int) : Rat) * (gat e.a c - gat e.a p) = 0 := by grind
  have y2 : ((sd e.a r.a : Int) : Rat) * (gat e.b c - gat e.b p) = 0 := by grind
  have tight : ∀ {t : Row} {x : Z2} {k : Int}, t.a = sc k x → gat t.a c = (t.b : Rat) → gat x c = gat x p → gat t.a p = (t.b : Rat) := fun {t x k} e1 e2 e3 => by
    rw [← e2, e1, gat_sc, gat_sc, e3]
  have nea : ra.a ≠ o2 := row_ne (h.s.r ra hra)
  have neb : rb.a ≠ o2 := row_ne (h.s.r rb hrb)
  by_cases ca : sd r.a e.b = 0
  · by_cases cb : sd e.a r.a = 0
    · exfalso
      obtain ⟨c1, c2⟩ := cf
      rw [ca, cb] at c1 c2
      have c1 : sd e.a e.b * r.a.a = 0 := by omega
      have c2 : sd e.a e.b * r.a.b = 0 := by omega
      have ps := he.pos
      refine ne (z2_ext ?_ ?_)
      · rcases Int.mul_eq_zero.mp c1 with z | z
        · omega
        · exact z
      · rcases Int.mul_eq_zero.mp c2 with z | z
        · omega
        · exact z
    · have cbq : ((sd e.a r.a : Int) : Rat) ≠ 0 := fun z => cb (Rat.intCast_eq_zero_iff.mp z)
      have : gat e.b c - gat e.b p = 0 := (Rat.mul_eq_zero.mp y2).resolve_left cbq
      refine .inr ⟨rb, hrb, tight eb tb (by grind), ?_, neb⟩
      rw [eb, sd_sc_l, sd_anti, ca]; omega
  · have caq : ((sd r.a e.b : Int) : Rat) ≠ 0 := fun z => ca (Rat.intCast_eq_zero_iff.mp z)
    have q1 : gat e.a c - gat e.a p = 0 := (Rat.mul_eq_zero.mp y1).resolve_left caq
    have t1 := tight ea ta (by grind)
    by_cases cb : sd e.a r.a = 0
    · refine .inr ⟨ra, hra, t1, ?_, nea⟩
      rw [ea, sd_sc_l, cb]; omega
    · have cbq : ((sd e.a r.a : Int) : Rat) ≠ 0 := fun z => cb (Rat.intCast_eq_zero_iff.mp z)
      have q2 : gat e.b c - gat e.b p = 0 := (Rat.mul_eq_zero.mp y2).resolve_left cbq
      have t2 := tight eb tb (by grind)
      refine .inl ((cn_iff p).mpr ⟨⟨ra, hra, rb, hrb, ?_, t1, t2⟩, hp⟩)
      rw [ea, eb, sd_sc_l, sd_sc_r]
      have := Int.mul_pos hk (Int.mul_pos hm he.pos)
      omega
theorem sm_cn {S T : List Row} (h : Good S) (hs : Sm S T) (p : PT) : p ∈ cornersP S ↔ p ∈ cornersP T := by
  constructor
  · intro hp
    obtain ⟨e, _, he, ma, mb⟩ := pl_ends h hp
    obtain ⟨r, hr, er, fr⟩ := hs.o p hp _ ma
    obtain ⟨s, hs', es, fs⟩ := hs.o p hp _ mb
    have ps := he.pos
    exact (cn_iff p).mpr ⟨⟨r, hr, s, hs', by rw [er, es]; omega, by rw [er]; exact fr, by rw [es]; exact fs⟩, (sm_in h hs p).mp (corner_in hp)⟩
  · intro hp
    obtain ⟨⟨r, hr, s, hs', d, er, es⟩, k⟩ := (cn_iff p).mp hp
    have k := (sm_in h hs p).mpr k
    rcases sm_key h hs k hr er with z | ⟨t, ht, et, dt, nt⟩
    · exact z
    · rcases sm_key h hs k hs' es with z | ⟨u, hu, eu, du, nu⟩
      · exact z
      · refine (cn_iff p).mpr ⟨⟨t, ht, u, hu, fun c => d ?_, et, eu⟩, k⟩
        have a := par nt dt c
        have b : sd u.a r.a = 0 := by rw [sd_anti, a]; rfl
        exact par nu b du
theorem sm_corners {S T : List Row} (h : Good S) (hs : Sm S T) : cornersP T = cornersP S := srt_uniq (corners_srt _ _) (corners_srt _ _) fun p => (sm_cn h hs p).symm
theorem sm_good {S T : List Row} (h : Good S) (hs : Sm S T) (l : 3 ≤ T.length ∧ T.length ≤ 8) (r : ∀ r, r ∈ T → RowOk r) : Good T := ⟨⟨l, r, sm_bd h hs⟩, by rw [sm_corners h hs]; exact h.w⟩
theorem sm_pl {S T : List Row} (h : Good S) (hT : Good T) (hs : Sm S T) {p : PT} (hp : p ∈ cornersP S) : plP T p = plP S p := by
  obtain ⟨e, e1, he, ma, mb⟩ := pl_ends h hp
  obtain ⟨e', e2, he', _⟩ := pl_ends hT (by rw [sm_corners h hs]; exact hp)
  obtain ⟨r, hr, er, fr⟩ := hs.o p hp _ ma
  obtain ⟨s, hs', es, fs⟩ := hs.o p hp _ mb
  have unit : ∀ x : Z2, sc 1 x = x := fun x => z2_ext (by show 1 * x.a = x.a; omega) (by show 1 * x.b = x.b; omega)
  have u := ends_uniq he he' (fun t ht et => max_cone h hp he fun q hq => by rw [et]; exact (sm_in h hs q).mp (corner_in hq) t ht)
    ⟨r, hr, by rw [er]; exact fr, 1, by decide, by rw [unit]; exact er⟩ ⟨s, hs', by rw [es]; exact fs, 1, by decide, by rw [unit]; exact es⟩
  unfold plP
  rw [e1, e2, u]
theorem frN_congr {S T : List Row} : ∀ {C : List PT} {F : List FR}, (∀ p, p ∈ C → plP T p = plP S p) → frN T C F = frN S C F
  | [], _, _ => rfl
  | p :: C, F, h => by
    unfold frN
    rw [h p (by simp), frN_congr fun q hq => h q (by simp [hq])]
theorem sm_fr {S T : List Row} (h : Good S) (hT : Good T) (hs : Sm S T) : frP T = frP S := by
  unfold frP
  rw [sm_corners h hs]
  exact frN_congr fun p hp => sm_pl h hT hs hp
/-! ### and it is dually whole -/
theorem broken_eq {S T : List Row} (h : Good S) (hT : Good T) (hs : Sm S T) : m_broken_of T = some [] := by
  rw [ok_iff]
  unfold m_broken_of b_broken_of
  (try simp only [ok_some, ok_none, ok_bind, ok_lift1, ok_lift2, ok_lift3, ok_lift4, ok_bind2, ok_app1, ok_app2, ok_app3, ok_app4, ok_bif, ok_andG, ok_orG, ok_chain, ok_bindOut, bo_nx, bo_rt, bo_bk, bo_ct, ok_finO, fo_nx, fo_rt, nx_nx, nx_rt, ok_mul, ok_mod, ok_div, ok_appG, ok_szG, ok_catG, decide_eq_true_eq, decide_eq_false_iff_not, Bool.not_eq_true', Bool.not_eq_false', cLe, cLt, reduceCtorEq, false_implies, true_implies, implies_true, and_true, true_and])
  refine ⟨by simp, ok_of (corners_of_eq hT.s.l.2 hT.s.r) (ok_for (fun i s => s = []) rfl (fun i s y hy hss => ?_) fun s hss => ?_)⟩
  · subst hss
    obtain ⟨p, hp, e⟩ := mem_pq (List.mem_of_getElem? hy)
    subst e
    obtain ⟨e, e1, _, e2, pl⟩ := pl_ok hT hp
    have pb := hT.pb p hp
    (try simp only [ok_some, ok_none, ok_bind, ok_lift1, ok_lift2, ok_lift3, ok_lift4, ok_bind2, ok_app1, ok_app2, ok_app3, ok_app4, ok_bif, ok_andG, ok_orG, ok_chain, ok_bindOut, bo_nx, bo_rt, bo_bk, bo_ct, ok_finO, fo_nx, fo_rt, nx_nx, nx_rt, ok_mul, ok_mod, ok_div, ok_appG, ok_szG, ok_catG, decide_eq_true_eq, decide_eq_false_iff_not, Bool.not_eq_true', Bool.not_eq_false', cLe, cLt, reduceCtorEq, false_implies, true_implies, implies_true, and_true, true_and])
    refine ok_of (tight_eq hT.s.r pb) (ok_of (lcL_map (f := fun i : Int => (T.getD i.toNat ⟨⟨0, 0⟩, 0⟩).a) fun i hi => ?_) (ok_of e1 (ok_of e2 (ok_of (lcL_filter (p := fun _ => false) fun x hx => ?_) ?_))))
    · obtain ⟨r, ei, i0, i1, it⟩ := tight_mem.mp hi
      rw [bind2_some, ei, lift1_some]
      rw [atI_eq i0 i1] at ei
      rw [List.getD_eq_getElem?_getD, ei]; rfl
    · have hp' : p ∈ cornersP S := by rw [← sm_corners h hs]; exact hp
      rw [sm_pl h hT hs hp'] at hx
      obtain ⟨r, hr, er, fr⟩ := hs.o p hp' x hx
      obtain ⟨j, hj⟩ := List.mem_iff_getElem?.mp hr
      have lj := (List.getElem?_eq_some_iff.mp hj).1
      have m : x ∈ (tightB T p).map (fun i : Int => (T.getD i.toNat ⟨⟨0, 0⟩, 0⟩).a) := List.mem_map.mpr ⟨(j : Int), tight_mem.mpr ⟨r, atE hj, by omega, by omega, by rw [er]; exact fr⟩, by rw [Int.toNat_natCast, List.getD_eq_getElem?_getD, hj]; exact er⟩
      have m' : decide (x ∈ (tightB T p).map (fun i : Int => (T.getD i.toNat ⟨⟨0, 0⟩, 0⟩).a)) = true := decide_eq_true m
      simp only [lift2_some, m']
      rfl
    · have z : (plP T p).filter (fun _ => false) = [] := by rw [List.filter_eq_nil_iff]; simp
      rw [z]
      exact ⟨by decide, rfl⟩
  · subst hss
    (try simp only [ok_some, ok_none, ok_bind, ok_lift1, ok_lift2, ok_lift3, ok_lift4, ok_bind2, ok_app1, ok_app2, ok_app3, ok_app4, ok_bif, ok_andG, ok_orG, ok_chain, ok_bindOut, bo_nx, bo_rt, bo_bk, bo_ct, ok_finO, fo_nx, fo_rt, nx_nx, nx_rt, ok_mul, ok_mod, ok_div, ok_appG, ok_szG, ok_catG, decide_eq_true_eq, decide_eq_false_iff_not, Bool.not_eq_true', Bool.not_eq_false', cLe, cLt, reduceCtorEq, false_implies, true_implies, implies_true, and_true, true_and])
    exact ok_sortD rfl (by simp) (by simp)
theorem dual_eq {S T : List Row} (h : Good S) (hT : Good T) (hs : Sm S T) : m_is_dually_whole T = some true := by
  rw [ok_iff]
  unfold m_is_dually_whole b_is_dually_whole
  (try simp only [ok_some, ok_none, ok_bind, ok_lift1, ok_lift2, ok_lift3, ok_lift4, ok_bind2, ok_app1, ok_app2, ok_app3, ok_app4, ok_bif, ok_andG, ok_orG, ok_chain, ok_bindOut, bo_nx, bo_rt, bo_bk, bo_ct, ok_finO, fo_nx, fo_rt, nx_nx, nx_rt, ok_mul, ok_mod, ok_div, ok_appG, ok_szG, ok_catG, decide_eq_true_eq, decide_eq_false_iff_not, Bool.not_eq_true', Bool.not_eq_false', cLe, cLt, reduceCtorEq, false_implies, true_implies, implies_true, and_true, true_and])
  exact ok_of (check_eq hT.s hT.w) (ok_of (broken_eq h hT hs) rfl)
end Lay.K36

set_option Elab.async false
set_option linter.all false
set_option maxRecDepth 100000
namespace Lay.K36
open PySem PySem.Spec PyProof.Rows L2 Lay
open Lay.Enc (enc)
/-! ### the systems of the law -/
theorem row_of {a b l : Int} (h : (-10 ≤ a ∧ a ≤ 10) ∧ (-10 ≤ b ∧ b ≤ 10) ∧ ((⟨a, b⟩ : T2 Int Int) ≠ ⟨0, 0⟩)) (hl : -100 ≤ l ∧ l ≤ 100) : RowOk ⟨⟨a, b⟩, l⟩ := ⟨h.1, h.2.1, hl, h.2.2⟩
def Bd (S : List Row) : Prop := ∀ x y : Rat, (x ≠ 0 ∨ y ≠ 0) → ∃ r, r ∈ S ∧ 0 < (r.a.a : Rat) * x + (r.a.b : Rat) * y
theorem bd_tri {f : Int} : Bd [⟨⟨1, 1⟩, f⟩, ⟨⟨-1, 0⟩, 0⟩, ⟨⟨0, -1⟩, 0⟩] := fun x y h => by
  have q1 : ((1 : Int) : Rat) = 1 := rfl
  have q2 : ((-1 : Int) : Rat) = -1 := rfl
  have q0 : ((0 : Int) : Rat) = 0 := rfl
  by_cases c : x < 0
  · exact ⟨⟨⟨-1, 0⟩, 0⟩, by simp, by simp only [q0, q2]; grind⟩
  · by_cases d : y < 0
    · exact ⟨⟨⟨0, -1⟩, 0⟩, by simp, by simp only [q0, q2]; grind⟩
    · exact ⟨⟨⟨1, 1⟩, f⟩, by simp, by simp only [q1]; grind⟩
theorem bd_box {a b c d : Int} {m : List Row} : Bd ([⟨⟨1, 0⟩, a⟩, ⟨⟨-1, 0⟩, b⟩, ⟨⟨0, 1⟩, c⟩, ⟨⟨0, -1⟩, d⟩] ++ m) := fun x y h => by
  have q1 : ((1 : Int) : Rat) = 1 := rfl
  have q2 : ((-1 : Int) : Rat) = -1 := rfl
  have q0 : ((0 : Int) : Rat) = 0 := rfl
  by_cases c1 : x < 0
  · exact ⟨⟨⟨-1, 0⟩, b⟩, by simp, by simp only [q0, q2]; grind⟩
  · by_cases c2 : 0 < x
    · exact ⟨⟨⟨1, 0⟩, a⟩, by simp, by simp only [q0, q1]; grind⟩
    · by_cases d1 : y < 0
      · exact ⟨⟨⟨0, -1⟩, d⟩, by simp, by simp only [q0, q2]; grind⟩
      · exact ⟨⟨⟨0, 1⟩, c⟩, by simp, by simp only [q0, q1]; grind⟩
theorem Bd.app {S m : List Row} (h : Bd S) : Bd (S ++ m) := fun x y k => let ⟨r, hr, z⟩ := h x y k; ⟨r, List.mem_append_left _ hr, z⟩
def sysStep (ds : List Int) (k top : Int) (s7 : List Row) (y8 : Int) : Option (Out (List Row) (List Row) (List Row)) :=
  (lift2 (fun x1 x2 => x1 - x2) (app3 m__law_mix (some ds) (lift2 (fun x1 x2 => x1 + x2) (lift2 (fun x1 x2 => x1 + x2) (some k) (some 10)) (bind2 mulG (some 4) (some y8))) (lift2 (fun x1 x2 => x1 + x2) (bind2 mulG (some 2) (some top)) (some 1))) (some top)).bind fun v_p_9 =>
  (lift2 (fun x1 x2 => x1 - x2) (app3 m__law_mix (some ds) (lift2 (fun x1 x2 => x1 + x2) (lift2 (fun x1 x2 => x1 + x2) (some k) (some 11)) (bind2 mulG (some 4) (some y8))) (lift2 (fun x1 x2 => x1 + x2) (bind2 mulG (some 2) (some top)) (some 1))) (some top)).bind fun v_q_10 =>
  (lift2 (fun x y => !decide (x = y)) (lift2 T2.mk (some v_p_9) (some v_q_10)) (lift2 T2.mk (some 0) (some 0))).bind fun t =>
  bindOut (bif t then ((lift2 T2.mk (lift2 T2.mk (some v_p_9) (some v_q_10)) (lift2 (fun x1 x2 => x1 - x2) (app3 m__law_mix (some ds) (lift2 (fun x1 x2 => x1 + x2) (lift2 (fun x1 x2 => x1 + x2) (some k) (some 12)) (bind2 mulG (some 4) (some y8))) (some 30)) (some 2))).bind (appG s7)).bind fun v12 => some (Out.nx v12) else some (Out.nx s7)) fun v12 => some (Out.nx v12)

/-! ### drawn systems -/
def one1 (r : Row) : Prop := (-1 ≤ r.a.a ∧ r.a.a ≤ 1) ∧ (-1 ≤ r.a.b ∧ r.a.b ≤ 1)
theorem one_of {a b l : Int} (h : (-1 ≤ a ∧ a ≤ 1) ∧ (-1 ≤ b ∧ b ≤ 1)) : one1 ⟨⟨a, b⟩, l⟩ := h
structure Sy (S : List Row) : Prop where
  s : SysOk S
  c : ∃ base m, S = base ++ m ∧ Bd base ∧ 3 ≤ base.length ∧ ∀ r, r ∈ base → one1 r
theorem sys_loop {ds : List Int} (hd : DB ds) {k top : Int} (h0 : 0 ≤ k) (h1 : k < 2 ^ 30) (ht : 2 ≤ top ∧ top ≤ 10) {base : List Row} (b1 : 3 ≤ base.length) (b2 : base.length ≤ 4) (hr : ∀ r, r ∈ base → RowOk r) (hb : Bd base) (ho : ∀ r, r ∈ base → one1 r) {n : Int} (n0 : 0 ≤ n) (n1 : n < 9 - base.length) :
    Ok (rng1 n) fun l => Ok (forL (sysStep ds k top) base l) (BO (fun s7 => (some s7).bind fun r => some (Out.rt r)) (FO none Sy)) := by
  refine ok_rng1 n0 (by omega) (ok_for (fun i s => s.length ≤ base.length + i ∧ (∀ r, r ∈ s → RowOk r) ∧ ∃ m, s = base ++ m) ⟨by omega, hr, [], by simp⟩ (fun i s y hy hs => ?_) fun s hs => ?_)
  · obtain ⟨hi, rfl⟩ := rng_get hy
    obtain ⟨s1, s3, m, s4⟩ := hs
    unfold sysStep
    (try simp only [ok_some, ok_none, ok_bind, ok_lift1, ok_lift2, ok_lift3, ok_lift4, ok_bind2, ok_app1, ok_app2, ok_app3, ok_app4, ok_bif, ok_andG, ok_orG, ok_chain, ok_bindOut, bo_nx, bo_rt, bo_bk, bo_ct, ok_finO, fo_nx, fo_rt, nx_nx, nx_rt, ok_mul, ok_mod, ok_div, ok_appG, ok_szG, ok_catG, decide_eq_true_eq, decide_eq_false_iff_not, Bool.not_eq_true', Bool.not_eq_false', cLe, cLt, reduceCtorEq, false_implies, true_implies, implies_true, and_true, true_and])
    refine ⟨mulOk (by omega) (by omega), mulOk (by omega) (by omega), ok_mono (mix_ok hd (by omega) (by omega) (by omega)) fun p hp => ⟨mulOk (by omega) (by omega), mulOk (by omega) (by omega), ok_mono (mix_ok hd (by omega) (by omega) (by omega)) fun q hq => ⟨fun ne => ⟨mulOk (by omega) (by omega), ok_mono (mix_ok hd (by omega) (by omega) (by decide)) fun l hl => ⟨by omega, by simp; omega, fun r hr => ?_, m ++ [⟨⟨p - top, q - top⟩, l - 2⟩], by rw [s4]; simp⟩⟩, fun e => ⟨by omega, s3, m, s4⟩⟩⟩⟩
    rw [List.mem_append, List.mem_singleton] at hr
    rcases hr with z | z
    · exact s3 r z
    · subst z
      exact ⟨by show -10 ≤ p - top ∧ p - top ≤ 10; omega, by show -10 ≤ q - top ∧ q - top ≤ 10; omega, by show -100 ≤ l - 2 ∧ l - 2 ≤ 100; omega, ne⟩
  · (try simp only [ok_some, ok_none, ok_bind, ok_lift1, ok_lift2, ok_lift3, ok_lift4, ok_bind2, ok_app1, ok_app2, ok_app3, ok_app4, ok_bif, ok_andG, ok_orG, ok_chain, ok_bindOut, bo_nx, bo_rt, bo_bk, bo_ct, ok_finO, fo_nx, fo_rt, nx_nx, nx_rt, ok_mul, ok_mod, ok_div, ok_appG, ok_szG, ok_catG, decide_eq_true_eq, decide_eq_false_iff_not, Bool.not_eq_true', Bool.not_eq_false', cLe, cLt, reduceCtorEq, false_implies, true_implies, implies_true, and_true, true_and])
    obtain ⟨s1, s3, m, s4⟩ := hs
    rw [rng_len] at s1
    have lm : 3 ≤ s.length := by rw [s4, List.length_append]; omega
    exact ⟨⟨⟨lm, by omega⟩, s3, by rw [s4]; exact hb.app⟩, base, m, s4, hb, b1, ho⟩
theorem system_ok {ds : List Int} (hd : DB ds) {k : Int} (h0 : 0 ≤ k) (h1 : k < 2 ^ 30) : Ok (m__law_system ds k) Sy := by
  unfold m__law_system b__law_system
  (try simp only [ok_some, ok_none, ok_bind, ok_lift1, ok_lift2, ok_lift3, ok_lift4, ok_bind2, ok_app1, ok_app2, ok_app3, ok_app4, ok_bif, ok_andG, ok_orG, ok_chain, ok_bindOut, bo_nx, bo_rt, bo_bk, bo_ct, ok_finO, fo_nx, fo_rt, nx_nx, nx_rt, ok_mul, ok_mod, ok_div, ok_appG, ok_szG, ok_catG, decide_eq_true_eq, decide_eq_false_iff_not, Bool.not_eq_true', Bool.not_eq_false', cLe, cLt, reduceCtorEq, false_implies, true_implies, implies_true, and_true, true_and])
  refine ⟨by simp, ok_mono (mix_ok hd h0 (by omega) (by decide)) fun w hw => ok_atI hw.1 (by simp; omega) fun top _ hm => ?_⟩
  have htop : 2 ≤ top ∧ top ≤ 10 := by
    have hm : top = 2 ∨ top = 5 ∨ top = 10 := by simpa using hm
    omega
  refine ok_mono (mix_ok hd (by omega) (by omega) (by decide)) fun far hfar => ?_
  refine ⟨by simp, ok_mono (mix_ok hd (by omega) (by omega) (by decide)) fun w hw => ⟨fun c => ?_, fun c => ?_⟩⟩
  · refine ok_mono (mix_ok hd (by omega) (by omega) (by decide)) fun y hy => ⟨by simp, ok_mono (mix_ok hd (by omega) (by omega) (by decide)) fun y1 hy1 => ok_mono (mix_ok hd (by omega) (by omega) (by decide)) fun y2 hy2 => ⟨by simp, by simp, ok_mono (mix_ok hd (by omega) (by omega) (by simp)) fun n hn => ?_⟩⟩
    refine sys_loop hd h0 h1 htop (by simp) (by simp) (fun r hr => ?_) (bd_box (m := [])) (fun r hr => ?_) hn.1 hn.2
    · have hr : r = ⟨⟨1, 0⟩, 1 + far⟩ ∨ r = ⟨⟨-1, 0⟩, y⟩ ∨ r = ⟨⟨0, 1⟩, 1 + y1⟩ ∨ r = ⟨⟨0, -1⟩, y2⟩ := by simpa using hr
      rcases hr with z | z | z | z <;> subst z
      · exact row_of (by decide) (by omega)
      · exact row_of (by decide) (by omega)
      · exact row_of (by decide) (by omega)
      · exact row_of (by decide) (by omega)
    · have hr : r = ⟨⟨1, 0⟩, 1 + far⟩ ∨ r = ⟨⟨-1, 0⟩, y⟩ ∨ r = ⟨⟨0, 1⟩, 1 + y1⟩ ∨ r = ⟨⟨0, -1⟩, y2⟩ := by simpa using hr
      rcases hr with z | z | z | z <;> subst z <;> exact one_of (by decide)
  · refine ok_mono (mix_ok hd (by omega) (by omega) (by simp)) fun n hn => ?_
    refine sys_loop hd h0 h1 htop (by simp) (by simp) (fun r hr => ?_) bd_tri (fun r hr => ?_) hn.1 hn.2
    · have hr : r = ⟨⟨1, 1⟩, 1 + far⟩ ∨ r = ⟨⟨-1, 0⟩, 0⟩ ∨ r = ⟨⟨0, -1⟩, 0⟩ := by simpa using hr
      rcases hr with z | z | z <;> subst z
      · exact row_of (by decide) (by omega)
      · exact ⟨by decide, by decide, by decide, by decide⟩
      · exact ⟨by decide, by decide, by decide, by decide⟩
    · have hr : r = ⟨⟨1, 1⟩, 1 + far⟩ ∨ r = ⟨⟨-1, 0⟩, 0⟩ ∨ r = ⟨⟨0, -1⟩, 0⟩ := by simpa using hr
      rcases hr with z | z | z <;> subst z <;> exact one_of (by decide)
def backS : List Row := [⟨⟨1, 0⟩, 3⟩, ⟨⟨-1, 0⟩, 0⟩, ⟨⟨0, 1⟩, 2⟩, ⟨⟨0, -1⟩, 1⟩, ⟨⟨2, 3⟩, 7⟩]
theorem back_good : Good backS := by
  refine ⟨⟨by decide, fun r hr => ?_, bd_box (m := [⟨⟨2, 3⟩, 7⟩])⟩, by decide +kernel⟩
  have hr : r = ⟨⟨1, 0⟩, 3⟩ ∨ r = ⟨⟨-1, 0⟩, 0⟩ ∨ r = ⟨⟨0, 1⟩, 2⟩ ∨ r = ⟨⟨0, -1⟩, 1⟩ ∨ r = ⟨⟨2, 3⟩, 7⟩ := by simpa [backS] using hr
  rcases hr with z | z | z | z | z <;> subst z <;> exact ⟨by decide, by decide, by decide, by decide⟩
theorem back_sy : Sy backS := by
  refine ⟨back_good.s, [⟨⟨1, 0⟩, 3⟩, ⟨⟨-1, 0⟩, 0⟩, ⟨⟨0, 1⟩, 2⟩, ⟨⟨0, -1⟩, 1⟩], [⟨⟨2, 3⟩, 7⟩], rfl, bd_box (m := []), by decide, fun r hr => ?_⟩
  have hr : r = ⟨⟨1, 0⟩, 3⟩ ∨ r = ⟨⟨-1, 0⟩, 0⟩ ∨ r = ⟨⟨0, 1⟩, 2⟩ ∨ r = ⟨⟨0, -1⟩, 1⟩ := by simpa using hr
  rcases hr with z | z | z | z <;> subst z <;> exact one_of (by decide)
theorem good_ok {ds : List Int} (hd : DB ds) {k : Int} (h0 : 0 ≤ k) (h1 : k < 2 ^ 30) : Ok (m__law_good ds k) Sy := by
  unfold m__law_good b__law_good
  (try simp only [ok_some, ok_none, ok_bind, ok_lift1, ok_lift2, ok_lift3, ok_lift4, ok_bind2, ok_app1, ok_app2, ok_app3, ok_app4, ok_bif, ok_andG, ok_orG, ok_chain, ok_bindOut, bo_nx, bo_rt, bo_bk, bo_ct, ok_finO, fo_nx, fo_rt, nx_nx, nx_rt, ok_mul, ok_mod, ok_div, ok_appG, ok_szG, ok_catG, decide_eq_true_eq, decide_eq_false_iff_not, Bool.not_eq_true', Bool.not_eq_false', cLe, cLt, reduceCtorEq, false_implies, true_implies, implies_true, and_true, true_and])
  refine ok_mono (system_ok hd h0 h1) fun S hS => ?_
  exact ok_of (law_corners_eq hS.s.l.2 hS.s.r) (ok_of (law_wide_eq fun p hp => corners_pb hS.s.r hp) ⟨fun c => hS, fun _ => ⟨by simp, back_sy⟩⟩)
theorem Sy.cut {S : List Row} (h : Sy S) {f : Row → Bool} (hf : ∀ r, one1 r → f r = true) : SysOk (S.filter f) := by
  obtain ⟨base, m, e, bd, bl, bo⟩ := h.c
  have eb : base.filter f = base := List.filter_eq_self.mpr fun r hr => hf r (bo r hr)
  have e2 : S.filter f = base ++ m.filter f := by rw [e, List.filter_append, eb]
  have l := List.length_filter_le f S
  refine ⟨⟨by rw [e2, List.length_append]; omega, by have := h.s.l; omega⟩, fun r hr => h.s.r r (List.mem_filter.mp hr).1, by rw [e2]; exact bd.app⟩
end Lay.K36

set_option Elab.async false
set_option linter.all false
set_option maxRecDepth 100000
namespace Lay.K36
open PySem PySem.Spec PyProof.Rows L2 Lay
open Lay.Enc (enc)
/-! ### the law -/
/-! ### the law -/
theorem rb_row {r : Row} (h : RowOk r) : RB r 130 := by
  have a := h.a; have b := h.b; have l := h.l
  exact (rb_t2 (rb_t2 (rb_int (by omega)) (rb_int (by omega))) (rb_int (by omega))).mono (by decide)
theorem rb_pq {p : PT} (h : PB p) : RB (pq p) 200 := (rb_t2 (rb_q h.1 (by decide)) (rb_q h.2 (by decide))).mono (by decide)
theorem max_b {S : List Row} (h : Good S) {g : T2 Int Int} (hg : GB g) {v : Rat} (hv : IsMax (cornersP S) g v) : Bq 40 v := by
  obtain ⟨p, hp, e⟩ := hv.ex
  rw [← e]; exact gat_b hg (h.pb p hp)

theorem mS {y : FR} {F : List FR} : y ∈ F.mergeSort leD ↔ y ∈ F := (List.mergeSort_perm F leD).mem_iff
theorem fr_b {S : List Row} (h : Good S) {y : FR} (hy : y ∈ frP S) : ∃ p, p ∈ cornersP S ∧ y.a ∈ plP S p ∧ y.b = ofR (gat y.a p) ∧ ((-20 ≤ y.a.a ∧ y.a.a ≤ 20) ∧ (-20 ≤ y.a.b ∧ y.a.b ≤ 20)) ∧ y.a ≠ o2 ∧ Bq 40 (gat y.a p) := by
  obtain ⟨p, hp, z, hz, e⟩ := frP_mem.mp hy
  subst e
  obtain ⟨b0, b1, b2⟩ := pl_b h hp hz
  exact ⟨p, hp, hz, rfl, ⟨b1, b2⟩, b0, gat_b (g := z) ⟨by omega, by omega⟩ (h.pb p hp)⟩
theorem rb_fr {S : List Row} (h : Good S) {y : FR} (hy : y ∈ frP S) : RB y 200 := by
  obtain ⟨p, hp, hz, e, b, _, q⟩ := fr_b h hy
  have r1 : RB y.a (33 + 33 + 7) := rb_t2 (rb_int (by omega)) (rb_int (by omega))
  have r2 : RB y.b (2 * (40 + 3) + 7) := by rw [e]; exact rb_q q (by decide)
  exact (rb_t2 r1 r2).mono (by decide)
theorem fr_len {S : List Row} (h : Good S) : (frP S).length ≤ 47068 := by
  have l28 := corners28 h.s.l.2
  have fl := frN_len h (C := cornersP S) (F := []) fun _ hp => hp
  unfold frP; rw [List.length_nil] at fl; omega
def small5 (x : Row) : Bool := decide ((if (if x.a.b < 0 then -x.a.b else x.a.b) > (if x.a.a < 0 then -x.a.a else x.a.a) then (if x.a.b < 0 then -x.a.b else x.a.b) else (if x.a.a < 0 then -x.a.a else x.a.a)) < 5)
theorem small5_one {r : Row} (h : one1 r) : small5 r = true := by
  obtain ⟨h1, h2⟩ := h
  unfold small5
  rw [decide_eq_true_eq]
  split <;> split <;> omega
theorem lies_all {S : List Row} (h : Good S) {g : Z2} (hg : SB g) {c : PT} (hc : c ∈ cornersP S) (mx : ∀ q, q ∈ cornersP S → gat g q ≤ gat g c) {own : List Z2} (ho : ∀ z, z ∈ own → SB z) (k : ∀ z, z ∈ plP S c → z ∈ own) : m__law_lies own g = some true := by
  obtain ⟨one, two, h1, h2, d, cn⟩ := pl_two h hc mx
  exact lies_eq ho hg (k _ h1) (k _ h2) d cn
theorem law_true (ns : List Int) (h : ns.length ≤ 63) : m_law ns = some true := by
  rw [ok_iff]
  unfold m_law b_law
  rw [ok_finO]
  refine ok_let _ (draws_ok ns h) fun ds hd => ?_
  refine ok_let SysOk ?_ fun S1 hS1 => ?_
  · (try simp only [ok_some, ok_none, ok_bind, ok_lift1, ok_lift2, ok_lift3, ok_lift4, ok_bind2, ok_app1, ok_app2, ok_app3, ok_app4, ok_bif, ok_andG, ok_orG, ok_chain, ok_bindOut, bo_nx, bo_rt, bo_bk, bo_ct, ok_finO, fo_nx, fo_rt, nx_nx, nx_rt, ok_mul, ok_mod, ok_div, ok_appG, ok_szG, ok_catG, decide_eq_true_eq, decide_eq_false_iff_not, Bool.not_eq_true', Bool.not_eq_false', cLe, cLt, reduceCtorEq, false_implies, true_implies, implies_true, and_true, true_and])
    refine ok_mono (good_ok hd (by decide) (by decide)) fun S0 hS0 => ?_
    refine ok_filter small5 (fun x _ => rfl) ?_
    exact hS0.cut (f := small5) fun r h => small5_one h
  refine ok_set (law_corners_eq hS1.l.2 hS1.r) ?_
  refine ok_ifS (fun s => ∃ S, s = (S, (cornersP S).map pq) ∧ Good S) ?_ fun s hs => ?_
  · have l := hS1.l
    (try simp only [ok_some, ok_none, ok_bind, ok_lift1, ok_lift2, ok_lift3, ok_lift4, ok_bind2, ok_app1, ok_app2, ok_app3, ok_app4, ok_bif, ok_andG, ok_orG, ok_chain, ok_bindOut, bo_nx, bo_rt, bo_bk, bo_ct, ok_finO, fo_nx, fo_rt, nx_nx, nx_rt, ok_mul, ok_mod, ok_div, ok_appG, ok_szG, ok_catG, decide_eq_true_eq, decide_eq_false_iff_not, Bool.not_eq_true', Bool.not_eq_false', cLe, cLt, reduceCtorEq, false_implies, true_implies, implies_true, and_true, true_and])
    refine ⟨fun c => by omega, fun _ => ok_of (law_wide_eq fun p hp => corners_pb hS1.r hp) ⟨fun c => ⟨by decide, ok_of (law_corners_eq (S := backS) back_good.s.l.2 back_good.s.r) ⟨backS, rfl, back_good⟩⟩, fun c => ⟨S1, rfl, hS1, by simpa using c⟩⟩⟩
  obtain ⟨S, e, hS⟩ := hs
  subst e
  clear hS1 S1
  have rS : RB S (8 * (130 + 2) + 3) := rb_list hS.s.l.2 fun r hr => rb_row (hS.s.r r hr)
  have kS := rb_repr rS (by decide)
  have l28 := corners28 hS.s.l.2
  have rC : RB ((cornersP S).map pq) (64 * (200 + 2) + 3) := rb_list (by rw [List.length_map]; omega) fun z hz => by
    obtain ⟨p, hp, e⟩ := mem_pq hz
    subst e; exact rb_pq (hS.pb p hp)
  have kC := rb_repr rC (by decide)
  have co : m_corners S = some ((cornersP S).map pq) := by
    rw [ok_iff]
    unfold m_corners b_corners
    (try simp only [ok_some, ok_none, ok_bind, ok_lift1, ok_lift2, ok_lift3, ok_lift4, ok_bind2, ok_app1, ok_app2, ok_app3, ok_app4, ok_bif, ok_andG, ok_orG, ok_chain, ok_bindOut, bo_nx, bo_rt, bo_bk, bo_ct, ok_finO, fo_nx, fo_rt, nx_nx, nx_rt, ok_mul, ok_mod, ok_div, ok_appG, ok_szG, ok_catG, decide_eq_true_eq, decide_eq_false_iff_not, Bool.not_eq_true', Bool.not_eq_false', cLe, cLt, reduceCtorEq, false_implies, true_implies, implies_true, and_true, true_and])
    exact ok_of (check_eq hS.s hS.w) (ok_of (corners_of_eq hS.s.l.2 hS.s.r) rfl)
  have fl := fr_len hS
  have rT : RB ((frP S).mergeSort leD) (47068 * (200 + 2) + 3) := rb_list (by rw [List.length_mergeSort]; exact fl) fun y hy => rb_fr hS (mS.mp hy)
  have kT := rb_repr rT (by decide)
  have srt : sortD (frP S) = some ((frP S).mergeSort leD) := by
    rw [ok_iff]; exact ok_sortD rfl (by omega) rfl
  refine ok_set (show _ = some _ from kS) ?_
  refine ok_set (full_rows_eq (S := S) hS) ?_
  refine ok_let (fun x => x = []) (by (try simp only [ok_some, ok_none, ok_bind, ok_lift1, ok_lift2, ok_lift3, ok_lift4, ok_bind2, ok_app1, ok_app2, ok_app3, ok_app4, ok_bif, ok_andG, ok_orG, ok_chain, ok_bindOut, bo_nx, bo_rt, bo_bk, bo_ct, ok_finO, fo_nx, fo_rt, nx_nx, nx_rt, ok_mul, ok_mod, ok_div, ok_appG, ok_szG, ok_catG, decide_eq_true_eq, decide_eq_false_iff_not, Bool.not_eq_true', Bool.not_eq_false', cLe, cLt, reduceCtorEq, false_implies, true_implies, implies_true, and_true, true_and]); decide) fun x hx => ?_
  subst hx
  refine ok_set (plain_pairs_eq (S := S) hS) ?_
  refine ok_forS (e := by rw [lift1_some, Option.bind_some]; exact rng1_at (by rw [List.length_map]; omega)) (fun i s => s = frN S ((cornersP S).take i) []) rfl (fun i s y hy hs => ?_) fun s hs => ?_
  · obtain ⟨hi, rfl⟩ := rng_get hy
    subst hs
    have hi : i < (cornersP S).length := by rw [List.length_map] at hi; omega
    have c := List.getElem?_eq_getElem hi
    generalize (cornersP S)[i] = p at c
    have hp := List.mem_of_getElem? c
    have a1 : atI ((cornersP S).map (plP S)) (i : Int) = some (plP S p) := atE (by rw [List.getElem?_map, c]; rfl)
    have a2 : atI ((cornersP S).map pq) (i : Int) = some (pq p) := atE (by rw [List.getElem?_map, c]; rfl)
    have gl := frN_len hS (C := (cornersP S).take i) (F := []) fun q hq => List.mem_of_mem_take hq
    rw [List.length_take, List.length_nil] at gl
    rw [take1 c, frN_app]
    generalize frN S ((cornersP S).take i) [] = F at gl
    obtain ⟨_, _, _, _, pl⟩ := pl_ok hS hp
    have at1 : ∀ z, z ∈ plP S p → (lift2 T2.mk (some z) (app2 m__law_at (some z) (bind2 atI (some ((cornersP S).map pq)) (some (i : Int))))) = some (atP p z) := fun z hz => by
      obtain ⟨_, b1, b2⟩ := pl_b hS hp hz
      rw [bind2_some, a2]
      show lift2 T2.mk (some z) (m__law_at z (pq p)) = _
      rw [law_at_eq (g := z) ⟨by omega, by omega⟩ (hS.pb p hp)]
      rfl
    rw [Int.zero_add]
    (try simp only [ok_some, ok_none, ok_bind, ok_lift1, ok_lift2, ok_lift3, ok_lift4, ok_bind2, ok_app1, ok_app2, ok_app3, ok_app4, ok_bif, ok_andG, ok_orG, ok_chain, ok_bindOut, bo_nx, bo_rt, bo_bk, bo_ct, ok_finO, fo_nx, fo_rt, nx_nx, nx_rt, ok_mul, ok_mod, ok_div, ok_appG, ok_szG, ok_catG, decide_eq_true_eq, decide_eq_false_iff_not, Bool.not_eq_true', Bool.not_eq_false', cLe, cLt, reduceCtorEq, false_implies, true_implies, implies_true, and_true, true_and])
    refine ok_of a1 (ok_lc (fun z => !decide (atP p z ∈ F)) (atP p) (fun z hz => by rw [at1 z hz]; rfl) (fun z hz _ => at1 z hz) ?_)
    have e : ((plP S p).filter fun z => !decide (atP p z ∈ F)).map (atP p) = ((plP S p).map (atP p)).filter fun y => !decide (y ∈ F) := by rw [List.filter_map]; rfl
    rw [e]
    have tl : (((plP S p).map (atP p)).filter fun y => !decide (y ∈ F)).length ≤ 1681 := by
      refine Nat.le_trans (List.length_filter_le _ _) ?_
      rw [List.length_map]; exact pl.l
    refine ⟨?_, rfl⟩
    have : 1681 * min i (cornersP S).length ≤ 1681 * 28 := Nat.mul_le_mul_left _ (by omega)
    omega
  have hs : s = frP S := by rw [hs, rng_len, List.length_map, List.take_length]; rfl
  subst hs
  refine ok_skip ?_ ?_
  · (try simp only [ok_some, ok_none, ok_bind, ok_lift1, ok_lift2, ok_lift3, ok_lift4, ok_bind2, ok_app1, ok_app2, ok_app3, ok_app4, ok_bif, ok_andG, ok_orG, ok_chain, ok_bindOut, bo_nx, bo_rt, bo_bk, bo_ct, ok_finO, fo_nx, fo_rt, nx_nx, nx_rt, ok_mul, ok_mod, ok_div, ok_appG, ok_szG, ok_catG, decide_eq_true_eq, decide_eq_false_iff_not, Bool.not_eq_true', Bool.not_eq_false', cLe, cLt, reduceCtorEq, false_implies, true_implies, implies_true, and_true, true_and])
    exact ok_of kT (ok_of srt (ok_of kT ⟨fun c => absurd rfl c, fun _ => ok_of co (ok_of kC (ok_of kC rfl))⟩))
  have told : ∀ {i : Nat} {y : FR}, ((frP S).mergeSort leD)[i]? = some y → y ∈ frP S := fun hy => mS.mp (List.mem_of_getElem? hy)
  have sbT : ∀ z, z ∈ ((frP S).mergeSort leD).map T2.a → SB z := fun z hz => by
    obtain ⟨y, hy, e⟩ := List.mem_map.mp hz
    subst e
    obtain ⟨_, _, _, _, b, _⟩ := fr_b hS (mS.mp hy)
    exact ⟨by omega, by omega⟩
  refine ok_forS (e := rfl) (fun _ _ => True) trivial (fun i u y hy _ => ?_) fun u _ => ?_
  · obtain ⟨p, hp, hz, ey, b, n, q⟩ := fr_b hS (told hy)
    have mx : IsMax (cornersP S) y.a (gat y.a p) := ⟨⟨p, hp, rfl⟩, fun q hq => pl_max hS hp hz (corner_in hq)⟩
    refine ok_skip ?_ (by (try simp only [ok_some, ok_none, ok_bind, ok_lift1, ok_lift2, ok_lift3, ok_lift4, ok_bind2, ok_app1, ok_app2, ok_app3, ok_app4, ok_bif, ok_andG, ok_orG, ok_chain, ok_bindOut, bo_nx, bo_rt, bo_bk, bo_ct, ok_finO, fo_nx, fo_rt, nx_nx, nx_rt, ok_mul, ok_mod, ok_div, ok_appG, ok_szG, ok_catG, decide_eq_true_eq, decide_eq_false_iff_not, Bool.not_eq_true', Bool.not_eq_false', cLe, cLt, reduceCtorEq, false_implies, true_implies, implies_true, and_true, true_and]))
    (try simp only [ok_some, ok_none, ok_bind, ok_lift1, ok_lift2, ok_lift3, ok_lift4, ok_bind2, ok_app1, ok_app2, ok_app3, ok_app4, ok_bif, ok_andG, ok_orG, ok_chain, ok_bindOut, bo_nx, bo_rt, bo_bk, bo_ct, ok_finO, fo_nx, fo_rt, nx_nx, nx_rt, ok_mul, ok_mod, ok_div, ok_appG, ok_szG, ok_catG, decide_eq_true_eq, decide_eq_false_iff_not, Bool.not_eq_true', Bool.not_eq_false', cLe, cLt, reduceCtorEq, false_implies, true_implies, implies_true, and_true, true_and])
    refine ok_of (law_value_eq hS.pb hS.ne ⟨by omega, by omega⟩ mx) ⟨fun c => absurd ey.symm c, fun _ m => ok_of (value_eq hS (g := y.a) ?_ mx) ey.symm⟩
    constructor <;> (split at m <;> split at m <;> split at m <;> omega)
  refine ok_forS (e := rfl) (fun _ _ => True) trivial (fun i u r hr _ => ?_) fun u _ => ?_
  · have R := hS.s.r r (List.mem_of_getElem? hr)
    obtain ⟨v, ⟨⟨c, hc, ev⟩, le⟩⟩ := max_ex hS r.a
    refine ok_skip ?_ (by (try simp only [ok_some, ok_none, ok_bind, ok_lift1, ok_lift2, ok_lift3, ok_lift4, ok_bind2, ok_app1, ok_app2, ok_app3, ok_app4, ok_bif, ok_andG, ok_orG, ok_chain, ok_bindOut, bo_nx, bo_rt, bo_bk, bo_ct, ok_finO, fo_nx, fo_rt, nx_nx, nx_rt, ok_mul, ok_mod, ok_div, ok_appG, ok_szG, ok_catG, decide_eq_true_eq, decide_eq_false_iff_not, Bool.not_eq_true', Bool.not_eq_false', cLe, cLt, reduceCtorEq, false_implies, true_implies, implies_true, and_true, true_and]))
    (try simp only [ok_some, ok_none, ok_bind, ok_lift1, ok_lift2, ok_lift3, ok_lift4, ok_bind2, ok_app1, ok_app2, ok_app3, ok_app4, ok_bif, ok_andG, ok_orG, ok_chain, ok_bindOut, bo_nx, bo_rt, bo_bk, bo_ct, ok_finO, fo_nx, fo_rt, nx_nx, nx_rt, ok_mul, ok_mod, ok_div, ok_appG, ok_szG, ok_catG, decide_eq_true_eq, decide_eq_false_iff_not, Bool.not_eq_true', Bool.not_eq_false', cLe, cLt, reduceCtorEq, false_implies, true_implies, implies_true, and_true, true_and])
    refine ok_filter (fun q => decide (ofR (gat r.a (unq q)) = ofR (r.b : Rat))) (fun q hq => ?_) ?_
    · obtain ⟨p, hp, e⟩ := mem_pq hq
      subst e
      rw [ok_iff]
      (try simp only [ok_some, ok_none, ok_bind, ok_lift1, ok_lift2, ok_lift3, ok_lift4, ok_bind2, ok_app1, ok_app2, ok_app3, ok_app4, ok_bif, ok_andG, ok_orG, ok_chain, ok_bindOut, bo_nx, bo_rt, bo_bk, bo_ct, ok_finO, fo_nx, fo_rt, nx_nx, nx_rt, ok_mul, ok_mod, ok_div, ok_appG, ok_szG, ok_catG, decide_eq_true_eq, decide_eq_false_iff_not, Bool.not_eq_true', Bool.not_eq_false', cLe, cLt, reduceCtorEq, false_implies, true_implies, implies_true, and_true, true_and])
      refine ok_of (law_at_eq R.gb (hS.pb p hp)) ?_
      rw [unq_pq]; rfl
    · refine ⟨by decide, fun _ => ok_map T2.a (fun x _ => rfl) (ok_of (lies_all hS (row_sb R) hc (fun q hq => by rw [ev]; exact le q hq) sbT fun z hz => ?_) rfl)⟩
      exact List.mem_map.mpr ⟨atP c z, mS.mpr (frP_mem.mpr ⟨c, hc, z, hz, rfl⟩), rfl⟩
  refine ok_forS (e := by rw [Option.bind_some]; exact rng1_at (j := 10) (by decide)) (fun _ _ => True) trivial (fun i u y hy _ => ?_) fun u _ => ?_
  · obtain ⟨hi, rfl⟩ := rng_get hy
    refine ok_let G12 ?_ fun g hg => ?_
    · (try simp only [ok_some, ok_none, ok_bind, ok_lift1, ok_lift2, ok_lift3, ok_lift4, ok_bind2, ok_app1, ok_app2, ok_app3, ok_app4, ok_bif, ok_andG, ok_orG, ok_chain, ok_bindOut, bo_nx, bo_rt, bo_bk, bo_ct, ok_finO, fo_nx, fo_rt, nx_nx, nx_rt, ok_mul, ok_mod, ok_div, ok_appG, ok_szG, ok_catG, decide_eq_true_eq, decide_eq_false_iff_not, Bool.not_eq_true', Bool.not_eq_false', cLe, cLt, reduceCtorEq, false_implies, true_implies, implies_true, and_true, true_and])
      refine ⟨mulOk (by decide) (by omega), ok_mono (mix_ok hd (by omega) (by omega) (by decide)) fun a ha => ⟨mulOk (by decide) (by omega), ok_mono (mix_ok hd (by omega) (by omega) (by decide)) fun b hb => ⟨by show -12 ≤ a - 12 ∧ a - 12 ≤ 12; omega, by show -12 ≤ b - 12 ∧ b - 12 ≤ 12; omega⟩⟩⟩
    obtain ⟨v, hv⟩ := max_ex hS g
    obtain ⟨c, hc, ec⟩ := hv.ex
    refine ok_let (fun b => ∃ p, p ∈ cornersP S ∧ b = pq p ∧ gat g p = v) ?_ fun b hb => ?_
    · (try simp only [ok_some, ok_none, ok_bind, ok_lift1, ok_lift2, ok_lift3, ok_lift4, ok_bind2, ok_app1, ok_app2, ok_app3, ok_app4, ok_bif, ok_andG, ok_orG, ok_chain, ok_bindOut, bo_nx, bo_rt, bo_bk, bo_ct, ok_finO, fo_nx, fo_rt, nx_nx, nx_rt, ok_mul, ok_mod, ok_div, ok_appG, ok_szG, ok_catG, decide_eq_true_eq, decide_eq_false_iff_not, Bool.not_eq_true', Bool.not_eq_false', cLe, cLt, reduceCtorEq, false_implies, true_implies, implies_true, and_true, true_and])
      refine ok_filter (fun q => decide (ofR (gat g (unq q)) = ofR v)) (fun q hq => ?_) ?_
      · obtain ⟨p, hp, e⟩ := mem_pq hq
        subst e
        rw [ok_iff]
        (try simp only [ok_some, ok_none, ok_bind, ok_lift1, ok_lift2, ok_lift3, ok_lift4, ok_bind2, ok_app1, ok_app2, ok_app3, ok_app4, ok_bif, ok_andG, ok_orG, ok_chain, ok_bindOut, bo_nx, bo_rt, bo_bk, bo_ct, ok_finO, fo_nx, fo_rt, nx_nx, nx_rt, ok_mul, ok_mod, ok_div, ok_appG, ok_szG, ok_catG, decide_eq_true_eq, decide_eq_false_iff_not, Bool.not_eq_true', Bool.not_eq_false', cLe, cLt, reduceCtorEq, false_implies, true_implies, implies_true, and_true, true_and])
        refine ok_of (law_at_eq hg.gb (hS.pb p hp)) (ok_of (law_value_eq hS.pb hS.ne hg.gb hv) ?_)
        rw [unq_pq]
      · refine ok_atI (by decide) ?_ fun x _ hx => ?_
        · have : pq c ∈ ((cornersP S).map pq).filter fun q => decide (ofR (gat g (unq q)) = ofR v) := List.mem_filter.mpr ⟨List.mem_map_of_mem hc, by rw [unq_pq, ec]; simp⟩
          have := List.length_pos_of_mem this
          omega
        · obtain ⟨h1, h2⟩ := List.mem_filter.mp hx
          obtain ⟨p, hp, e⟩ := mem_pq h1
          subst e
          refine ⟨p, hp, rfl, ?_⟩
          rw [unq_pq] at h2
          exact ofR_inj.mp (by simpa using h2)
    obtain ⟨p, hp, e, ep⟩ := hb
    subst e
    refine ok_let (fun l => (∀ z, z ∈ l → SB z) ∧ ∀ z, z ∈ plP S p → z ∈ l) ?_ fun l hl => ?_
    · (try simp only [ok_some, ok_none, ok_bind, ok_lift1, ok_lift2, ok_lift3, ok_lift4, ok_bind2, ok_app1, ok_app2, ok_app3, ok_app4, ok_bif, ok_andG, ok_orG, ok_chain, ok_bindOut, bo_nx, bo_rt, bo_bk, bo_ct, ok_finO, fo_nx, fo_rt, nx_nx, nx_rt, ok_mul, ok_mod, ok_div, ok_appG, ok_szG, ok_catG, decide_eq_true_eq, decide_eq_false_iff_not, Bool.not_eq_true', Bool.not_eq_false', cLe, cLt, reduceCtorEq, false_implies, true_implies, implies_true, and_true, true_and])
      refine ok_lc (fun y : FR => decide (ofR (gat y.a p) = y.b)) T2.a (fun y hy => ?_) (fun y hy _ => rfl) ?_
      · obtain ⟨_, _, _, _, b, _⟩ := fr_b hS (mS.mp hy)
        rw [ok_iff]
        (try simp only [ok_some, ok_none, ok_bind, ok_lift1, ok_lift2, ok_lift3, ok_lift4, ok_bind2, ok_app1, ok_app2, ok_app3, ok_app4, ok_bif, ok_andG, ok_orG, ok_chain, ok_bindOut, bo_nx, bo_rt, bo_bk, bo_ct, ok_finO, fo_nx, fo_rt, nx_nx, nx_rt, ok_mul, ok_mod, ok_div, ok_appG, ok_szG, ok_catG, decide_eq_true_eq, decide_eq_false_iff_not, Bool.not_eq_true', Bool.not_eq_false', cLe, cLt, reduceCtorEq, false_implies, true_implies, implies_true, and_true, true_and])
        exact ok_of (law_at_eq (g := y.a) ⟨by omega, by omega⟩ (hS.pb p hp)) rfl
      · refine ⟨fun z hz => ?_, fun z hz => ?_⟩
        · obtain ⟨y, hy, e⟩ := List.mem_map.mp hz
          exact sbT z (List.mem_map.mpr ⟨y, (List.mem_filter.mp hy).1, e⟩)
        · exact List.mem_map.mpr ⟨atP p z, List.mem_filter.mpr ⟨mS.mpr (frP_mem.mpr ⟨p, hp, z, hz, rfl⟩), by unfold atP; simp⟩, rfl⟩
    refine ok_skip ?_ (by (try simp only [ok_some, ok_none, ok_bind, ok_lift1, ok_lift2, ok_lift3, ok_lift4, ok_bind2, ok_app1, ok_app2, ok_app3, ok_app4, ok_bif, ok_andG, ok_orG, ok_chain, ok_bindOut, bo_nx, bo_rt, bo_bk, bo_ct, ok_finO, fo_nx, fo_rt, nx_nx, nx_rt, ok_mul, ok_mod, ok_div, ok_appG, ok_szG, ok_catG, decide_eq_true_eq, decide_eq_false_iff_not, Bool.not_eq_true', Bool.not_eq_false', cLe, cLt, reduceCtorEq, false_implies, true_implies, implies_true, and_true, true_and]))
    (try simp only [ok_some, ok_none, ok_bind, ok_lift1, ok_lift2, ok_lift3, ok_lift4, ok_bind2, ok_app1, ok_app2, ok_app3, ok_app4, ok_bif, ok_andG, ok_orG, ok_chain, ok_bindOut, bo_nx, bo_rt, bo_bk, bo_ct, ok_finO, fo_nx, fo_rt, nx_nx, nx_rt, ok_mul, ok_mod, ok_div, ok_appG, ok_szG, ok_catG, decide_eq_true_eq, decide_eq_false_iff_not, Bool.not_eq_true', Bool.not_eq_false', cLe, cLt, reduceCtorEq, false_implies, true_implies, implies_true, and_true, true_and])
    have g1 := hg.1
    have g2 := hg.2
    exact ok_of (lies_all hS (g := g) ⟨by omega, by omega⟩ hp (fun q hq => by rw [ep]; exact hv.le q hq) hl.1 hl.2) rfl
  refine ok_let (fun w => w = true ↔ ∀ p, p ∈ cornersP S → ¬ (1 < (pq p).a.b) ∧ ¬ (1 < (pq p).b.b)) ?_ fun w hw => ?_
  · (try simp only [ok_some, ok_none, ok_bind, ok_lift1, ok_lift2, ok_lift3, ok_lift4, ok_bind2, ok_app1, ok_app2, ok_app3, ok_app4, ok_bif, ok_andG, ok_orG, ok_chain, ok_bindOut, bo_nx, bo_rt, bo_bk, bo_ct, ok_finO, fo_nx, fo_rt, nx_nx, nx_rt, ok_mul, ok_mod, ok_div, ok_appG, ok_szG, ok_catG, decide_eq_true_eq, decide_eq_false_iff_not, Bool.not_eq_true', Bool.not_eq_false', cLe, cLt, reduceCtorEq, false_implies, true_implies, implies_true, and_true, true_and])
    refine ok_filter (fun q : T2 Q Q => decide (1 < q.a.b) || decide (1 < q.b.b)) (fun q hq => ?_) ?_
    · rw [ok_iff]
      (try simp only [ok_some, ok_none, ok_bind, ok_lift1, ok_lift2, ok_lift3, ok_lift4, ok_bind2, ok_app1, ok_app2, ok_app3, ok_app4, ok_bif, ok_andG, ok_orG, ok_chain, ok_bindOut, bo_nx, bo_rt, bo_bk, bo_ct, ok_finO, fo_nx, fo_rt, nx_nx, nx_rt, ok_mul, ok_mod, ok_div, ok_appG, ok_szG, ok_catG, decide_eq_true_eq, decide_eq_false_iff_not, Bool.not_eq_true', Bool.not_eq_false', cLe, cLt, reduceCtorEq, false_implies, true_implies, implies_true, and_true, true_and])
      exact ⟨fun c => by simp [c], fun c => by simp [c]⟩
    · refine ⟨by decide, ?_⟩
      rw [List.filter_eq_nil_iff]
      constructor
      · intro k p hp
        have := k (pq p) (List.mem_map_of_mem hp)
        simp only [Bool.or_eq_true, decide_eq_true_eq] at this
        exact ⟨fun c => this (.inl c), fun c => this (.inr c)⟩
      · intro k q hq
        obtain ⟨p, hp, e⟩ := mem_pq hq
        subst e
        simp only [Bool.or_eq_true, decide_eq_true_eq]
        rintro (c | c)
        · exact (k p hp).1 c
        · exact (k p hp).2 c
  have lims : w = true ↔ ∀ y, y ∈ frP S → ¬ (1 < y.b.b) := hw.trans (whole_iff hS).symm
  refine ok_skip ?_ ?_
  · (try simp only [ok_some, ok_none, ok_bind, ok_lift1, ok_lift2, ok_lift3, ok_lift4, ok_bind2, ok_app1, ok_app2, ok_app3, ok_app4, ok_bif, ok_andG, ok_orG, ok_chain, ok_bindOut, bo_nx, bo_rt, bo_bk, bo_ct, ok_finO, fo_nx, fo_rt, nx_nx, nx_rt, ok_mul, ok_mod, ok_div, ok_appG, ok_szG, ok_catG, decide_eq_true_eq, decide_eq_false_iff_not, Bool.not_eq_true', Bool.not_eq_false', cLe, cLt, reduceCtorEq, false_implies, true_implies, implies_true, and_true, true_and])
    refine ok_lc (fun y : FR => decide (1 < y.b.b)) T2.b (fun y hy => rfl) (fun y hy _ => rfl) ⟨by decide, ?_⟩
    have e : (((frP S).mergeSort leD).filter fun y : FR => decide (1 < y.b.b)).map T2.b = [] ↔ w = true := by
      rw [lims, List.map_eq_nil_iff, List.filter_eq_nil_iff]
      constructor
      · intro k y hy
        have := k y (mS.mpr hy)
        simpa using this
      · intro k y hy
        have := k y (mS.mp hy)
        simpa using this
    simp only [e]
    cases w <;> rfl
  refine ok_set (lcL_map (f := fun y : FR => (⟨y.a, y.b.a⟩ : Row)) fun x _ => rfl) ?_
  refine ok_let (fun f => f = true → ∀ r, r ∈ ((frP S).mergeSort leD).map (fun y : FR => (⟨y.a, y.b.a⟩ : Row)) → (-10 ≤ r.a.a ∧ r.a.a ≤ 10) ∧ (-10 ≤ r.a.b ∧ r.a.b ≤ 10) ∧ (-100 ≤ r.b ∧ r.b ≤ 100)) ?_ fun f hf => ?_
  · (try simp only [ok_some, ok_none, ok_bind, ok_lift1, ok_lift2, ok_lift3, ok_lift4, ok_bind2, ok_app1, ok_app2, ok_app3, ok_app4, ok_bif, ok_andG, ok_orG, ok_chain, ok_bindOut, bo_nx, bo_rt, bo_bk, bo_ct, ok_finO, fo_nx, fo_rt, nx_nx, nx_rt, ok_mul, ok_mod, ok_div, ok_appG, ok_szG, ok_catG, decide_eq_true_eq, decide_eq_false_iff_not, Bool.not_eq_true', Bool.not_eq_false', cLe, cLt, reduceCtorEq, false_implies, true_implies, implies_true, and_true, true_and])
    refine ok_filter (fun x : Row => decide (10 < (if (if x.a.b < 0 then -x.a.b else x.a.b) > (if x.a.a < 0 then -x.a.a else x.a.a) then (if x.a.b < 0 then -x.a.b else x.a.b) else (if x.a.a < 0 then -x.a.a else x.a.a))) || decide (100 < (if x.b < 0 then -x.b else x.b))) (fun x hx => ?_) ⟨by decide, fun k r hr => ?_⟩
    · rw [ok_iff]
      (try simp only [ok_some, ok_none, ok_bind, ok_lift1, ok_lift2, ok_lift3, ok_lift4, ok_bind2, ok_app1, ok_app2, ok_app3, ok_app4, ok_bif, ok_andG, ok_orG, ok_chain, ok_bindOut, bo_nx, bo_rt, bo_bk, bo_ct, ok_finO, fo_nx, fo_rt, nx_nx, nx_rt, ok_mul, ok_mod, ok_div, ok_appG, ok_szG, ok_catG, decide_eq_true_eq, decide_eq_false_iff_not, Bool.not_eq_true', Bool.not_eq_false', cLe, cLt, reduceCtorEq, false_implies, true_implies, implies_true, and_true, true_and])
      exact ⟨fun c => by rw [decide_eq_true c]; rfl, fun c => by rw [decide_eq_false c]; rfl⟩
    · rw [List.filter_eq_nil_iff] at k
      have := k r hr
      simp only [Bool.or_eq_true, decide_eq_true_eq, not_or] at this
      obtain ⟨k1, k2⟩ := this
      clear k hr
      refine ⟨?_, ?_, ?_⟩
      · split at k1 <;> split at k1 <;> split at k1 <;> omega
      · split at k1 <;> split at k1 <;> split at k1 <;> omega
      · split at k2 <;> omega
  have memT : ∀ r, r ∈ ((frP S).mergeSort leD).map (fun y : FR => (⟨y.a, y.b.a⟩ : Row)) ↔ ∃ y, y ∈ frP S ∧ r = ⟨y.a, y.b.a⟩ := fun r => by
    rw [List.mem_map]
    constructor
    · rintro ⟨y, h1, h2⟩; exact ⟨y, mS.mp h1, h2.symm⟩
    · rintro ⟨y, h1, h2⟩; exact ⟨y, mS.mpr h1, h2.symm⟩
  generalize ((frP S).mergeSort leD).map (fun y : FR => (⟨y.a, y.b.a⟩ : Row)) = T at hf memT ⊢
  refine ok_ifS (fun _ => True) ?_ fun _ _ => ?_
  · (try simp only [ok_some, ok_none, ok_bind, ok_lift1, ok_lift2, ok_lift3, ok_lift4, ok_bind2, ok_app1, ok_app2, ok_app3, ok_app4, ok_bif, ok_andG, ok_orG, ok_chain, ok_bindOut, bo_nx, bo_rt, bo_bk, bo_ct, ok_finO, fo_nx, fo_rt, nx_nx, nx_rt, ok_mul, ok_mod, ok_div, ok_appG, ok_szG, ok_catG, decide_eq_true_eq, decide_eq_false_iff_not, Bool.not_eq_true', Bool.not_eq_false', cLe, cLt, reduceCtorEq, false_implies, true_implies, implies_true, and_true, true_and])
    intro ew ef l3 l8
    have li := lims.mp ew
    have sm : Sm S T := by
      refine ⟨fun r hr => ?_, fun p hp z hz => ?_⟩
      · obtain ⟨y, hy, e⟩ := (memT r).mp hr
        have i1 := li y hy
        obtain ⟨p, hp, hz, ey, _⟩ := fr_b hS hy
        subst e
        refine ⟨p, hp, hz, ?_⟩
        rw [ey] at i1
        show gat y.a p = (y.b.a : Rat)
        rw [ey, int_den (isI_iff.mpr i1)]
      · have hy : atP p z ∈ frP S := frP_mem.mpr ⟨p, hp, z, hz, rfl⟩
        refine ⟨_, (memT _).mpr ⟨atP p z, hy, rfl⟩, rfl, ?_⟩
        have i1 := li _ hy
        exact (int_den (isI_iff.mpr i1)).symm
    have gT : Good T := sm_good hS sm ⟨by omega, by omega⟩ fun r hr => by
      obtain ⟨b1, b2, b3⟩ := hf ef r hr
      refine ⟨b1, b2, b3, ?_⟩
      obtain ⟨y, hy, e⟩ := (memT r).mp hr
      obtain ⟨_, _, _, _, _, n, _⟩ := fr_b hS hy
      subst e; exact n
    refine ok_of (dual_eq hS gT sm) ⟨fun c => absurd rfl c, fun _ => ok_of (full_rows_eq gT) ?_⟩
    rw [sm_fr hS gT sm]
    exact ok_of kT (ok_of kT fun c => absurd rfl c)
  (try simp only [ok_some, ok_none, ok_bind, ok_lift1, ok_lift2, ok_lift3, ok_lift4, ok_bind2, ok_app1, ok_app2, ok_app3, ok_app4, ok_bif, ok_chain, ok_bindOut, bo_nx, bo_rt, bo_bk, bo_ct, ok_finO, fo_nx, fo_rt, nx_nx, nx_rt, ok_mul, ok_mod, ok_div, ok_appG, ok_szG, ok_catG, decide_eq_true_eq, decide_eq_false_iff_not, Bool.not_eq_true', Bool.not_eq_false', cLe, cLt, reduceCtorEq, false_implies, true_implies, implies_true, and_true, true_and])
  refine ⟨by decide, ok_of (show roomG 0 ((frP S).mergeSort leD) = some () from ?_) ?_⟩
  · exact if_pos (by rw [sizeLine_val, List.length_mergeSort]; omega)
  · (try simp only [ok_some, ok_none, ok_bind, ok_lift1, ok_lift2, ok_lift3, ok_lift4, ok_bind2, ok_app1, ok_app2, ok_app3, ok_app4, ok_bif, ok_andG, ok_orG, ok_chain, ok_bindOut, bo_nx, bo_rt, bo_bk, bo_ct, ok_finO, fo_nx, fo_rt, nx_nx, nx_rt, ok_mul, ok_mod, ok_div, ok_appG, ok_szG, ok_catG, decide_eq_true_eq, decide_eq_false_iff_not, Bool.not_eq_true', Bool.not_eq_false', cLe, cLt, reduceCtorEq, false_implies, true_implies, implies_true, and_true, true_and])
    exact ok_of (full_rows_eq hS) (ok_of kT (ok_of srt (ok_of kT ⟨fun _ => ok_of kS rfl, fun c => absurd rfl c⟩)))
end Lay.K36

open PySem PySem.W PyProof.Rows
set_option maxHeartbeats 0 in
theorem PySem.Challenge.cw_wholebest_k36_whole_full_rows_holds : PySem.Challenge.rw_wholebest_k36_whole_full_rows.Holds := by
  w_on; o_law; k_head; (case hw => w_witness2)
  k_fill
  refine Lay.law_walk (l := PySem.Challenge.rw_wholebest_k36_whole_full_rows) (n := 63) (k := 8) (x := "script") (sp := fun K => Lay.spR K .dd Lay.K36.m_law) rfl (by decide) rfl ⟨rfl, by decide, by decide⟩ (fun w h Y => PySem.W.kIn_of Y) ?F (fun K H a ns hl hO hS => Lay.law_sp Lay.K36.law_true K H a ns hl hO hS)
  case F =>
    intro w mg fa h KX G hmg
    refine' Lay.K36.all_mk KX G hmg ?a0 ?l0 ?c0 ?k0 ?a1 ?l1 ?c1 ?k1 ?a2 ?l2 ?c2 ?k2 ?a3 ?l3 ?c3 ?k3 ?a4 ?l4 ?c4 ?k4 ?a5 ?l5 ?c5 ?k5 ?a6 ?l6 ?c6 ?k6 ?a7 ?l7 ?c7 ?k7 ?a8 ?l8 ?c8 ?k8 ?a9 ?l9 ?c9 ?k9 ?a10 ?l10 ?c10 ?k10 ?a11 ?l11 ?c11 ?k11 ?a12 ?l12 ?c12 ?k12 ?a13 ?l13 ?c13 ?k13 ?a14 ?l14 ?c14 ?k14 ?a15 ?l15 ?c15 ?k15 ?a16 ?l16 ?c16 ?k16 ?a17 ?l17 ?c17 ?k17 ?a18 ?l18 ?c18 ?k18 ?a19 ?l19 ?c19 ?k19 ?a20 ?l20 ?c20 ?k20 ?a21 ?l21 ?c21 ?k21 ?a22 ?l22 ?c22 ?k22 ?a23 ?l23 ?c23 ?k23 ?a24 ?l24 ?c24 ?k24 ?a25 ?l25 ?c25 ?k25 ?a26 ?l26 ?c26 ?k26 ?a27 ?l27 ?c27 ?k27 ?a28 ?l28 ?c28 ?k28 ?a29 ?l29 ?c29 ?k29 ?a30 ?l30 ?c30 ?k30 ?a31 ?l31 ?c31 ?k31 ?a32 ?l32 ?c32 ?k32 ?a33 ?l33 ?c33 ?k33 ?a34 ?l34 ?c34 ?k34 ?a35 ?l35 ?c35 ?k35 ?a36 ?l36 ?c36 ?k36 ?a37 ?l37 ?c37 ?k37 ?a38 ?l38 ?c38 ?k38 ?z0 ?z1 ?z2 ?z3 ?z4 ?z5 ?z6 ?z7 ?z8 ?z9 ?z10 ?z11 ?z12 ?z13 ?z14 ?z15 ?z16
    (case a0 => k_is)
    (case l0 => k_is)
    (case c0 => k_is)
    (case k0 => k_is)
    (case a1 => k_is)
    (case l1 => k_is)
    (case c1 => k_is)
    (case k1 => k_is)
    (case a2 => k_is)
    (case l2 => k_is)
    (case c2 => k_is)
    (case k2 => k_is)
    (case a3 => k_is)
    (case l3 => k_is)
    (case c3 => k_is)
    (case k3 => k_is)
    (case a4 => k_is)
    (case l4 => k_is)
    (case c4 => k_is)
    (case k4 => k_is)
    (case a5 => k_is)
    (case l5 => k_is)
    (case c5 => k_is)
    (case k5 => k_is)
    (case a6 => k_is)
    (case l6 => k_is)
    (case c6 => k_is)
    (case k6 => k_is)
    (case a7 => k_is)
    (case l7 => k_is)
    (case c7 => k_is)
    (case k7 => k_is)
    (case a8 => k_is)
    (case l8 => k_is)
    (case c8 => k_is)
    (case k8 => k_is)
    (case a9 => k_is)
    (case l9 => k_is)
    (case c9 => k_is)
    (case k9 => k_is)
    (case a10 => k_is)
    (case l10 => k_is)
    (case c10 => k_is)
    (case k10 => k_is)
    (case a11 => k_is)
    (case l11 => k_is)
    (case c11 => k_is)
    (case k11 => k_is)
    (case a12 => k_is)
    (case l12 => k_is)
    (case c12 => k_is)
    (case k12 => k_is)
    (case a13 => k_is)
    (case l13 => k_is)
    (case c13 => k_is)
    (case k13 => k_is)
    (case a14 => k_is)
    (case l14 => k_is)
    (case c14 => k_is)
    (case k14 => k_is)
    (case a15 => k_is)
    (case l15 => k_is)
    (case c15 => k_is)
    (case k15 => k_is)
    (case a16 => k_is)
    (case l16 => k_is)
    (case c16 => k_is)
    (case k16 => k_is)
    (case a17 => k_is)
    (case l17 => k_is)
    (case c17 => k_is)
    (case k17 => k_is)
    (case a18 => k_is)
    (case l18 => k_is)
    (case c18 => k_is)
    (case k18 => k_is)
    (case a19 => k_is)
    (case l19 => k_is)
    (case c19 => k_is)
    (case k19 => k_is)
    (case a20 => k_is)
    (case l20 => k_is)
    (case c20 => k_is)
    (case k20 => k_is)
    (case a21 => k_is)
    (case l21 => k_is)
    (case c21 => k_is)
    (case k21 => k_is)
    (case a22 => k_is)
    (case l22 => k_is)
    (case c22 => k_is)
    (case k22 => k_is)
    (case a23 => k_is)
    (case l23 => k_is)
    (case c23 => k_is)
    (case k23 => k_is)
    (case a24 => k_is)
    (case l24 => k_is)
    (case c24 => k_is)
    (case k24 => k_is)
    (case a25 => k_is)
    (case l25 => k_is)
    (case c25 => k_is)
    (case k25 => k_is)
    (case a26 => k_is)
    (case l26 => k_is)
    (case c26 => k_is)
    (case k26 => k_is)
    (case a27 => k_is)
    (case l27 => k_is)
    (case c27 => k_is)
    (case k27 => k_is)
    (case a28 => k_is)
    (case l28 => k_is)
    (case c28 => k_is)
    (case k28 => k_is)
    (case a29 => k_is)
    (case l29 => k_is)
    (case c29 => k_is)
    (case k29 => k_is)
    (case a30 => k_is)
    (case l30 => k_is)
    (case c30 => k_is)
    (case k30 => k_is)
    (case a31 => k_is)
    (case l31 => k_is)
    (case c31 => k_is)
    (case k31 => k_is)
    (case a32 => k_is)
    (case l32 => k_is)
    (case c32 => k_is)
    (case k32 => k_is)
    (case a33 => k_is)
    (case l33 => k_is)
    (case c33 => k_is)
    (case k33 => k_is)
    (case a34 => k_is)
    (case l34 => k_is)
    (case c34 => k_is)
    (case k34 => k_is)
    (case a35 => k_is)
    (case l35 => k_is)
    (case c35 => k_is)
    (case k35 => k_is)
    (case a36 => k_is)
    (case l36 => k_is)
    (case c36 => k_is)
    (case k36 => k_is)
    (case a37 => k_is)
    (case l37 => k_is)
    (case c37 => k_is)
    (case k37 => k_is)
    (case a38 => k_is)
    (case l38 => k_is)
    (case c38 => k_is)
    (case k38 => k_is)
    (case z0 => k_is)
    (case z1 => k_is)
    (case z2 => k_is)
    (case z3 => k_is)
    (case z4 => k_is)
    (case z5 => k_is)
    (case z6 => k_is)
    (case z7 => k_is)
    (case z8 => k_is)
    (case z9 => k_is)
    (case z10 => k_is)
    (case z11 => k_is)
    (case z12 => k_is)
    (case z13 => k_is)
    (case z14 => k_is)
    (case z15 => k_is)
    (case z16 => k_is)
