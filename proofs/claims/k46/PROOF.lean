import PyProof.Rows.All
import Wide.All
import OpenK.AllK
import Wide.FinOn
import HandS.ForMost
import HandS.Wide
import HandS.Star
import HandS.Zip
import HandS.SortInts
import HandS.TupAny
import HandS.Deep
import KE.GoesMore
import KE.GoesEnum
import HandS.Gcd
import HandS.Conv
import KE.SortData
import PySem.Challenge.RW_wholebest_k46_covers_and_the_worst_one
set_option Elab.async false
set_option linter.all false
set_option maxRecDepth 100000
/-! Lay1: typed data over HandS: what slots hold, expressions, statements. -/
namespace Lay
open PySem PySem.Spec PyProof.Rows L2

/-! ### typed data -/
class Enc (α : Type) where
  enc : α → PyData
open Enc (enc)
instance : Enc Int := ⟨PyData.int⟩
instance : Enc Bool := ⟨PyData.bool⟩
instance : Enc Str := ⟨PyData.str⟩
instance : Enc Unit := ⟨fun _ => PyData.none⟩
instance {α : Type} [Enc α] : Enc (List α) := ⟨fun l => PyData.list (l.map enc)⟩
instance {α : Type} [Enc α] : Enc (Option α) := ⟨fun o => match o with | none => PyData.none | some x => enc x⟩
/-- a tuple of any length -/
structure Tup (α : Type) where
  l : List α
  deriving DecidableEq
instance {α : Type} [Enc α] : Enc (Tup α) := ⟨fun t => PyData.tuple (t.l.map enc)⟩
structure T2 (α β : Type) where
  a : α
  b : β
  deriving DecidableEq
structure T3 (α β γ : Type) where
  a : α
  b : β
  c : γ
  deriving DecidableEq
structure T4 (α β γ δ : Type) where
  a : α
  b : β
  c : γ
  d : δ
  deriving DecidableEq
instance {α β : Type} [Enc α] [Enc β] : Enc (T2 α β) := ⟨fun t => PyData.tuple [enc t.a, enc t.b]⟩
instance {α β γ : Type} [Enc α] [Enc β] [Enc γ] : Enc (T3 α β γ) := ⟨fun t => PyData.tuple [enc t.a, enc t.b, enc t.c]⟩
instance {α β γ δ : Type} [Enc α] [Enc β] [Enc γ] [Enc δ] : Enc (T4 α β γ δ) := ⟨fun t => PyData.tuple [enc t.a, enc t.b, enc t.c, enc t.d]⟩

/-! ### the data at a value: lists and tuples that are tracked (or known) -/
mutual
inductive Dq (H : Hp) : V → PyData → Prop
  | non : Dq H .non .none
  | bl (b : Bool) : Dq H (.bl b) (.bool b)
  | int (i : Int) : Dq H (.int i) (.int i)
  | str (x : Str) : Dq H (.str x) (.str x)
  | lst {a : Addr} {xs : List V} {ds : List PyData} : Rd H a (.lst xs) → DqAll H xs ds → Dq H (.ref a) (.list ds)
  | tup {a : Addr} {xs : List V} {ds : List PyData} : Rd H a (.tup xs) → DqAll H xs ds → Dq H (.ref a) (.tuple ds)
inductive DqAll (H : Hp) : List V → List PyData → Prop
  | nil : DqAll H [] []
  | cons {v : V} {vs : List V} {d : PyData} {ds : List PyData} : Dq H v d → DqAll H vs ds → DqAll H (v :: vs) (d :: ds)
end
theorem rd_mono {H H' : Hp} {a : Addr} {u : HO} (e : Same H H') (h : Rd H a u) : Rd H' a u := h.imp (e _ _) fun ⟨o, q⟩ => ⟨o, e _ _ q⟩
mutual
theorem Dq_mono {H H' : Hp} (e : Same H H') : ∀ (d : PyData) (v : V), Dq H v d → Dq H' v d
  | .none, _, h => by cases h; exact .non
  | .bool b, _, h => by cases h; exact .bl _
  | .int i, _, h => by cases h; exact .int _
  | .str x, _, h => by cases h; exact .str _
  | .list ds, _, h => by cases h with | lst h1 h2 => exact .lst (rd_mono e h1) (DqAll_mono e _ _ h2)
  | .tuple ds, _, h => by cases h with | tup h1 h2 => exact .tup (rd_mono e h1) (DqAll_mono e _ _ h2)
  | .dict _, _, h => by cases h
theorem DqAll_mono {H H' : Hp} (e : Same H H') : ∀ (ds : List PyData) (vs : List V), DqAll H vs ds → DqAll H' vs ds
  | [], _, h => by cases h; exact .nil
  | d :: ds, _, h => by cases h with | cons h1 h2 => exact .cons (Dq_mono e _ _ h1) (DqAll_mono e _ _ h2)
end
mutual
theorem Dq_dp {K : PySem.W.Frag} {H : Hp} : ∀ (d : PyData) (v : V), Dq H v d → Dp K H v d
  | .none, _, h => by cases h; exact .non
  | .bool b, _, h => by cases h; exact .bl _
  | .int i, _, h => by cases h; exact .int _
  | .str x, _, h => by cases h; exact .str _
  | .list ds, _, h => by cases h with | lst h1 h2 => exact .lst (.inl h1) (DqAll_dp _ _ h2)
  | .tuple ds, _, h => by cases h with | tup h1 h2 => exact .tup (.inl h1) (DqAll_dp _ _ h2)
  | .dict _, _, h => by cases h
theorem DqAll_dp {K : PySem.W.Frag} {H : Hp} : ∀ (ds : List PyData) (vs : List V), DqAll H vs ds → DpAll K H vs ds
  | [], _, h => by cases h; exact .nil
  | d :: ds, _, h => by cases h with | cons h1 h2 => exact .cons (Dq_dp _ _ h1) (DqAll_dp _ _ h2)
end
section
variable {H H' : Hp}
theorem DqAll.len : ∀ {vs : List V} {ds : List PyData}, DqAll H vs ds → vs.length = ds.length
  | _, _, .nil => rfl
  | _, _, .cons _ h => by simp [DqAll.len h]
theorem DqAll.app : ∀ {vs ws : List V} {ds es : List PyData}, DqAll H vs ds → DqAll H ws es → DqAll H (vs ++ ws) (ds ++ es)
  | _, _, _, _, .nil, h => h
  | _, _, _, _, .cons h t, h' => .cons h (DqAll.app t h')
theorem DqAll.at : ∀ {vs : List V} {ds : List PyData} {i : Nat} {d : PyData}, DqAll H vs ds → ds[i]? = some d → ∃ v, vs[i]? = some v ∧ Dq H v d
  | _, _, _, _, .nil, h => by simp at h
  | _, _, 0, _, .cons h _, e => by simp at e; subst e; exact ⟨_, rfl, h⟩
  | _, _, i + 1, _, .cons _ t, e => by
    obtain ⟨v, h1, h2⟩ := DqAll.at (i := i) t (by simpa using e)
    exact ⟨v, by simpa using h1, h2⟩
theorem DqAll.set : ∀ {vs : List V} {ds : List PyData} {v : V} {d : PyData} (i : Nat), DqAll H vs ds → Dq H v d → DqAll H (vs.set i v) (ds.set i d)
  | _, _, _, _, _, .nil, _ => .nil
  | _, _, _, _, 0, .cons _ t, h => .cons h t
  | _, _, _, _, i + 1, .cons h0 t, h => .cons h0 (DqAll.set i t h)
theorem DqAll.take : ∀ {vs : List V} {ds : List PyData} (n : Nat), DqAll H vs ds → DqAll H (vs.take n) (ds.take n)
  | _, _, 0, _ => .nil
  | _, _, _ + 1, .nil => .nil
  | _, _, n + 1, .cons h t => .cons h (DqAll.take n t)
theorem DqAll.drop : ∀ {vs : List V} {ds : List PyData} (n : Nat), DqAll H vs ds → DqAll H (vs.drop n) (ds.drop n)
  | _, _, 0, h => h
  | _, _, _ + 1, .nil => .nil
  | _, _, n + 1, .cons _ t => DqAll.drop n t
end

/-! ### slots -/
/-- what is known of a slot: nothing; persistent data; a list of the def's own -/
inductive Sl where
  | un
  | dat (d : PyData)
  | own (ds : List PyData)
  | rd (ds : List PyData)
def slAt : List Sl → Nat → Sl
  | [], _ => .un
  | s :: _, 0 => s
  | _ :: r, i + 1 => slAt r i
theorem slAt_set_self {s : Sl} : ∀ {G : List Sl} {i : Nat}, i < G.length → slAt (G.set i s) i = s
  | [], _, h => by simp at h
  | _ :: _, 0, _ => rfl
  | _ :: r, i + 1, h => slAt_set_self (G := r) (i := i) (by simpa using h)
theorem slAt_set_ne {s : Sl} : ∀ {G : List Sl} {i j : Nat}, i ≠ j → slAt (G.set i s) j = slAt G j
  | [], _, _, _ => rfl
  | _ :: _, 0, 0, h => absurd rfl h
  | _ :: _, 0, _ + 1, _ => rfl
  | _ :: _, _ + 1, 0, _ => rfl
  | _ :: r, i + 1, j + 1, h => slAt_set_ne (G := r) (i := i) (j := j) (by omega)
theorem slAt_out {G : List Sl} {i : Nat} (h : G.length ≤ i) : slAt G i = .un := by
  induction G generalizing i with
  | nil => rfl
  | cons s r ih => cases i with
    | zero => simp at h
    | succ i => exact ih (by simpa using h)

def SlR (K : PySem.W.Frag) (I H : Hp) : Sl → Option V → Option Addr → Prop
  | .un, _, p => p = none
  | .dat d, v, p => p = none ∧ ∃ x, v = some x ∧ Dq I x d
  | .own ds, v, p => ∃ a xs, p = some a ∧ v = some (.ref a) ∧ I a = none ∧ H a = some (.lst xs) ∧ DqAll I xs ds
  | .rd ds, v, p => p = none ∧ ∃ a xs, v = some (.ref a) ∧ SqL K I a xs ∧ DqAll I xs ds

/-- the state: F what stands for others (kept), I the persistent data, ps the def's own lists -/
structure RS (K : PySem.W.Frag) (F : Hp) (G : List Sl) (σ : L2.St) (H I : Hp) (ps : Nat → Option Addr) : Prop where
  si : Same I H
  sf : Same F H
  fo : ∀ i a, ps i = some a → F a = none
  len : G.length = σ.length
  sl : ∀ i, i < G.length → ∃ v, σ[i]? = some v ∧ SlR K I H (slAt G i) v (ps i)
  out : ∀ i, G.length ≤ i → ps i = none
  dis : ∀ i j a, ps i = some a → ps j = some a → i = j
/-- the persistent part grows outside of F -/
structure Grow (F I I' : Hp) : Prop where
  same : Same I I'
  out : ∀ a, I' a ≠ none → I a ≠ none ∨ F a = none
theorem Grow.refl {F I : Hp} : Grow F I I := ⟨Same.refl _, fun _ h => .inl h⟩
theorem Grow.trans {F I J L : Hp} (a : Grow F I J) (b : Grow F J L) : Grow F I L :=
  ⟨a.same.trans b.same, fun x h => (b.out x h).elim (a.out x) .inr⟩
theorem Same.none {H H' : Hp} (e : Same H H') {a : Addr} (h : H' a = none) : H a = none := e.free h
theorem same_upd {H : Hp} {p : Addr} {o : HO} (h : H p = none) : Same H (upd H p o) := fun b x e => by
  rw [upd_ne (ne_of_none e h)]; exact e
theorem same_upd2 {H J : Hp} {p : Addr} {o : HO} (e : Same J H) (h : J p = none) : Same J (upd H p o) := fun b x q => by
  rw [upd_ne (ne_of_none q h)]; exact e _ _ q
theorem Grow.new {F I : Hp} {p : Addr} {o : HO} (hI : I p = none) (hF : F p = none) : Grow F I (upd I p o) := by
  refine ⟨same_upd hI, fun a h => ?_⟩
  by_cases e : a = p
  · subst e; exact .inr hF
  · rw [upd_ne e] at h; exact .inl h

section
variable {K : PySem.W.Frag} {F : Hp} {G : List Sl} {σ : L2.St} {H H' I I' : Hp} {ps : Nat → Option Addr}
theorem SlR.mono {s : Sl} {v : Option V} {p : Option Addr} (h : SlR K I H s v p) (e : Same I I') (hp : ∀ a, p = some a → I' a = none ∧ ∀ o, H a = some o → H' a = some o) : SlR K I' H' s v p := by
  cases s with
  | un => exact h
  | dat d => obtain ⟨e1, x, e2, q⟩ := h; exact ⟨e1, x, e2, Dq_mono e _ _ q⟩
  | own ds =>
    obtain ⟨a, xs, e1, e2, n, q, r⟩ := h
    obtain ⟨n', k⟩ := hp a e1
    exact ⟨a, xs, e1, e2, n', k _ q, DqAll_mono e _ _ r⟩
  | rd ds => obtain ⟨e1, a, xs, e2, q, d⟩ := h; exact ⟨e1, a, xs, e2, Same.seq e q, DqAll_mono e _ _ d⟩
/-- an own list's address, as it is known -/
theorem RS.own_at (R : RS K F G σ H I ps) {i : Nat} {a : Addr} (h : ps i = some a) : I a = none ∧ F a = none ∧ ∃ xs, H a = some (.lst xs) := by
  have hi : i < G.length := by
    by_cases c : i < G.length
    · exact c
    · rw [R.out i (by omega)] at h; cases h
  obtain ⟨v, _, q⟩ := R.sl i hi
  cases s : slAt G i with
  | un => rw [s] at q; rw [show ps i = none from q] at h; cases h
  | dat d => rw [s] at q; rw [q.1] at h; cases h
  | rd d => rw [s] at q; rw [q.1] at h; cases h
  | own ds =>
    rw [s] at q
    obtain ⟨b, xs, e1, e2, n, q, r⟩ := q
    rw [h] at e1; cases e1
    exact ⟨n, R.fo i a h, xs, q⟩
/-- the heap grows to H', the persistent part to I' -/
theorem RS.grow (R : RS K F G σ H I ps) (e : Same H H') (si : Same I' H') (g : Same I I') (n : ∀ i a, ps i = some a → I' a = none) : RS K F G σ H' I' ps where
  si := si
  sf := R.sf.trans e
  fo := R.fo
  len := R.len
  sl := fun i hi => by
    obtain ⟨v, h1, h2⟩ := R.sl i hi
    exact ⟨v, h1, h2.mono g fun a ha => ⟨n i a ha, fun o q => e _ _ q⟩⟩
  out := R.out
  dis := R.dis
/-- a new persistent object -/
theorem RS.new (R : RS K F G σ H I ps) {p : Addr} {o : HO} (h : H p = none) : RS K F G σ (upd H p o) (upd I p o) ps := by
  have hI : I p = none := R.si.free h
  refine R.grow (same_upd h) (fun b x q => ?_) (same_upd hI) fun i a ha => ?_
  · by_cases e : b = p
    · subst e; rw [upd_same] at q ⊢; exact q
    · rw [upd_ne e] at q ⊢; exact R.si _ _ q
  · obtain ⟨n, _, xs, q⟩ := R.own_at ha
    rw [upd_ne (ne_of_none q h)]; exact n
theorem RS.grow_new (R : RS K F G σ H I ps) {p : Addr} {o : HO} (h : H p = none) : Grow F I (upd I p o) := Grow.new (R.si.free h) (R.sf.free h)
/-- a new object that is not persistent (yet) -/
theorem RS.newOwn (R : RS K F G σ H I ps) {p : Addr} {o : HO} (h : H p = none) : RS K F G σ (upd H p o) I ps :=
  R.grow (same_upd h) (R.si.trans (same_upd h)) (Same.refl _) fun i a ha => (R.own_at ha).1
/-- an object outside all is written -/
theorem RS.wr (R : RS K F G σ H I ps) {p : Addr} {o : HO} (hI : I p = none) (hF : F p = none) (hp : ∀ i, ps i ≠ some p) : RS K F G σ (upd H p o) I ps where
  si := same_upd2 R.si hI
  sf := same_upd2 R.sf hF
  fo := R.fo
  len := R.len
  sl := fun i hi => by
    obtain ⟨v, h1, h2⟩ := R.sl i hi
    refine ⟨v, h1, h2.mono (Same.refl _) fun a ha => ⟨(R.own_at ha).1, fun o q => ?_⟩⟩
    rw [upd_ne (fun e : a = p => hp i (by rw [← e]; exact ha))]; exact q
  out := R.out
  dis := R.dis
/-- what stands for others may be named otherwise -/
theorem RS.frame (R : RS K F G σ H I ps) {F' : Hp} (s : Same F' H) (n : ∀ i a, ps i = some a → F' a = none) : RS K F' G σ H I ps := ⟨R.si, s, n, R.len, R.sl, R.out, R.dis⟩
/-- a slot is stored: persistent data -/
def psDel (ps : Nat → Option Addr) (i : Nat) : Nat → Option Addr := fun j => if j = i then none else ps j
def psSet (ps : Nat → Option Addr) (i : Nat) (a : Addr) : Nat → Option Addr := fun j => if j = i then some a else ps j
theorem RS.setDat (R : RS K F G σ H I ps) {i : Nat} {v : V} {d : PyData} (h : Dq I v d) : RS K F (G.set i (.dat d)) (σ.set i (some v)) H I (psDel ps i) where
  si := R.si
  sf := R.sf
  fo := fun j a h => by
    unfold psDel at h; split at h
    · cases h
    · exact R.fo j a h
  len := by simp [R.len]
  sl := fun j hj => by
    rw [List.length_set] at hj
    obtain ⟨w, h1, h2⟩ := R.sl j hj
    by_cases e : j = i
    · subst e
      refine ⟨some v, List.getElem?_set_self (by rw [← R.len]; exact hj), ?_⟩
      rw [slAt_set_self hj]
      exact ⟨if_pos rfl, v, rfl, h⟩
    · refine ⟨w, by rw [List.getElem?_set_ne (Ne.symm e)]; exact h1, ?_⟩
      rw [slAt_set_ne (Ne.symm e), show psDel ps i j = ps j from if_neg e]
      exact h2
  out := fun j hj => by
    unfold psDel; split
    · rfl
    · exact R.out j (by simpa using hj)
  dis := fun j l a h1 h2 => by
    unfold psDel at h1 h2
    split at h1
    · cases h1
    · split at h2
      · cases h2
      · exact R.dis j l a h1 h2
theorem RS.setOwn (R : RS K F G σ H I ps) {i : Nat} {p : Addr} {xs : List V} {ds : List PyData} (hi : i < G.length) (hI : I p = none) (hF : F p = none) (hp : ∀ j, ps j ≠ some p) (hH : H p = some (.lst xs)) (h : DqAll I xs ds) :
    RS K F (G.set i (.own ds)) (σ.set i (some (.ref p))) H I (psSet ps i p) where
  si := R.si
  sf := R.sf
  fo := fun j a h => by
    unfold psSet at h; split at h
    · cases h; exact hF
    · exact R.fo j a h
  len := by simp [R.len]
  sl := fun j hj => by
    rw [List.length_set] at hj
    obtain ⟨w, h1, h2⟩ := R.sl j hj
    by_cases e : j = i
    · subst e
      refine ⟨some (.ref p), List.getElem?_set_self (by rw [← R.len]; exact hj), ?_⟩
      rw [slAt_set_self hj]
      exact ⟨p, xs, if_pos rfl, rfl, hI, hH, h⟩
    · refine ⟨w, by rw [List.getElem?_set_ne (Ne.symm e)]; exact h1, ?_⟩
      rw [slAt_set_ne (Ne.symm e), show psSet ps i p j = ps j from if_neg e]
      exact h2
  out := fun j hj => by
    unfold psSet; split
    · rename_i e; subst e; rw [List.length_set] at hj; omega
    · exact R.out j (by simpa using hj)
  dis := fun j l a h1 h2 => by
    unfold psSet at h1 h2
    split at h1
    · cases h1
      split at h2
      · omega
      · exact absurd h2 (hp l)
    · split at h2
      · cases h2; exact absurd h1 (hp j)
      · exact R.dis j l a h1 h2
/-- nothing is known of a slot any more -/
theorem RS.setUn (R : RS K F G σ H I ps) {i : Nat} {v : Option V} : RS K F (G.set i .un) (σ.set i v) H I (psDel ps i) where
  si := R.si
  sf := R.sf
  fo := fun j a h => by
    unfold psDel at h; split at h
    · cases h
    · exact R.fo j a h
  len := by simp [R.len]
  sl := fun j hj => by
    rw [List.length_set] at hj
    obtain ⟨w, h1, h2⟩ := R.sl j hj
    by_cases e : j = i
    · subst e
      refine ⟨v, List.getElem?_set_self (by rw [← R.len]; exact hj), ?_⟩
      rw [slAt_set_self hj]
      exact if_pos rfl
    · refine ⟨w, by rw [List.getElem?_set_ne (Ne.symm e)]; exact h1, ?_⟩
      rw [slAt_set_ne (Ne.symm e), show psDel ps i j = ps j from if_neg e]
      exact h2
  out := fun j hj => by
    unfold psDel; split
    · rfl
    · exact R.out j (by simpa using hj)
  dis := fun j l a h1 h2 => by
    unfold psDel at h1 h2
    split at h1
    · cases h1
    · split at h2
      · cases h2
      · exact R.dis j l a h1 h2
/-- an own list is written -/
theorem RS.wrOwn (R : RS K F G σ H I ps) {i : Nat} {p : Addr} {ys : List V} {es : List PyData} (hp : ps i = some p) (h : DqAll I ys es) : RS K F (G.set i (.own es)) σ (upd H p (.lst ys)) I ps where
  si := same_upd2 R.si (R.own_at hp).1
  sf := same_upd2 R.sf (R.own_at hp).2.1
  fo := R.fo
  len := by simp [R.len]
  sl := fun j hj => by
    rw [List.length_set] at hj
    obtain ⟨w, h1, h2⟩ := R.sl j hj
    by_cases e : j = i
    · subst e
      refine ⟨w, h1, ?_⟩
      rw [slAt_set_self hj]
      refine ⟨p, ys, hp, ?_, (R.own_at hp).1, upd_same, h⟩
      cases s : slAt G j with
      | un => rw [s] at h2; rw [show ps j = none from h2] at hp; cases hp
      | dat d => rw [s] at h2; rw [h2.1] at hp; cases hp
      | rd d => rw [s] at h2; rw [h2.1] at hp; cases hp
      | own ds =>
        rw [s] at h2
        obtain ⟨a, xs, e1, e2, _⟩ := h2
        rw [hp] at e1; cases e1; exact e2
    · refine ⟨w, h1, ?_⟩
      rw [slAt_set_ne (Ne.symm e)]
      refine h2.mono (Same.refl _) fun a ha => ⟨(R.own_at ha).1, fun o q => ?_⟩
      rw [upd_ne (fun z : a = p => e (R.dis j i a ha (by rw [z]; exact hp)))]; exact q
  out := fun j hj => R.out j (by simpa using hj)
  dis := R.dis
/-- an own list becomes persistent -/
theorem RS.frz (R : RS K F G σ H I ps) {i : Nat} {ds : List PyData} (hs : slAt G i = .own ds) : ∃ I', Grow F I I' ∧ RS K F (G.set i (.dat (.list ds))) σ H I' (psDel ps i) := by
  have hi : i < G.length := by
    by_cases c : i < G.length
    · exact c
    · rw [slAt_out (by omega)] at hs; cases hs
  obtain ⟨v, h1, h2⟩ := R.sl i hi
  rw [hs] at h2
  obtain ⟨a, xs, e1, e2, n, q, r⟩ := h2
  have g : Same I (upd I a (.lst xs)) := same_upd n
  refine ⟨upd I a (.lst xs), Grow.new n (R.fo i a e1), ?_⟩
  refine ⟨fun b x z => ?_, R.sf, fun j b z => ?_, by simp [R.len], fun j hj => ?_, fun j hj => ?_, fun j l b z1 z2 => ?_⟩
  · by_cases e : b = a
    · subst e; rw [upd_same] at z; cases z; exact q
    · rw [upd_ne e] at z; exact R.si _ _ z
  · unfold psDel at z; split at z
    · cases z
    · exact R.fo j b z
  · rw [List.length_set] at hj
    obtain ⟨w, k1, k2⟩ := R.sl j hj
    by_cases e : j = i
    · subst e
      rw [h1] at k1; cases k1
      refine ⟨v, h1, ?_⟩
      rw [slAt_set_self hj]
      refine ⟨if_pos rfl, .ref a, e2, .lst (.inl upd_same) (DqAll_mono g _ _ r)⟩
    · refine ⟨w, k1, ?_⟩
      rw [slAt_set_ne (Ne.symm e), show psDel ps i j = ps j from if_neg e]
      refine k2.mono g fun b hb => ⟨?_, fun o z => z⟩
      rw [upd_ne (fun z : b = a => e (R.dis j i a (by rw [← z]; exact hb) e1))]
      exact (R.own_at hb).1
  · unfold psDel; split
    · rfl
    · exact R.out j (by simpa using hj)
  · unfold psDel at z1 z2
    split at z1
    · cases z1
    · split at z2
      · cases z2
      · exact R.dis j l b z1 z2
end
end Lay

set_option Elab.async false
set_option linter.all false
set_option maxRecDepth 100000
/-! Lay2: expressions. -/
namespace Lay
open PySem PySem.Spec PyProof.Rows L2
open Lay.Enc (enc)

/-! ### the context of a def's body or of a comprehension's block -/
def fnOf : Option Scope → Str → Bool
  | none => fun _ => true
  | some scope => fun x => scope.names.lookup x == some .cell
structure Ctx (X : Cx) (N : List Str) (sc : Scope) (fs : Option Scope) (k : Nat) : Prop where
  n : X.N = N
  s : X.env.scope = sc
  fk : sc.kind = .function
  calm : X.calm = true
  nd : N.Nodup
  gd : X.A.guards = some []
  rm : Room k X.A
  px : PassesOwn (model X.prog X.w) X.A X.env X.xe
  fn : X.fn = fnOf fs
theorem Ctx.blk {X : Cx} {N : List Str} {sc : Scope} {fs : Option Scope} {k : Nat} (C : Ctx X N sc fs k) (s : Shared) (H : Hp) (scope : Scope) (Ca : Addr) (cl : List (Str × Addr)) (fp : List Addr) (hk : scope.kind = .function) :
    Ctx (X.blk s H scope (compEnvC scope cl Ca X.env) fp) N (relS scope sc) (some scope) k :=
  ⟨C.n, by show relS scope X.env.scope = _; rw [C.s], hk, C.calm, C.nd, C.gd, C.rm, PassesOwn.never, rfl⟩
/-- the name in slot i is seen in the scope -/
def visB (N : List Str) (sc : Scope) (i : Nat) (x : Str) : Bool :=
  decide (N[i]? = some x) && (match sc.names.lookup x with | some .local => true | some .cell => true | some .free => true | _ => false) && !(x == ("__debug__" : Str)) && !(x == ("__classdict__" : Str))
/-- the name in slot i is the scope's own -/
def locB (N : List Str) (sc : Scope) (fs : Option Scope) (i : Nat) (x : Str) : Bool :=
  decide (N[i]? = some x) && (match sc.names.lookup x with | some .local => true | some .cell => fnOf fs x | _ => false)
def glbB (sc : Scope) (x : Str) : Bool := (match sc.names.lookup x with | some .globalImplicit => true | _ => false) && !(x == ("__debug__" : Str))

/-! ### what is wanted of an expression -/
def tD (K : PySem.W.Frag) (G : List Sl) (d : PyData) : TE := fun σ H Q => ∃ F I ps, RS K F G σ H I ps ∧ ∀ v H' I', Grow F I I' → RS K F G σ H' I' ps → Dq I' v d → Q v H'
def tO (K : PySem.W.Frag) (G : List Sl) (ds : List PyData) : TE := fun σ H Q => ∃ F I ps, RS K F G σ H I ps ∧ ∀ p xs H' I', Grow F I I' → RS K F G σ H' I' ps → I' p = none → F p = none → (∀ i, ps i ≠ some p) → H' p = some (.lst xs) → DqAll I' xs ds → Q (.ref p) H'
def tR (K : PySem.W.Frag) (G : List Sl) (ds : List PyData) : TE := fun σ H Q => ∃ F I ps, RS K F G σ H I ps ∧ ∀ a xs H' I', Grow F I I' → RS K F G σ H' I' ps → SqL K H' a xs → DqAll I' xs ds → Q (.ref a) H'
def tB (K : PySem.W.Frag) (G : List Sl) (b : Bool) : TT := fun σ H Q => ∃ F I ps, RS K F G σ H I ps ∧ ∀ H' I', Grow F I I' → RS K F G σ H' I' ps → Q b H'
def tA (K : PySem.W.Frag) (G : List Sl) (ds : List PyData) : TA := fun σ H Q => ∃ F I ps, RS K F G σ H I ps ∧ ∀ vs H' I', Grow F I I' → RS K F G σ H' I' ps → DqAll I' vs ds → Q vs H'

/-- the expression gives the data o (if o is some) -/
def ED (X : Cx) (G : List Sl) {α : Type} [Enc α] (e : Expr) (o : Option α) : Prop := ∀ x, o = some x → PE X e (tD X.K G (enc x))
/-- .. a new list that nothing else holds -/
def EO (X : Cx) (G : List Sl) {α : Type} [Enc α] (e : Expr) (o : Option (List α)) : Prop := ∀ l, o = some l → PE X e (tO X.K G (l.map enc))
/-- .. a list that may be read -/
def ER (X : Cx) (G : List Sl) {α : Type} [Enc α] (e : Expr) (o : Option (List α)) : Prop := ∀ l, o = some l → PE X e (tR X.K G (l.map enc))
/-- .. a test -/
def EB (X : Cx) (G : List Sl) (e : Expr) (o : Option Bool) : Prop := ∀ b, o = some b → PT X e (tB X.K G b)
/-- .. in a chain of and, or -/
def EW (X : Cx) (G : List Sl) (e : Expr) (o : Option Bool) : Prop := ∀ b, o = some b → PW X e (tB X.K G b)
def AD (X : Cx) (G : List Sl) (es : List Expr) (o : Option (List PyData)) : Prop := ∀ ds, o = some ds → PA X es (tA X.K G ds)

theorem _root_.L2.PE.imp {X : Cx} {e : Expr} {t t' : TE} (h : PE X e t) (w : ∀ σ H Q, t' σ H Q → t σ H Q) : PE X e t' := ⟨fun pins s σ H Q I q => h.run pins s σ H Q I (w σ H Q q)⟩
theorem _root_.L2.PT.imp {X : Cx} {e : Expr} {t t' : TT} (h : PT X e t) (w : ∀ σ H Q, t' σ H Q → t σ H Q) : PT X e t' := ⟨fun pins s σ H Q I q => h.run pins s σ H Q I (w σ H Q q)⟩
theorem _root_.L2.PW.imp {X : Cx} {e : Expr} {t t' : TT} (h : PW X e t) (w : ∀ σ H Q, t' σ H Q → t σ H Q) : PW X e t' := ⟨fun wh pins s σ H Q I q => h.run wh pins s σ H Q I (w σ H Q q)⟩
theorem _root_.L2.PA.imp {X : Cx} {e : List Expr} {t t' : TA} (h : PA X e t) (w : ∀ σ H Q, t' σ H Q → t σ H Q) : PA X e t' := ⟨fun pos pins s σ H Q I q => h.run pos pins s σ H Q I (w σ H Q q)⟩

def lift1 {α β : Type} (f : α → β) (a : Option α) : Option β := a.bind fun x => some (f x)
def lift2 {α β γ : Type} (f : α → β → γ) (a : Option α) (b : Option β) : Option γ := a.bind fun x => b.bind fun y => some (f x y)
def bind2 {α β γ : Type} (f : α → β → Option γ) (a : Option α) (b : Option β) : Option γ := a.bind fun x => b.bind fun y => f x y
@[simp] theorem lift1_some {α β : Type} (f : α → β) (a : α) : lift1 f (some a) = some (f a) := rfl
@[simp] theorem lift2_some {α β γ : Type} (f : α → β → γ) (a : α) (b : β) : lift2 f (some a) (some b) = some (f a b) := rfl
@[simp] theorem bind2_some {α β γ : Type} (f : α → β → Option γ) (a : α) (b : β) : bind2 f (some a) (some b) = f a b := rfl
theorem bind2_get {α β γ : Type} {f : α → β → Option γ} {a : Option α} {b : Option β} {z : γ} (h : bind2 f a b = some z) : ∃ x y, a = some x ∧ b = some y ∧ f x y = some z := by
  cases a with
  | none => cases h
  | some x => cases b with
    | none => cases h
    | some y => exact ⟨x, y, rfl, rfl, h⟩
theorem lift2_get {α β γ : Type} {f : α → β → γ} {a : Option α} {b : Option β} {z : γ} (h : lift2 f a b = some z) : ∃ x y, a = some x ∧ b = some y ∧ f x y = z := by
  obtain ⟨x, y, h1, h2, h3⟩ := bind2_get (f := fun x y => some (f x y)) h
  exact ⟨x, y, h1, h2, Option.some.inj h3⟩
theorem bind_get {α β : Type} {f : α → Option β} {a : Option α} {z : β} (h : a.bind f = some z) : ∃ x, a = some x ∧ f x = some z := by
  cases a with
  | none => cases h
  | some x => exact ⟨x, rfl, h⟩
theorem lift1_get {α β : Type} {f : α → β} {a : Option α} {z : β} (h : lift1 f a = some z) : ∃ x, a = some x ∧ f x = z := by
  obtain ⟨x, h1, h2⟩ := bind_get (f := fun x => some (f x)) h
  exact ⟨x, h1, Option.some.inj h2⟩

section
variable {X : Cx} {G : List Sl} {α β γ : Type} [Enc α] [Enc β] [Enc γ]

/-! ### from one form to another -/
theorem er_of_ed {e : Expr} {o : Option (List α)} (h : ED X G e o) : ER X G e o := fun l hl => (h l hl).imp fun σ H Q ⟨F, I, ps, R, q⟩ => ⟨F, I, ps, R, fun v H' I' g R' d => by
  cases d with | lst h1 h2 => exact q _ _ _ _ g R' (.inl (rd_mono R'.si h1)) h2⟩
theorem er_of_eo {e : Expr} {o : Option (List α)} (h : EO X G e o) : ER X G e o := fun l hl => (h l hl).imp fun σ H Q ⟨F, I, ps, R, q⟩ => ⟨F, I, ps, R, fun p xs H' I' g R' _ _ _ hp d => q _ _ _ _ g R' (.inl (.inl hp)) d⟩
/-- a new list that becomes persistent at once -/
theorem frz_new {K : PySem.W.Frag} {F H' I I' : Hp} {σ : L2.St} {ps : Nat → Option Addr} {p : Addr} {xs : List V} {ds : List PyData} (g : Grow F I I') (R' : RS K F G σ H' I' ps) (hI : I' p = none) (hF : F p = none) (hp : ∀ i, ps i ≠ some p) (hH : H' p = some (.lst xs)) (d : DqAll I' xs ds) :
    Grow F I (upd I' p (.lst xs)) ∧ RS K F G σ H' (upd I' p (.lst xs)) ps ∧ Dq (upd I' p (.lst xs)) (.ref p) (.list ds) := by
  have s := same_upd (o := .lst xs) hI
  refine ⟨g.trans (Grow.new hI hF), R'.grow (Same.refl _) (fun b x q => ?_) s fun i a ha => ?_, .lst (.inl upd_same) (DqAll_mono s _ _ d)⟩
  · by_cases e : b = p
    · subst e; rw [upd_same] at q; cases q; exact hH
    · rw [upd_ne e] at q; exact R'.si _ _ q
  · rw [upd_ne (fun z : a = p => hp i (by rw [← z]; exact ha))]; exact (R'.own_at ha).1
theorem ed_of_eo {e : Expr} {o : Option (List α)} (h : EO X G e o) : ED X G e o := fun l hl => (h l hl).imp fun σ H Q ⟨F, I, ps, R, q⟩ => ⟨F, I, ps, R, fun p xs H' I' g R' hI hF hp hH d => by
  obtain ⟨g', R'', d'⟩ := frz_new g R' hI hF hp hH d
  exact q _ _ _ g' R'' d'⟩
/-- another type with the same data -/
theorem ed_coe {e : Expr} {o : Option α} (c : α → β) (hc : ∀ x, enc (c x) = enc x) (h : ED X G e o) : ED X G e (lift1 c o) := fun y hy => by
  obtain ⟨x, h1, h2⟩ := lift1_get hy
  rw [← h2, hc]; exact h x h1
theorem ed_coeP {e : Expr} {o : Option α} (c : α → Option β) (hc : ∀ x y, c x = some y → enc y = enc x) (h : ED X G e o) : ED X G e (o.bind c) := fun y hy => by
  obtain ⟨x, h1, h2⟩ := bind_get hy
  rw [hc x y h2]; exact h x h1
theorem ed_some {e : Expr} {o : Option α} (h : ED X G e o) : ED X G e (lift1 (some : α → Option α) o) := ed_coe _ (fun _ => rfl) h
theorem ed_get {e : Expr} {o : Option (Option α)} (h : ED X G e o) : ED X G e (o.bind id) := ed_coeP _ (fun x y h => by have h : x = some y := h; subst h; rfl) h
theorem eo_coe {e : Expr} {o : Option (List α)} (c : α → β) (hc : ∀ x, enc (c x) = enc x) (h : EO X G e o) : EO X G e (lift1 (List.map c) o) := fun y hy => by
  obtain ⟨x, h1, h2⟩ := lift1_get hy
  rw [← h2, List.map_map, show (enc ∘ c : α → PyData) = enc from funext hc]; exact h x h1
theorem er_coe {e : Expr} {o : Option (List α)} (c : α → β) (hc : ∀ x, enc (c x) = enc x) (h : ER X G e o) : ER X G e (lift1 (List.map c) o) := fun y hy => by
  obtain ⟨x, h1, h2⟩ := lift1_get hy
  rw [← h2, List.map_map, show (enc ∘ c : α → PyData) = enc from funext hc]; exact h x h1
theorem enc_map (c : α → β) (hc : ∀ x, enc (c x) = enc x) (l : List α) : enc (l.map c) = enc l := by
  show PyData.list ((l.map c).map enc) = PyData.list (l.map enc)
  rw [List.map_map, show (enc ∘ c : α → PyData) = enc from funext hc]

/-! ### names and constants -/
theorem ed_var {N : List Str} {sc : Scope} {fs : Option Scope} {k i : Nat} {x : Str} {v : α} {pos : Pos} (C : Ctx X N sc fs k) (hv : visB N sc i x = true) (hs : slAt G i = .dat (enc v)) : ED X G (.Name x pos) (some v) := fun y hy => by
  cases hy
  unfold visB at hv
  simp only [Bool.and_eq_true, decide_eq_true_eq, Bool.not_eq_true'] at hv
  obtain ⟨⟨⟨h1, h2⟩, h3⟩, h4⟩ := hv
  have hvis : Vis X.env.scope x := by
    rw [C.s]; unfold Vis
    split at h2 <;> simp_all
  refine (pe_var (by rw [C.n]; exact h1) hvis h3 h4).imp fun σ H Q ⟨F, I, ps, R, q⟩ => ?_
  have hi : i < G.length := by
    by_cases c : i < G.length
    · exact c
    · rw [slAt_out (by omega)] at hs; cases hs
  obtain ⟨w, k1, k2⟩ := R.sl i hi
  rw [hs] at k2
  obtain ⟨_, z, e, d⟩ := k2
  subst e
  exact ⟨z, k1, q z H I Grow.refl R d⟩
theorem er_own {N : List Str} {sc : Scope} {fs : Option Scope} {k i : Nat} {x : Str} {l : List α} {pos : Pos} (C : Ctx X N sc fs k) (hv : visB N sc i x = true) (hs : slAt G i = .own (l.map enc)) : ER X G (.Name x pos) (some l) := fun y hy => by
  cases hy
  unfold visB at hv
  simp only [Bool.and_eq_true, decide_eq_true_eq, Bool.not_eq_true'] at hv
  obtain ⟨⟨⟨h1, h2⟩, h3⟩, h4⟩ := hv
  have hvis : Vis X.env.scope x := by
    rw [C.s]; unfold Vis
    split at h2 <;> simp_all
  refine (pe_var (by rw [C.n]; exact h1) hvis h3 h4).imp fun σ H Q ⟨F, I, ps, R, q⟩ => ?_
  have hi : i < G.length := by
    by_cases c : i < G.length
    · exact c
    · rw [slAt_out (by omega)] at hs; cases hs
  obtain ⟨w, k1, k2⟩ := R.sl i hi
  rw [hs] at k2
  obtain ⟨a, xs, e1, e2, n, hH, d⟩ := k2
  subst e2
  exact ⟨_, k1, q a xs H I Grow.refl R (.inl (.inl hH)) d⟩
theorem tC_ed {v : V} {d : PyData} (hd : ∀ H : Hp, Dq H v d) {K : PySem.W.Frag} (σ : L2.St) (H : Hp) (Q : VK) (h : tD K G d σ H Q) : tC v σ H Q := by
  obtain ⟨F, I, ps, R, q⟩ := h
  exact q v H I Grow.refl R (hd _)
theorem ed_num {i : Int} {j : Nat} {pos : Pos} : ED X G (.Constant (.int i) j pos) (some i) := fun y hy => by
  cases hy; exact pe_int.imp (tC_ed fun _ => .int _)
theorem ed_bl {b : Bool} {j : Nat} {pos : Pos} : ED X G (.Constant (.bool b) j pos) (some b) := fun y hy => by
  cases hy; exact pe_bl.imp (tC_ed fun _ => .bl _)
theorem ed_str {b : Str} {j : Nat} {pos : Pos} : ED X G (.Constant (.str b) j pos) (some b) := fun y hy => by
  cases hy; exact pe_str.imp (tC_ed fun _ => .str _)
theorem ed_none {j : Nat} {pos : Pos} : ED X G (.Constant .none j pos) (some (none : Option α)) := fun y hy => by
  cases hy; exact pe_non.imp (tC_ed fun _ => .non)
theorem ed_unit {j : Nat} {pos : Pos} : ED X G (.Constant .none j pos) (some ()) := fun y hy => by
  cases hy; exact pe_non.imp (tC_ed fun _ => .non)

/-! ### operators -/
/-- what a rule of two values gives on data -/
def Sem2 (K : PySem.W.Frag) (r : R2) (d1 d2 d : PyData) : Prop :=
  ∀ (F : Hp) (G : List Sl) (σ : L2.St) (H I : Hp) (ps : Nat → Option Addr) (v w : V) (Q : VK), RS K F G σ H I ps → Dq I v d1 → Dq I w d2 → (∀ u H' I', Grow F I I' → RS K F G σ H' I' ps → Dq I' u d → Q u H') → r v w H Q
theorem tD_op {K : PySem.W.Frag} {r : R2} {d1 d2 d : PyData} (h : Sem2 K r d1 d2 d) (σ : L2.St) (H : Hp) (Q : VK) (t : tD K G d σ H Q) : tOp r (tD K G d1) (tD K G d2) σ H Q := by
  obtain ⟨F, I, ps, R, q⟩ := t
  refine ⟨F, I, ps, R, fun v H1 I1 g1 R1 dv => ⟨F, I1, ps, R1, fun w H2 I2 g2 R2 dw => ?_⟩⟩
  exact h F G σ H2 I2 ps v w Q R2 (Dq_mono g2.same _ _ dv) dw fun u H3 I3 g3 R3 du => q u H3 I3 (g1.trans (g2.trans g3)) R3 du
theorem ed_op2 {op : Operator} {a b : Expr} {pos : Pos} {oa : Option α} {ob : Option β} {f : α → β → Option γ} {r : R2} (ho : OpR X (binaryOp op) r) (hr : ∀ x y z, f x y = some z → Sem2 X.K r (enc x) (enc y) (enc z))
    (ha : ED X G a oa) (hb : ED X G b ob) : ED X G (.BinOp a op b pos) (bind2 f oa ob) := fun z hz => by
  obtain ⟨x, y, h1, h2, h3⟩ := bind2_get hz
  exact (pe_op ho (ha x h1) (hb y h2)).imp (tD_op (hr x y z h3))
theorem Sem2.int {K : PySem.W.Frag} {C : Int → Int → Prop} {g : Int → Int → Int} {i j : Int} (hc : C i j) : Sem2 K (rI C fun i j => .int (g i j)) (.int i) (.int j) (.int (g i j)) := by
  intro F G σ H I ps v w Q R hv hw q
  cases hv; cases hw
  exact ⟨i, j, rfl, rfl, hc, q _ _ _ Grow.refl R (.int _)⟩
theorem Sem2.int0 {K : PySem.W.Frag} {g : Int → Int → Int} {i j : Int} : Sem2 K (rI0 fun i j => .int (g i j)) (.int i) (.int j) (.int (g i j)) := by
  intro F G σ H I ps v w Q R hv hw q
  cases hv; cases hw
  exact ⟨i, j, rfl, rfl, q _ _ _ Grow.refl R (.int _)⟩
theorem Sem2.bool0 {K : PySem.W.Frag} {g : Int → Int → Bool} {i j : Int} : Sem2 K (rI0 fun i j => .bl (g i j)) (.int i) (.int j) (.bool (g i j)) := by
  intro F G σ H I ps v w Q R hv hw q
  cases hv; cases hw
  exact ⟨i, j, rfl, rfl, q _ _ _ Grow.refl R (.bl _)⟩

def mulG (i j : Int) : Option Int := if i.natAbs.log2 + j.natAbs.log2 < 1000000 then some (i * j) else none
def divG (i j : Int) : Option Int := if 0 < j ∧ j.natAbs.log2 < 9000 then some (i / j) else none
def modG (i j : Int) : Option Int := if 0 < j then some (i % j) else none
def powG (i j : Int) : Option Int := if 0 ≤ j ∧ j ≤ 1000000 ∧ i.natAbs < 2 ^ 64 then some (i ^ j.toNat) else none
theorem ite_get {α : Type} {c : Prop} [Decidable c] {x z : α} (h : (if c then some x else none) = some z) : c ∧ x = z := by
  by_cases e : c
  · rw [if_pos e] at h; exact ⟨e, Option.some.inj h⟩
  · rw [if_neg e] at h; cases h
variable {a b c : Expr} {pos : Pos} {oa ob oc : Option Int}
theorem ed_add (ha : ED X G a oa) (hb : ED X G b ob) : ED X G (.BinOp a .Add b pos) (lift2 (· + ·) oa ob) :=
  ed_op2 (f := fun i j => some (i + j)) op_add (fun x y z h => by cases h; exact Sem2.int0) ha hb
theorem ed_sub (ha : ED X G a oa) (hb : ED X G b ob) : ED X G (.BinOp a .Sub b pos) (lift2 (· - ·) oa ob) :=
  ed_op2 (f := fun i j => some (i - j)) op_sub (fun x y z h => by cases h; exact Sem2.int0) ha hb
theorem ed_mul (ha : ED X G a oa) (hb : ED X G b ob) : ED X G (.BinOp a .Mult b pos) (bind2 mulG oa ob) :=
  ed_op2 (f := mulG) op_mulW (fun x y z h => by obtain ⟨h1, h2⟩ := ite_get h; subst h2; exact Sem2.int h1) ha hb
theorem ed_fdiv (ha : ED X G a oa) (hb : ED X G b ob) : ED X G (.BinOp a .FloorDiv b pos) (bind2 divG oa ob) :=
  ed_op2 (f := divG) op_fdivW (fun x y z h => by obtain ⟨h1, h2⟩ := ite_get h; subst h2; exact Sem2.int h1) ha hb
theorem ed_mod (ha : ED X G a oa) (hb : ED X G b ob) : ED X G (.BinOp a .Mod b pos) (bind2 modG oa ob) :=
  ed_op2 (f := modG) op_mod (fun x y z h => by obtain ⟨h1, h2⟩ := ite_get h; subst h2; exact Sem2.int h1) ha hb
theorem ed_pow (ha : ED X G a oa) (hb : ED X G b ob) : ED X G (.BinOp a .Pow b pos) (bind2 powG oa ob) :=
  ed_op2 (f := powG) op_pow (fun x y z h => by obtain ⟨h1, h2⟩ := ite_get h; subst h2; exact Sem2.int h1) ha hb
theorem ed_neg (ha : ED X G a oa) : ED X G (.UnaryOp .USub a pos) (lift1 (fun i => -i) oa) := fun z hz => by
  obtain ⟨x, h1, h2⟩ := lift1_get hz
  subst h2
  refine (pe_un un_neg (ha x h1)).imp fun σ H Q ⟨F, I, ps, R, q⟩ => ⟨F, I, ps, R, fun v H' I' g R' d => ?_⟩
  cases d
  exact ⟨x, rfl, q _ _ _ g R' (.int _)⟩

/-! ### comparisons -/
theorem eb_of_ed {e : Expr} {o : Option Bool} (h : ED X G e o) (he : ∀ whole, isTrue e X.env whole = (do let v ← whole; standAt e.pos; holding [v] (truthy v)) := by intro _; rfl) : EB X G e o := fun k hk =>
  (pt_val (h k hk) he).imp fun σ H Q ⟨F, I, ps, R, q⟩ => ⟨F, I, ps, R, fun v H' I' g R' d => by cases d; exact ⟨k, rfl, q _ _ g R'⟩⟩
/-- a comparison, as a value and as a test -/
def EC (X : Cx) (G : List Sl) (op : CmpOp) (a b : Expr) (o : Option Bool) : Prop := ∀ k, o = some k → ∃ r ta tb, OpR X (compareOp op) r ∧ PE X a ta ∧ PE X b tb ∧ behindInMarks op b = false ∧ ∀ σ H Q, tD X.K G (.bool k) σ H Q → tOp r ta tb σ H Q
theorem ed_cmp {op : CmpOp} {o : Option Bool} (h : EC X G op a b o) : ED X G (.Compare a [op] [b] pos) o := fun k hk => by
  obtain ⟨r, ta, tb, h1, h2, h3, h4, h5⟩ := h k hk
  exact (pe_cmpR h1 h2 h3 h4).imp h5
theorem eb_cmp {op : CmpOp} {o : Option Bool} (h : EC X G op a b o) : EB X G (.Compare a [op] [b] pos) o := fun k hk => by
  obtain ⟨r, ta, tb, h1, h2, h3, h4, h5⟩ := h k hk
  refine (pt_cmpR h1 h2 h3 h4).imp fun σ H Q t => ?_
  refine h5 σ H _ ?_
  obtain ⟨F, I, ps, R, q⟩ := t
  exact ⟨F, I, ps, R, fun v H' I' g R' d => by cases d; exact ⟨k, rfl, q _ _ g R'⟩⟩
theorem ec_of {op : CmpOp} {r : R2} {f : α → β → Bool} {oa : Option α} {ob : Option β} (ho : OpR X (compareOp op) r) (hr : ∀ x y, Sem2 X.K r (enc x) (enc y) (.bool (f x y))) (hm : behindInMarks op b = false)
    (ha : ED X G a oa) (hb : ED X G b ob) : EC X G op a b (lift2 f oa ob) := fun k hk => by
  obtain ⟨x, y, h1, h2, h3⟩ := lift2_get hk
  subst h3
  exact ⟨r, _, _, ho, ha x h1, hb y h2, hm, tD_op (hr x y)⟩
theorem ec_lt (ha : ED X G a oa) (hb : ED X G b ob) : EC X G .Lt a b (lift2 (fun i j => decide (i < j)) oa ob) := ec_of op_lt (fun _ _ => Sem2.bool0) (nomark _) ha hb
theorem ec_le (ha : ED X G a oa) (hb : ED X G b ob) : EC X G .LtE a b (lift2 (fun i j => decide (i ≤ j)) oa ob) := ec_of op_le (fun _ _ => Sem2.bool0) (nomark _) ha hb
theorem ec_gt (ha : ED X G a oa) (hb : ED X G b ob) : EC X G .Gt a b (lift2 (fun i j => decide (j < i)) oa ob) := ec_of op_gt (fun _ _ => Sem2.bool0) (nomark _) ha hb
theorem ec_ge (ha : ED X G a oa) (hb : ED X G b ob) : EC X G .GtE a b (lift2 (fun i j => decide (j ≤ i)) oa ob) := ec_of op_ge (fun _ _ => Sem2.bool0) (nomark _) ha hb
theorem ec_eqI (ha : ED X G a oa) (hb : ED X G b ob) : EC X G .Eq a b (lift2 (fun i j => decide (i = j)) oa ob) := ec_of op_eq (fun x y => by
  intro F G σ H I ps v w Q R hv hw q
  cases hv; cases hw
  refine ⟨rfl, ?_⟩
  rw [show decide (V.int x = V.int y) = decide (x = y) by by_cases e : x = y <;> simp [e]]
  exact q _ _ _ Grow.refl R (.bl _)) (nomark _) ha hb
theorem ec_neI (ha : ED X G a oa) (hb : ED X G b ob) : EC X G .NotEq a b (lift2 (fun i j => !decide (i = j)) oa ob) := ec_of op_ne (fun x y => by
  intro F G σ H I ps v w Q R hv hw q
  cases hv; cases hw
  refine ⟨rfl, ?_⟩
  rw [show (!decide (V.int x = V.int y)) = !decide (x = y) by by_cases e : x = y <;> simp [e]]
  exact q _ _ _ Grow.refl R (.bl _)) (nomark _) ha hb
theorem ec_eqB {oa ob : Option Bool} (ha : ED X G a oa) (hb : ED X G b ob) : EC X G .Eq a b (lift2 (fun i j => i == j) oa ob) := ec_of op_eq (fun x y => by
  intro F G σ H I ps v w Q R hv hw q
  cases hv; cases hw
  refine ⟨rfl, ?_⟩
  rw [show decide (V.bl x = V.bl y) = (x == y) by cases x <;> cases y <;> rfl]
  exact q _ _ _ Grow.refl R (.bl _)) (nomark _) ha hb
theorem ec_neB {oa ob : Option Bool} (ha : ED X G a oa) (hb : ED X G b ob) : EC X G .NotEq a b (lift2 (fun i j => i != j) oa ob) := ec_of op_ne (fun x y => by
  intro F G σ H I ps v w Q R hv hw q
  cases hv; cases hw
  refine ⟨rfl, ?_⟩
  rw [show (!decide (V.bl x = V.bl y)) = (x != y) by cases x <;> cases y <;> rfl]
  exact q _ _ _ Grow.refl R (.bl _)) (nomark _) ha hb
theorem ec_eqS {oa ob : Option Str} (ha : ED X G a oa) (hb : ED X G b ob) : EC X G .Eq a b (lift2 (fun i j => decide (i = j)) oa ob) := ec_of op_eq (fun x y => by
  intro F G σ H I ps v w Q R hv hw q
  cases hv; cases hw
  refine ⟨rfl, ?_⟩
  rw [show decide (V.str x = V.str y) = decide (x = y) by by_cases e : x = y <;> simp [e]]
  exact q _ _ _ Grow.refl R (.bl _)) (nomark _) ha hb
theorem ec_neS {oa ob : Option Str} (ha : ED X G a oa) (hb : ED X G b ob) : EC X G .NotEq a b (lift2 (fun i j => !decide (i = j)) oa ob) := ec_of op_ne (fun x y => by
  intro F G σ H I ps v w Q R hv hw q
  cases hv; cases hw
  refine ⟨rfl, ?_⟩
  rw [show (!decide (V.str x = V.str y)) = !decide (x = y) by by_cases e : x = y <;> simp [e]]
  exact q _ _ _ Grow.refl R (.bl _)) (nomark _) ha hb

/-- a < b < c -/
def chainG (f g : Int → Int → Bool) (oa ob oc : Option Int) : Option Bool := oa.bind fun x => ob.bind fun y => bif f x y then oc.bind (fun z => some (g y z)) else some false
theorem pe_never {e : Expr} : PE X e (fun _ _ _ => False) := ⟨fun _ _ _ _ _ _ h => h.elim⟩
theorem tD_chain {r r' : R2} {f g : Int → Int → Bool} (hr : ∀ x y : Int, Sem2 X.K r (enc x) (enc y) (.bool (f x y))) (hr' : ∀ x y : Int, Sem2 X.K r' (enc x) (enc y) (.bool (g x y))) {tc : TE} {x y : Int} {k : Bool}
    (h : (f x y = true ∧ ∃ z, tc = tD X.K G (enc z) ∧ k = g y z) ∨ (f x y = false ∧ k = false)) (σ : L2.St) (H : Hp) (Q : VK) (t : tD X.K G (.bool k) σ H Q) : tChain r r' (tD X.K G (enc x)) (tD X.K G (enc y)) tc σ H Q := by
  obtain ⟨F, I, ps, R, q⟩ := t
  refine ⟨F, I, ps, R, fun v H1 I1 g1 R1 dv => ⟨F, I1, ps, R1, fun w H2 I2 g2 R2 dw => ?_⟩⟩
  refine hr x y F G σ H2 I2 ps v w _ R2 (Dq_mono g2.same _ _ dv) dw fun u H3 I3 g3 R3 du => ?_
  cases du
  refine ⟨f x y, rfl, ?_⟩
  rcases h with ⟨hf, z, rfl, rfl⟩ | ⟨hf, rfl⟩
  · rw [hf, if_pos rfl]
    refine ⟨F, I3, ps, R3, fun w' H4 I4 g4 R4 dw' => ?_⟩
    exact hr' y z F G σ H4 I4 ps w w' Q R4 (Dq_mono (g3.same.trans g4.same) _ _ dw) dw' fun u H5 I5 g5 R5 du => q u H5 I5 (g1.trans (g2.trans (g3.trans (g4.trans g5)))) R5 du
  · rw [hf, if_neg (by decide)]
    exact q _ _ _ (g1.trans (g2.trans g3)) R3 (.bl _)
theorem chainG_get {f g : Int → Int → Bool} {k : Bool} (hk : chainG f g oa ob oc = some k) : ∃ x y, oa = some x ∧ ob = some y ∧ ((f x y = true ∧ ∃ z, oc = some z ∧ k = g y z) ∨ (f x y = false ∧ k = false)) := by
  unfold chainG at hk
  obtain ⟨x, h1, hk⟩ := bind_get hk
  obtain ⟨y, h2, hk⟩ := bind_get hk
  refine ⟨x, y, h1, h2, ?_⟩
  cases hf : f x y with
  | true =>
    rw [hf, cond_true] at hk
    obtain ⟨z, h3, hk⟩ := bind_get hk
    cases hk
    exact .inl ⟨rfl, z, h3, rfl⟩
  | false =>
    rw [hf, cond_false] at hk
    cases hk
    exact .inr ⟨rfl, rfl⟩
theorem ed_chain {op op' : CmpOp} {r r' : R2} {f g : Int → Int → Bool} (ho : OpR X (compareOp op) r) (ho' : OpR X (compareOp op') r') (hr : ∀ x y : Int, Sem2 X.K r (enc x) (enc y) (.bool (f x y))) (hr' : ∀ x y : Int, Sem2 X.K r' (enc x) (enc y) (.bool (g x y)))
    (hm : lastMarks [op, op'] [b, c] = false) (ha : ED X G a oa) (hb : ED X G b ob) (hc : ED X G c oc) : ED X G (.Compare a [op, op'] [b, c] pos) (chainG f g oa ob oc) := fun k hk => by
  obtain ⟨x, y, h1, h2, h⟩ := chainG_get hk
  rcases h with ⟨hf, z, h3, e⟩ | ⟨hf, e⟩
  · exact (pe_chain ho ho' (ha x h1) (hb y h2) (hc z h3) hm).imp (tD_chain hr hr' (.inl ⟨hf, z, rfl, e⟩))
  · exact (pe_chain ho ho' (ha x h1) (hb y h2) pe_never hm).imp (tD_chain hr hr' (.inr ⟨hf, e⟩))
theorem eb_chain {op op' : CmpOp} {r r' : R2} {f g : Int → Int → Bool} (ho : OpR X (compareOp op) r) (ho' : OpR X (compareOp op') r') (hr : ∀ x y : Int, Sem2 X.K r (enc x) (enc y) (.bool (f x y))) (hr' : ∀ x y : Int, Sem2 X.K r' (enc x) (enc y) (.bool (g x y)))
    (hm : lastMarks [op, op'] [b, c] = false) (ha : ED X G a oa) (hb : ED X G b ob) (hc : ED X G c oc) : EB X G (.Compare a [op, op'] [b, c] pos) (chainG f g oa ob oc) := fun k hk => by
  obtain ⟨x, y, h1, h2, h⟩ := chainG_get hk
  have fin : ∀ σ H Q, tB X.K G k σ H Q → tD X.K G (.bool k) σ H (fun x H' => ∃ k, x = .bl k ∧ Q k H') := fun σ H Q ⟨F, I, ps, R, q⟩ => ⟨F, I, ps, R, fun v H' I' g R' d => by cases d; exact ⟨k, rfl, q _ _ g R'⟩⟩
  rcases h with ⟨hf, z, h3, e⟩ | ⟨hf, e⟩
  · exact (pt_chain ho ho' (ha x h1) (hb y h2) (hc z h3) hm).imp fun σ H Q t => tD_chain hr hr' (.inl ⟨hf, z, rfl, e⟩) σ H _ (fin σ H Q t)
  · exact (pt_chain ho ho' (ha x h1) (hb y h2) pe_never hm).imp fun σ H Q t => tD_chain hr hr' (.inr ⟨hf, e⟩) σ H _ (fin σ H Q t)
abbrev cLt : Int → Int → Bool := fun i j => decide (i < j)
abbrev cLe : Int → Int → Bool := fun i j => decide (i ≤ j)
theorem ed_chLeLe (hm : lastMarks [.LtE, .LtE] [b, c] = false) (ha : ED X G a oa) (hb : ED X G b ob) (hc : ED X G c oc) : ED X G (.Compare a [.LtE, .LtE] [b, c] pos) (chainG cLe cLe oa ob oc) := ed_chain op_le op_le (fun _ _ => Sem2.bool0) (fun _ _ => Sem2.bool0) hm ha hb hc
theorem ed_chLeLt (hm : lastMarks [.LtE, .Lt] [b, c] = false) (ha : ED X G a oa) (hb : ED X G b ob) (hc : ED X G c oc) : ED X G (.Compare a [.LtE, .Lt] [b, c] pos) (chainG cLe cLt oa ob oc) := ed_chain op_le op_lt (fun _ _ => Sem2.bool0) (fun _ _ => Sem2.bool0) hm ha hb hc
theorem ed_chLtLe (hm : lastMarks [.Lt, .LtE] [b, c] = false) (ha : ED X G a oa) (hb : ED X G b ob) (hc : ED X G c oc) : ED X G (.Compare a [.Lt, .LtE] [b, c] pos) (chainG cLt cLe oa ob oc) := ed_chain op_lt op_le (fun _ _ => Sem2.bool0) (fun _ _ => Sem2.bool0) hm ha hb hc
theorem ed_chLtLt (hm : lastMarks [.Lt, .Lt] [b, c] = false) (ha : ED X G a oa) (hb : ED X G b ob) (hc : ED X G c oc) : ED X G (.Compare a [.Lt, .Lt] [b, c] pos) (chainG cLt cLt oa ob oc) := ed_chain op_lt op_lt (fun _ _ => Sem2.bool0) (fun _ _ => Sem2.bool0) hm ha hb hc
theorem eb_chLeLe (hm : lastMarks [.LtE, .LtE] [b, c] = false) (ha : ED X G a oa) (hb : ED X G b ob) (hc : ED X G c oc) : EB X G (.Compare a [.LtE, .LtE] [b, c] pos) (chainG cLe cLe oa ob oc) := eb_chain op_le op_le (fun _ _ => Sem2.bool0) (fun _ _ => Sem2.bool0) hm ha hb hc
theorem eb_chLeLt (hm : lastMarks [.LtE, .Lt] [b, c] = false) (ha : ED X G a oa) (hb : ED X G b ob) (hc : ED X G c oc) : EB X G (.Compare a [.LtE, .Lt] [b, c] pos) (chainG cLe cLt oa ob oc) := eb_chain op_le op_lt (fun _ _ => Sem2.bool0) (fun _ _ => Sem2.bool0) hm ha hb hc
theorem eb_chLtLe (hm : lastMarks [.Lt, .LtE] [b, c] = false) (ha : ED X G a oa) (hb : ED X G b ob) (hc : ED X G c oc) : EB X G (.Compare a [.Lt, .LtE] [b, c] pos) (chainG cLt cLe oa ob oc) := eb_chain op_lt op_le (fun _ _ => Sem2.bool0) (fun _ _ => Sem2.bool0) hm ha hb hc
theorem eb_chLtLt (hm : lastMarks [.Lt, .Lt] [b, c] = false) (ha : ED X G a oa) (hb : ED X G b ob) (hc : ED X G c oc) : EB X G (.Compare a [.Lt, .Lt] [b, c] pos) (chainG cLt cLt oa ob oc) := eb_chain op_lt op_lt (fun _ _ => Sem2.bool0) (fun _ _ => Sem2.bool0) hm ha hb hc
/-! ### is None -/
def isNoneD : PyData → Bool
  | .none => true
  | _ => false
theorem Dq.non_iff {H : Hp} {v : V} {d : PyData} (h : Dq H v d) : decide (v = .non) = isNoneD d := by
  cases h <;> rfl
class NonNone (α : Type) [Enc α] : Prop where
  ne : ∀ x : α, enc x ≠ PyData.none
instance : NonNone Int := ⟨fun _ h => by cases h⟩
instance : NonNone Bool := ⟨fun _ h => by cases h⟩
instance : NonNone Str := ⟨fun _ h => by cases h⟩
instance {α : Type} [Enc α] : NonNone (List α) := ⟨fun _ h => by cases h⟩
instance {α : Type} [Enc α] : NonNone (Tup α) := ⟨fun _ h => by cases h⟩
instance {α β : Type} [Enc α] [Enc β] : NonNone (T2 α β) := ⟨fun _ h => by cases h⟩
instance {α β γ : Type} [Enc α] [Enc β] [Enc γ] : NonNone (T3 α β γ) := ⟨fun _ h => by cases h⟩
instance {α β γ δ : Type} [Enc α] [Enc β] [Enc γ] [Enc δ] : NonNone (T4 α β γ δ) := ⟨fun _ h => by cases h⟩
theorem isN_enc {α : Type} [Enc α] [NonNone α] (o : Option α) : isNoneD (enc o) = o.isNone := by
  cases o with
  | none => rfl
  | some x =>
    have h := NonNone.ne x
    show isNoneD (enc x) = false
    cases e : (enc x : PyData) <;> first | rfl | exact absurd e h
theorem ec_isN [NonNone α] {o : Option (Option α)} {j pos'} (ha : ED X G a o) : EC X G .Is a (.Constant .none j pos') (lift1 Option.isNone o) := fun k hk => by
  obtain ⟨x, h1, h2⟩ := lift1_get hk
  refine ⟨_, _, _, op_isN, ha x h1, pe_non, nomark _, fun σ H Q ⟨F, I, ps, R, q⟩ => ⟨F, I, ps, R, fun v H' I' g R' d => ⟨rfl, ?_⟩⟩⟩
  rw [d.non_iff, isN_enc, h2]
  exact q _ _ _ g R' (.bl _)
theorem ec_notN [NonNone α] {o : Option (Option α)} {j pos'} (ha : ED X G a o) : EC X G .IsNot a (.Constant .none j pos') (lift1 Option.isSome o) := fun k hk => by
  obtain ⟨x, h1, h2⟩ := lift1_get hk
  refine ⟨_, _, _, op_notN, ha x h1, pe_non, nomark _, fun σ H Q ⟨F, I, ps, R, q⟩ => ⟨F, I, ps, R, fun v H' I' g R' d => ⟨rfl, ?_⟩⟩⟩
  rw [d.non_iff, isN_enc]
  rw [show (!x.isNone) = k by rw [← h2]; cases x <;> rfl]
  exact q _ _ _ g R' (.bl _)

/-! ### and, or, not, if-else -/
theorem ew_and1 {o : Option Bool} (h : EB X G a o) : EW X G (.BoolOp .And [a] pos) o := fun k hk => pw_and1 (h k hk)
theorem ew_or1 {o : Option Bool} (h : EB X G a o) : EW X G (.BoolOp .Or [a] pos) o := fun k hk => pw_or1 (h k hk)
def andG (o p : Option Bool) : Option Bool := o.bind fun x => bif x then p else some false
def orG (o p : Option Bool) : Option Bool := o.bind fun x => bif x then some true else p
@[simp] theorem andG_some (x : Bool) (p : Option Bool) : andG (some x) p = bif x then p else some false := rfl
@[simp] theorem orG_some (x : Bool) (p : Option Bool) : orG (some x) p = bif x then some true else p := rfl
theorem pw_never {e : Expr} : PW X e (fun _ _ _ => False) := ⟨fun _ _ _ _ _ _ _ h => h.elim⟩
theorem pt_never {e : Expr} : PT X e (fun _ _ _ => False) := ⟨fun _ _ _ _ _ _ h => h.elim⟩
theorem ew_and {rest : List Expr} {o p : Option Bool} (h : EB X G a o) (h' : EW X G (.BoolOp .And (b :: rest) pos) p) : EW X G (.BoolOp .And (a :: b :: rest) pos) (andG o p) := fun k hk => by
  obtain ⟨x, h1, hk⟩ := bind_get hk
  cases x with
  | true =>
    exact (pw_and (h _ h1) (h' k hk)).imp fun σ H Q ⟨F, I, ps, R, q⟩ => ⟨F, I, ps, R, fun H' I' g R' => iteT (⟨F, I', ps, R', fun H2 I2 g2 R2 => q _ _ (g.trans g2) R2⟩)⟩
  | false =>
    cases hk
    exact (pw_and (h _ h1) pw_never).imp fun σ H Q ⟨F, I, ps, R, q⟩ => ⟨F, I, ps, R, fun H' I' g R' => iteF (q _ _ g R')⟩
theorem ew_or {rest : List Expr} {o p : Option Bool} (h : EB X G a o) (h' : EW X G (.BoolOp .Or (b :: rest) pos) p) : EW X G (.BoolOp .Or (a :: b :: rest) pos) (orG o p) := fun k hk => by
  obtain ⟨x, h1, hk⟩ := bind_get hk
  cases x with
  | false =>
    exact (pw_or (h _ h1) (h' k hk)).imp fun σ H Q ⟨F, I, ps, R, q⟩ => ⟨F, I, ps, R, fun H' I' g R' => iteF (⟨F, I', ps, R', fun H2 I2 g2 R2 => q _ _ (g.trans g2) R2⟩)⟩
  | true =>
    cases hk
    exact (pw_or (h _ h1) pw_never).imp fun σ H Q ⟨F, I, ps, R, q⟩ => ⟨F, I, ps, R, fun H' I' g R' => iteT (q _ _ g R')⟩
theorem eb_bool {e : Expr} {o : Option Bool} (h : EW X G e o) : EB X G e o := fun k hk => (h k hk).pt
theorem eb_not {o : Option Bool} (h : EB X G a o) : EB X G (.UnaryOp .Not a pos) (lift1 (fun x => !x) o) := fun k hk => by
  obtain ⟨x, h1, h2⟩ := lift1_get hk
  subst h2
  exact (pt_not (h x h1)).imp fun σ H Q ⟨F, I, ps, R, q⟩ => ⟨F, I, ps, R, fun H' I' g R' => q _ _ g R'⟩
theorem ed_one {op} {e : Expr} {o : Option α} (h : ED X G e o) : ED X G (.BoolOp op [e] pos) o := fun k hk => pe_one (h k hk)
theorem ed_and {rest : List Expr} {o p : Option Bool} (h : ED X G a o) (h' : ED X G (.BoolOp .And (b :: rest) pos) p) : ED X G (.BoolOp .And (a :: b :: rest) pos) (andG o p) := fun k hk => by
  obtain ⟨x, h1, hk⟩ := bind_get hk
  cases x with
  | true =>
    exact (pe_and (h _ h1) (h' k hk)).imp fun σ H Q ⟨F, I, ps, R, q⟩ => ⟨F, I, ps, R, fun v H' I' g R' d => by
      cases d
      exact ⟨true, rfl, iteT ⟨F, I', ps, R', fun v H2 I2 g2 R2 d => q _ _ _ (g.trans g2) R2 d⟩⟩⟩
  | false =>
    cases hk
    exact (pe_and (h _ h1) pe_never).imp fun σ H Q ⟨F, I, ps, R, q⟩ => ⟨F, I, ps, R, fun v H' I' g R' d => by
      cases d
      exact ⟨false, rfl, iteF (q _ _ _ g R' (.bl _))⟩⟩
theorem ed_or {rest : List Expr} {o p : Option Bool} (h : ED X G a o) (h' : ED X G (.BoolOp .Or (b :: rest) pos) p) : ED X G (.BoolOp .Or (a :: b :: rest) pos) (orG o p) := fun k hk => by
  obtain ⟨x, h1, hk⟩ := bind_get hk
  cases x with
  | false =>
    exact (pe_or (h _ h1) (h' k hk)).imp fun σ H Q ⟨F, I, ps, R, q⟩ => ⟨F, I, ps, R, fun v H' I' g R' d => by
      cases d
      exact ⟨false, rfl, iteF ⟨F, I', ps, R', fun v H2 I2 g2 R2 d => q _ _ _ (g.trans g2) R2 d⟩⟩⟩
  | true =>
    cases hk
    exact (pe_or (h _ h1) pe_never).imp fun σ H Q ⟨F, I, ps, R, q⟩ => ⟨F, I, ps, R, fun v H' I' g R' d => by
      cases d
      exact ⟨true, rfl, iteT (q _ _ _ g R' (.bl _))⟩⟩
theorem ed_not {o : Option Bool} (h : ED X G a o) : ED X G (.UnaryOp .Not a pos) (lift1 (fun x => !x) o) := fun k hk => by
  obtain ⟨x, h1, h2⟩ := lift1_get hk
  subst h2
  exact (pe_not (h x h1)).imp fun σ H Q ⟨F, I, ps, R, q⟩ => ⟨F, I, ps, R, fun v H' I' g R' d => by cases d; exact ⟨x, rfl, q _ _ _ g R' (.bl _)⟩⟩
theorem ed_if {t : Expr} {oc : Option Bool} {oa ob : Option α} (hc : EB X G t oc) (ha : ED X G a oa) (hb : ED X G b ob) : ED X G (.IfExp t a b pos) (oc.bind fun c => bif c then oa else ob) := fun k hk => by
  obtain ⟨x, h1, hk⟩ := bind_get hk
  cases x with
  | true =>
    exact (pe_ifExp (hc _ h1) (ha k hk) pe_never).imp fun σ H Q ⟨F, I, ps, R, q⟩ => ⟨F, I, ps, R, fun H' I' g R' => iteT (⟨F, I', ps, R', fun v H2 I2 g2 R2 d => q _ _ _ (g.trans g2) R2 d⟩)⟩
  | false =>
    exact (pe_ifExp (hc _ h1) pe_never (hb k hk)).imp fun σ H Q ⟨F, I, ps, R, q⟩ => ⟨F, I, ps, R, fun H' I' g R' => iteF (⟨F, I', ps, R', fun v H2 I2 g2 R2 d => q _ _ _ (g.trans g2) R2 d⟩)⟩
end
end Lay

set_option Elab.async false
set_option linter.all false
set_option maxRecDepth 100000
/-! Lay3: defs with the guards told (repr wants them), their calls, the law's end. -/
namespace Lay
open PySem PySem.Spec PyProof.Rows L2
open Lay.Enc (enc)

section
variable (P : Program) (w : World) (K : PySem.W.Frag) (mg : Str → Option Value) (base : Heap) (CX : CXT)
/-- a def's promise at depth k, where no guarded builtin runs around -/
structure FnG (k : Nat) (f : Addr) (fd : FuncData) (ps : List Str) (sp : Sp) : Prop where
  ar : ∀ vs H Q E, sp vs H Q E → vs.length = ps.length
  go : ∀ (A : Around) (out : List Env) (s : Shared) (H : Hp) (args : Args) (us : List Value) (vs : List V) (Q : VK) (E : XK), A.guards = some [] → Room k A → Env0 P w K mg base A out s H →
    BindsTo s fd args (ps.zip us) → Vals vs us → sp vs H Q E → codeAny (model P w) A (.call (.ref f) args) (CR CX out P w H s Q E) s
end
section
variable {P : Program} {w : World} {K : PySem.W.Frag} {mg : Str → Option Value} {base : Heap} {CX : CXT}
theorem FnG.up {j k : Nat} {f : Addr} {fd : FuncData} {ps : List Str} {sp : Sp} (F : FnG P w K mg base CX j f fd ps sp) (h : j ≤ k) : FnG P w K mg base CX k f fd ps sp :=
  ⟨F.ar, fun A out s H args us vs Q E g r => F.go A out s H args us vs Q E g (r.mono h)⟩
/-- the def x of the text, by its body -/
theorem fnG {x qual : Str} {st : Stmt} {f : Addr} {fd : FuncData} {N ps : List Str} {k : Nat} {sp : Sp} (F : Fun K x qual st f fd) (S : FnScope N ps (defScope st)) (ar : ∀ vs H Q E, sp vs H Q E → vs.length = ps.length)
    (body : ∀ (cd : Value) (A : Around) (out : List Env) (s : Shared) (H : Hp) (vs : List V) (Q : VK) (E : XK), A.guards = some [] → Room k (A.deeper (envOfC qual (defScope st) s.heap.objs.size f cd)) → sp vs H Q E →
      ∃ t, PSs (cxOf CX P w K mg base N qual (defScope st) f cd A out s H E) (defBody st) t ∧ t { nx := fun _ H' => Q .non H', rt := Q } (start N vs) H) : FnG P w K mg base CX (k + 1) f fd ps sp := by
  obtain ⟨oc, od, kv, dc, pm, an, cd, ct, sl, e, lk, hc⟩ := F.ex
  subst e
  refine ⟨ar, fun A out s H args us vs Q E gd rm en bd rv hs => ?_⟩
  have len := ar _ _ _ _ hs
  have kin : K.In s.heap := en.mod.kin.keeps fun b o e => (en.bs b o e).1
  have nol : s.heap.NoLimit := en.mod.nolimit.keeps fun b o e => (en.bs b o e).1
  refine codeAny_call_function rm.depth (kin _ _ lk) rfl S.co S.gen rfl (PySem.W.codeRec_of kin hc) (bd _ _ _ _ (wpAny_newFunctionEnv_cells S.kind (fun y hy => ?_) fun env he s1 ic => ?_))
  · rcases S.par y.1 (List.of_mem_zip (a := y.1) (b := y.2) hy).1 with q | q
    · exact Or.inl q
    · exact Or.inr ⟨q, PySem.W.cellsFrom_some _ _ _ (Or.inl q)⟩
  · subst he
    obtain ⟨t, pt, tq⟩ := body cd A out s H vs Q E gd (rm.deeper _) hs
    refine ⟨nol.keeps ic.toInCall.keep, codeAny_func (wpAny_mono (pt.run [] s1 (start N vs) H _ (inv_start S rm.hd en len rv ic) tq) (fun fl s2 hq => ?_) fun _ _ z => z)⟩
    cases fl with
    | ret u => exact let ⟨v, _, H', J, r, q⟩ := hq; ⟨v, H', J.os, J.bare, J.base, J.hok, r, q⟩
    | next => exact let ⟨_, H', J, q⟩ := hq; ⟨V.non, H', J.os, J.bare, J.base, J.hok, rfl, q⟩
    | brk => exact let ⟨_, _, _, q⟩ := hq; False.elim q
    | cont => exact let ⟨_, _, _, q⟩ := hq; False.elim q
end

/-! ### the call of a def -/
/-- what is known of a def that is called: it stands at x, keeps its promise at depth k -/
structure Cal (P : Program) (w : World) (K : PySem.W.Frag) (mg : Str → Option Value) (base : Heap) (CX : CXT) (k : Nat) (x : Str) (ps : List Str) (sp : Sp) : Prop where
  ex : ∃ f fd, FnG P w K mg base CX k f fd ps sp ∧ mg x = some (.ref f) ∧ PySem.W.keepIn K (.ref f) = true ∧ Binds K fd ps []
theorem Cal.up {P : Program} {w : World} {K : PySem.W.Frag} {mg : Str → Option Value} {base : Heap} {CX : CXT} {j k : Nat} {x : Str} {ps : List Str} {sp : Sp} (C : Cal P w K mg base CX j x ps sp) (h : j ≤ k) : Cal P w K mg base CX k x ps sp :=
  let ⟨f, fd, F, a, b, c⟩ := C.ex; ⟨f, fd, F.up h, a, b, c⟩
section
variable {X : Cx} {CX : CXT} {k : Nat} {x : Str} {ps : List Str} {sp : Sp} {E : XK} {e : Expr} {es : List Expr} {t : TA} {p pos : Pos}
theorem glbB_gl {sc : Scope} (hs : X.env.scope = sc) (h : glbB sc x = true) : Gl X x ∧ (x == ("__debug__" : Str)) = false := by
  unfold glbB at h
  simp only [Bool.and_eq_true, Bool.not_eq_true'] at h
  refine ⟨?_, h.2⟩
  show X.env.scope.names.lookup x = _
  rw [hs]
  have h1 := h.1
  split at h1
  · assumption
  · cases h1
theorem run_call {pins : List (Addr × Obj)} {σ : L2.St} {H : Hp} {s : Shared} {Q : VK} {f : Addr} {fd : FuncData} {us : List Value} {vs : List V} (F : FnG X.prog X.w X.K X.mg X.base CX k f fd ps sp) (gd : X.A.guards = some []) (rm : Room k X.A) (bd : Binds X.K fd ps []) (hx : Passes CX X E)
    (I : Inv X pins σ H s) (rv : Vals vs us) (h : sp vs H Q E) : wpAny (model X.prog X.w) X.A (call (.ref f) us) (EP X pins σ Q) X.xe s := by
  have hn : (us ++ []).length = ps.length := by rw [List.append_nil, ← rv.length]; exact F.ar _ _ _ _ h
  have hb := bd s us I.kIn hn
  rw [List.append_nil] at hb
  refine wpAny_call (codeAny_mono (F.go X.A X.stack s H ⟨us, []⟩ us vs Q E gd rm I.env0 hb rv h) fun r s2 hq => ?_)
  match r, hq with
  | .error e, hq => exact hx pins σ H s e s2 I hq
  | .ok (.ret u), hq => exact I.after hq
theorem pe_callG {sc : Scope} (C : Cal X.prog X.w X.K X.mg X.base CX k x ps sp) (gd : X.A.guards = some []) (rm : Room k X.A) (hs : X.env.scope = sc) (hg : glbB sc x = true) (hx : Passes CX X E) (ha : PA X (e :: es) t)
    (he : starEach (e :: es) X.env = (false, eval e X.env) :: starEach es X.env := by rfl) (hp : (backTo pos (starEach es X.env)).any (·.1) = false := by rfl) :
    PE X (.Call (.Name x p) (e :: es) [] pos) (fun σ H Q => t σ H fun vs H1 => sp vs H1 Q E) := by
  obtain ⟨f, fd, F, hm, hk, bd⟩ := C.ex
  obtain ⟨gl, db⟩ := glbB_gl hs hg
  refine ⟨fun pins s σ H Q I h => wpAny_Call_Name_kw (ld_glob I gl hm ?_ db)⟩
  refine PySem.W.callWith_K (h₀ := X.base) I.ok.mod.kin hk (thn (ha.run pos pins s σ H _ I h) fun us s1 a => ?_) he hp
  obtain ⟨vs, H1, I1, rv, q⟩ := a
  exact ⟨I1.kIn, run_call F gd rm bd hx I1 rv q⟩
end

/-! ### the law's end -/
section
variable {P : Program} {w : World} {K : PySem.W.Frag} {mg mb : Str → Option Value} {k : Nat} {fa a : Addr} {fd : FuncData} {x : Str} {sp : Sp} {s1 : Shared} {vs : List Value} {ns : List Int}
/-- what must hold of the abstract heap at the law's entry: at most the script is tracked -/
structure Entry (K : PySem.W.Frag) (s1 : Shared) (a : Addr) (ns : List Int) (H : Hp) (P : Program) (w : World) : Prop where
  only : Only H
  seq : SqL K H a (ns.map V.int)
  ok : HOk P w H s1.heap
  just : ∀ b u, H b = some u → b = a
  nk : ∀ u, H a = some u → K.lookup a = none
theorem entry_ex (kx : K.In s1.heap) (ha : s1.heap.get? a = some { cls := .type "list", data := .seq vs.toArray }) (hi : IntsAre vs ns) (hl : ns.length ≤ sizeLine) : ∃ H, Entry K s1 a ns H P w := by
  have rv := vals_ints hi
  have ln := hi.length
  cases q : K.lookup a with
  | some o =>
    have e : some o = _ := (kx a o q).symm.trans ha
    cases e
    refine ⟨fun _ => none, fun _ => Or.inl rfl, Or.inr ⟨_, vs.toArray, _, q, rfl, rfl, rfl, ?_, by simpa using rv⟩, fun b u z => (nomatch z), fun b u z => (nomatch z), fun u z => (nomatch z)⟩
    rw [List.size_toArray, ln]; exact hl
  | none =>
    let ob : Obj := { cls := .type "list", data := .seq vs.toArray }
    have at1 : ∀ {b u}, (if b = a then some (HO.frz ob (.lst (ns.map V.int))) else none) = some u → b = a ∧ u = HO.frz ob (.lst (ns.map V.int)) := fun {b u} z => by
      by_cases c : b = a
      · rw [if_pos c] at z; exact ⟨c, (Option.some.inj z).symm⟩
      · rw [if_neg c] at z; cases z
    refine ⟨fun b => if b = a then some (.frz ob (.lst (ns.map V.int))) else none, fun b => ?_, Or.inl (Or.inr ⟨ob, if_pos rfl⟩), fun b u z => ?_, fun b u z => (at1 z).1, fun _ _ => q⟩
    · by_cases c : b = a
      · exact Or.inr ⟨_, _, if_pos c⟩
      · exact Or.inl (if_neg c)
    · obtain ⟨rfl, rfl⟩ := at1 z
      exact ⟨ha, by rw [List.length_map]; exact hl, vs, _, rv, ha⟩
theorem law_end (kx : K.In s1.heap) (hns : s1.heap.Ns mainGlobals mg) (hb : s1.heap.Ns builtinsNs mb) (hbb : ∀ x : Str, x ≠ "__name__" → mb x = bootBuiltins x) (hlim : s1.heap.NoLimit) (hg : s1.gens = #[])
    (ha : s1.heap.get? a = some { cls := .type "list", data := .seq vs.toArray }) (hi : IntsAre vs ns) (hl : ns.length ≤ sizeLine) (hr : Room k callerA)
    (F : ∀ base : Heap, K.In base → base.Ns mainGlobals mg → FnG P w K mg base CX0 k fa fd [x] sp) (bind : ∀ (s : Shared) (u : Value), BindsTo s fd ⟨[u], []⟩ [(x, u)])
    (hsp : ∀ H : Hp, Only H → SqL K H a (ns.map V.int) → sp [.ref a] H (fun v _ => v = .bl true) fun _ _ _ => False) :
    codeAny (model P w) callerA (.call (.ref fa) ⟨[.ref a], []⟩) (fun r s' => r = .ok (.ret (.bool true)) ∧ OldK s1.heap s'.heap ∧ s'.os = s1.os ∧ AllBare s'.gens) s1 := by
  obtain ⟨H, en⟩ := entry_ex (P := P) (w := w) kx ha hi hl
  -- the heap without the script is the base
  have out : ∀ {b : Addr} {o : Obj}, s1.heap.get? b = some o → (∀ u, H b ≠ some u) → (hidT s1.heap H).get? b = some o := fun {b o} e n => hidT_get e (by
    cases q : H b with
    | none => rfl
    | some u => exact absurd q (n u))
  have dict : ∀ {b : Addr} {o : Obj} {es : Array DictEntry} {ep : Nat}, s1.heap.get? b = some o → o.data = .dict es ep → ∀ u, H b ≠ some u := fun {b o es ep} e d u q => by
    have := en.just b u q
    subst this
    rw [ha] at e; cases e; cases d
  have ns1 : ∀ {b : Addr} {m : Str → Option Value}, s1.heap.Ns b m → (hidT s1.heap H).Ns b m := fun ⟨o, es, ep, e, d, r⟩ => ⟨o, es, ep, out e (dict e d), d, r⟩
  have kb : K.In (hidT s1.heap H) := fun b o e => out (kx b o e) fun u q => by
    have := en.just b u q
    subst this
    rw [en.nk u q] at e; cases e
  obtain ⟨ml, l1, l2⟩ := hlim
  have md : Mod K mg (hidT s1.heap H) := ⟨kb, ns1 hns, ⟨mb, ns1 hb, hbb⟩, ⟨ml, ns1 l1, l2⟩⟩
  have e0 : Env0 P w K mg (hidT s1.heap H) callerA [] s1 H := ⟨rfl, md, fun b o e => of_hidT e, Nat.le_of_eq (hidT_size _ _), trivial, fun b z => (nomatch (show b ∈ ([] : List Addr) from z)), en.ok, .of_eq hg⟩
  refine codeAny_mono ((F _ kb (ns1 hns)).go callerA [] s1 H ⟨[.ref a], []⟩ [.ref a] [.ref a] _ _ rfl hr e0 (bind s1 (.ref a)) (.cons rfl .nil) (hsp H en.only en.seq)) fun r s2 h => ?_
  match r, h with
  | .error e, h => exact False.elim h
  | .ok (.ret u), h =>
    obtain ⟨v, H2, os, bare, un, ok2, rel, q⟩ := h
    have q : v = .bl true := q
    subst q
    have rel : u = Value.bool true := rel
    subst rel
    refine ⟨rfl, OldK.of_keep fun b o e => ?_, os, bare⟩
    cases q : H b with
    | none => exact un.keep b o e q (fun z => (nomatch (show b ∈ ([] : List Addr) from z))) (fun z => (nomatch z))
    | some u =>
      rcases en.only b with z | ⟨o1, xs, z⟩
      · rw [z] at q; cases q
      · have h1 := (en.ok b _ z).1
        have h2 := (ok2 b _ (un.frzs b o1 _ z)).1
        rw [e] at h1; cases h1
        exact h2
end
theorem law_walk {l : PySem.W.OpenLaw} {n k : Nat} {q : Program} {loose : List Str} {XP : (Str → Option Value) → Heap → Prop} {YP : World → Heap → Prop} {d : DefRec} {K : Params → PySem.W.Frag} {sp : PySem.W.Frag → Sp} {x : Str}
    (hn : l.most = some n) (hn2 : n ≤ sizeLine) (hdf : d.params.defaults = []) (hr : Room k callerA) (hY : ∀ (w : World) (h : Heap), YP w h → (K w.params).In h)
    (F : ∀ (w : World) (mg : Str → Option Value) (fa : Addr) (h : Heap), (K w.params).In h → h.Ns mainGlobals mg → mg d.name = some (.ref fa) →
      ∃ fd : FuncData, (∀ (s : Shared) (u : Value), BindsTo s fd ⟨[u], []⟩ [(x, u)]) ∧ ∀ base : Heap, (K w.params).In base → base.Ns mainGlobals mg → FnG l.prog w (K w.params) mg base CX0 k fa fd [x] (sp (K w.params)))
    (hsp : ∀ (K : PySem.W.Frag) (H : Hp) (a : Addr) (ns : List Int), ns.length ≤ n → Only H → SqL K H a (ns.map V.int) → sp K [.ref a] H (fun v _ => v = .bl true) fun _ _ _ => False) :
    PySem.W.WalkO q loose XP YP l.row.toRowW d [] (fun f vs => PySem.call f vs) := by
  refine Att.attach_call hn hdf fun w s0 s1 mg mb fa o pm cd doc a vs ns G Y ho hd hcd hmg hobj hints hlen hg => ?_
  have kx := hY w _ Y
  obtain ⟨fd, hb, hF⟩ := F w mg fa _ kx G.T.g hmg
  exact law_end kx G.T.g G.T.b G.T.builtins G.T.nolimit hg hobj hints (Nat.le_trans hlen hn2) hr hF hb fun H hO hS => hsp _ H a ns hlen hO hS
end Lay

set_option Elab.async false
set_option linter.all false
set_option maxRecDepth 100000
/-! Lay4: what a def promises on data; its call; statements. -/
namespace Lay
open PySem PySem.Spec PyProof.Rows L2
open Lay.Enc (enc)

/-! ### promises -/
def RetR (K : PySem.W.Frag) (own : Bool) (F I' H' : Hp) (v : V) (r : PyData) : Prop :=
  match own with
  | false => Dq I' v r
  | true => ∃ p xs ds, v = .ref p ∧ r = .list ds ∧ I' p = none ∧ F p = none ∧ H' p = some (.lst xs) ∧ DqAll I' xs ds
/-- called with data ds where g ds r: it gives r, all that stood is kept -/
def spD (K : PySem.W.Frag) (own : Bool) (g : List PyData → PyData → Prop) : Sp := fun vs H Q _ =>
  ∃ ds r I, g ds r ∧ Same I H ∧ DqAll I vs ds ∧ ∀ v H' I', Same H H' → Grow H I I' → Same I' H' → RetR K own H I' H' v r → Q v H'
section
variable {X : Cx} {G : List Sl} {α β γ : Type} [Enc α] [Enc β] [Enc γ]
theorem ad_nil : AD X G [] (some []) := fun ds h => by
  cases h
  exact pa_nil.imp fun σ H Q ⟨F, I, ps, R, q⟩ => q _ _ _ Grow.refl R .nil
theorem ad_cons {e : Expr} {es : List Expr} {o : Option α} {ods : Option (List PyData)} (h : ED X G e o) (hr : AD X G es ods) (hs : starEach (e :: es) X.env = (false, eval e X.env) :: starEach es X.env := by rfl) :
    AD X G (e :: es) (lift2 (fun x ds => enc x :: ds) o ods) := fun ds hd => by
  obtain ⟨x, ds', h1, h2, h3⟩ := lift2_get hd
  subst h3
  exact (pa_cons (h x h1) (hr ds' h2) hs).imp fun σ H Q ⟨F, I, ps, R, q⟩ => ⟨F, I, ps, R, fun v H1 I1 g1 R1 d1 => ⟨F, I1, ps, R1, fun vs H2 I2 g2 R2 d2 => q _ _ _ (g1.trans g2) R2 (.cons (Dq_mono g2.same _ _ d1) d2)⟩⟩
/-- all items of one type -/
def AL (X : Cx) (G : List Sl) {α : Type} [Enc α] (es : List Expr) (o : Option (List α)) : Prop := ∀ l, o = some l → PA X es (tA X.K G (l.map enc))
theorem al_nil : AL X G [] (some ([] : List α)) := fun l h => by
  cases h
  exact pa_nil.imp fun σ H Q ⟨F, I, ps, R, q⟩ => q _ _ _ Grow.refl R .nil
theorem al_cons {e : Expr} {es : List Expr} {o : Option α} {ol : Option (List α)} (h : ED X G e o) (hr : AL X G es ol) (hs : starEach (e :: es) X.env = (false, eval e X.env) :: starEach es X.env := by rfl) :
    AL X G (e :: es) (lift2 List.cons o ol) := fun l hl => by
  obtain ⟨x, l', h1, h2, h3⟩ := lift2_get hl
  subst h3
  exact (pa_cons (h x h1) (hr l' h2) hs).imp fun σ H Q ⟨F, I, ps, R, q⟩ => ⟨F, I, ps, R, fun v H1 I1 g1 R1 d1 => ⟨F, I1, ps, R1, fun vs H2 I2 g2 R2 d2 => q _ _ _ (g1.trans g2) R2 (.cons (Dq_mono g2.same _ _ d1) d2)⟩⟩
theorem al_star {e : Expr} {p : Pos} {es : List Expr} {o ol : Option (List α)} (h : ED X G e o) (hr : AL X G es ol) (hs : starEach (.Starred e p :: es) X.env = (true, eval e X.env) :: starEach es X.env := by rfl) :
    AL X G (.Starred e p :: es) (lift2 (· ++ ·) o ol) := fun l hl => by
  obtain ⟨x, l', h1, h2, h3⟩ := lift2_get hl
  subst h3
  refine (StX.pa_star (h x h1) (hr l' h2) hs).imp fun σ H Q ⟨F, I, ps, R, q⟩ => ⟨F, I, ps, R, fun v H1 I1 g1 R1 d1 => ?_⟩
  cases d1 with
  | lst k1 k2 => exact ⟨_, _, rfl, .inr (.inl (rd_mono R1.si k1)), F, I1, ps, R1, fun vs H2 I2 g2 R2 d2 => q _ _ _ (g1.trans g2) R2 (by rw [List.map_append]; exact (DqAll_mono g2.same _ _ k2).app d2)⟩
theorem al_starT {e : Expr} {p : Pos} {es : List Expr} {o : Option (Tup α)} {ol : Option (List α)} (h : ED X G e o) (hr : AL X G es ol) (hs : starEach (.Starred e p :: es) X.env = (true, eval e X.env) :: starEach es X.env := by rfl) :
    AL X G (.Starred e p :: es) (lift2 (fun t l => t.l ++ l) o ol) := fun l hl => by
  obtain ⟨x, l', h1, h2, h3⟩ := lift2_get hl
  subst h3
  refine (StX.pa_star (h x h1) (hr l' h2) hs).imp fun σ H Q ⟨F, I, ps, R, q⟩ => ⟨F, I, ps, R, fun v H1 I1 g1 R1 d1 => ?_⟩
  cases d1 with
  | tup k1 k2 => exact ⟨_, _, rfl, .inl (.inl (rd_mono R1.si k1)), F, I1, ps, R1, fun vs H2 I2 g2 R2 d2 => q _ _ _ (g1.trans g2) R2 (by rw [List.map_append]; exact (DqAll_mono g2.same _ _ k2).app d2)⟩
/-- displays -/
def szG {α : Type} (l : List α) : Option (List α) := if l.length ≤ sizeLine then some l else none
theorem eo_list {es : List Expr} {pos : Pos} {ol : Option (List α)} (h : AL X G es ol) : EO X G (.List es pos) (ol.bind szG) := fun l hl => by
  obtain ⟨x, h1, h2⟩ := bind_get hl
  obtain ⟨hz, e⟩ := ite_get h2
  subst e
  exact (pe_lst (h x h1)).imp fun σ H Q ⟨F, I, ps, R, q⟩ => ⟨F, I, ps, R, fun vs H1 I1 g1 R1 d => ⟨by rw [d.len, List.length_map]; exact hz, fun p hp =>
    q p vs _ I1 g1 (R1.newOwn hp) (R1.si.free hp) (R1.sf.free hp) (fun i c => by obtain ⟨_, _, _, z⟩ := R1.own_at c; rw [hp] at z; cases z) upd_same d⟩⟩
theorem tup_of {es : List Expr} {k : Nat} {pos : Pos} {ds : List PyData} {r : PyData} (h : PA X es (tA X.K G ds)) (hz : ds.length ≤ sizeLine) (hr : r = .tuple ds) : PE X (.Tuple es k pos) (tD X.K G r) := by
  subst hr
  exact (pe_tup h).imp fun σ H Q ⟨F, I, ps, R, q⟩ => ⟨F, I, ps, R, fun vs H1 I1 g1 R1 d => ⟨by rw [d.len]; exact hz, fun p hp =>
    q (.ref p) _ _ (g1.trans (R1.grow_new hp)) (R1.new hp) (.tup (.inl upd_same) (DqAll_mono (R1.grow_new (o := .tup vs) hp).same _ _ d))⟩⟩
theorem ed_tup {es : List Expr} {k : Nat} {pos : Pos} {ol : Option (List α)} (h : AL X G es ol) : ED X G (.Tuple es k pos) (lift1 Tup.mk (ol.bind szG)) := fun t ht => by
  obtain ⟨x, h1, h2⟩ := lift1_get ht
  obtain ⟨y, h3, h4⟩ := bind_get h1
  obtain ⟨hz, e⟩ := ite_get h4
  subst e h2
  exact tup_of (h y h3) (by rw [List.length_map]; exact hz) rfl
theorem small_line {n : Nat} (h : n ≤ 8) : n ≤ sizeLine := Nat.le_trans h (by decide)
def lift3 {α β γ δ : Type} (f : α → β → γ → δ) (a : Option α) (b : Option β) (c : Option γ) : Option δ := a.bind fun x => b.bind fun y => c.bind fun z => some (f x y z)
def lift4 {α β γ δ ε : Type} (f : α → β → γ → δ → ε) (a : Option α) (b : Option β) (c : Option γ) (d : Option δ) : Option ε := a.bind fun x => b.bind fun y => c.bind fun z => d.bind fun w => some (f x y z w)
@[simp] theorem lift3_some {α β γ δ : Type} (f : α → β → γ → δ) (a : α) (b : β) (c : γ) : lift3 f (some a) (some b) (some c) = some (f a b c) := rfl
@[simp] theorem lift4_some {α β γ δ ε : Type} (f : α → β → γ → δ → ε) (a : α) (b : β) (c : γ) (d : δ) : lift4 f (some a) (some b) (some c) (some d) = some (f a b c d) := rfl
theorem ed_t2 {e1 e2 : Expr} {k : Nat} {pos : Pos} {oa : Option α} {ob : Option β} (ha : ED X G e1 oa) (hb : ED X G e2 ob) (s1 : starEach [e1, e2] X.env = (false, eval e1 X.env) :: starEach [e2] X.env := by rfl) (s2 : starEach [e2] X.env = [(false, eval e2 X.env)] := by rfl) :
    ED X G (.Tuple [e1, e2] k pos) (lift2 T2.mk oa ob) := fun t ht => by
  obtain ⟨x, y, h1, h2, h3⟩ := lift2_get ht
  subst h3
  exact tup_of (ad_cons ha (ad_cons hb ad_nil s2) s1 _ (by rw [h1, h2]; rfl)) (small_line (by show 2 ≤ 8; decide)) rfl
theorem ed_t3 {δ : Type} {e1 e2 e3 : Expr} {k : Nat} {pos : Pos} {oa : Option α} {ob : Option β} {oc : Option γ} (ha : ED X G e1 oa) (hb : ED X G e2 ob) (hc : ED X G e3 oc)
    (s1 : starEach [e1, e2, e3] X.env = (false, eval e1 X.env) :: starEach [e2, e3] X.env := by rfl) (s2 : starEach [e2, e3] X.env = (false, eval e2 X.env) :: starEach [e3] X.env := by rfl) (s3 : starEach [e3] X.env = [(false, eval e3 X.env)] := by rfl) :
    ED X G (.Tuple [e1, e2, e3] k pos) (lift3 T3.mk oa ob oc) := fun t ht => by
  obtain ⟨x, h1, ht⟩ := bind_get ht
  obtain ⟨y, h2, ht⟩ := bind_get ht
  obtain ⟨z, h3, ht⟩ := bind_get ht
  cases ht
  exact tup_of (ad_cons ha (ad_cons hb (ad_cons hc ad_nil s3) s2) s1 _ (by rw [h1, h2, h3]; rfl)) (small_line (by show 3 ≤ 8; decide)) rfl
theorem ed_t4 {δ : Type} [Enc δ] {e1 e2 e3 e4 : Expr} {k : Nat} {pos : Pos} {oa : Option α} {ob : Option β} {oc : Option γ} {od : Option δ} (ha : ED X G e1 oa) (hb : ED X G e2 ob) (hc : ED X G e3 oc) (hd : ED X G e4 od)
    (s1 : starEach [e1, e2, e3, e4] X.env = (false, eval e1 X.env) :: starEach [e2, e3, e4] X.env := by rfl) (s2 : starEach [e2, e3, e4] X.env = (false, eval e2 X.env) :: starEach [e3, e4] X.env := by rfl) (s3 : starEach [e3, e4] X.env = (false, eval e3 X.env) :: starEach [e4] X.env := by rfl) (s4 : starEach [e4] X.env = [(false, eval e4 X.env)] := by rfl) :
    ED X G (.Tuple [e1, e2, e3, e4] k pos) (lift4 T4.mk oa ob oc od) := fun t ht => by
  obtain ⟨x, h1, ht⟩ := bind_get ht
  obtain ⟨y, h2, ht⟩ := bind_get ht
  obtain ⟨z, h3, ht⟩ := bind_get ht
  obtain ⟨w, h4, ht⟩ := bind_get ht
  cases ht
  exact tup_of (ad_cons ha (ad_cons hb (ad_cons hc (ad_cons hd ad_nil s4) s3) s2) s1 _ (by rw [h1, h2, h3, h4]; rfl)) (small_line (by show 4 ≤ 8; decide)) rfl

/-! ### the call of a def -/
/-- behind a call: the state -/
theorem RS.called {K : PySem.W.Frag} {F H I H' I' : Hp} {σ : L2.St} {ps : Nat → Option Addr} (R : RS K F G σ H I ps) (s : Same H H') (g : Grow H I I') (si : Same I' H') : Grow F I I' ∧ RS K F G σ H' I' ps := by
  refine ⟨⟨g.same, fun a h => (g.out a h).imp_right R.sf.free⟩, R.grow s si g.same fun i a ha => ?_⟩
  obtain ⟨n, _, xs, q⟩ := R.own_at ha
  cases z : I' a with
  | none => rfl
  | some o =>
    rcases g.out a (by rw [z]; simp) with h | h
    · exact absurd n h
    · rw [q] at h; cases h
section
variable {N : List Str} {sc : Scope} {fs : Option Scope} {k j : Nat} {x : Str} {prm : List Str} {g : List PyData → PyData → Prop} {e : Expr} {es : List Expr} {p pos : Pos} {ods : Option (List PyData)}
theorem ed_call {o : Option α} (C : Ctx X N sc fs k) (c : Cal X.prog X.w X.K X.mg X.base CX0 j x prm (spD X.K false g)) (hj : j ≤ k) (hg : glbB sc x = true) (ha : AD X G (e :: es) ods) (ho : ∀ r, o = some r → ∃ ds, ods = some ds ∧ g ds (enc r))
    (he : starEach (e :: es) X.env = (false, eval e X.env) :: starEach es X.env := by rfl) (hp : (backTo pos (starEach es X.env)).any (·.1) = false := by rfl) : ED X G (.Call (.Name x p) (e :: es) [] pos) o := fun r hr => by
  obtain ⟨ds, h1, h2⟩ := ho r hr
  refine (pe_callG (c.up hj) C.gd C.rm C.s hg (pass0 (X := X)) (ha ds h1) he hp).imp fun σ H Q ⟨F, I, ps, R, q⟩ => ⟨F, I, ps, R, fun vs H1 I1 g1 R1 d => ⟨ds, _, I1, h2, R1.si, d, fun v H' I' s g' si rr => ?_⟩⟩
  obtain ⟨g2, R2⟩ := R1.called s g' si
  exact q v H' I' (g1.trans g2) R2 rr
theorem eo_call {o : Option (List α)} (C : Ctx X N sc fs k) (c : Cal X.prog X.w X.K X.mg X.base CX0 j x prm (spD X.K true g)) (hj : j ≤ k) (hg : glbB sc x = true) (ha : AD X G (e :: es) ods) (ho : ∀ r, o = some r → ∃ ds, ods = some ds ∧ g ds (enc r))
    (he : starEach (e :: es) X.env = (false, eval e X.env) :: starEach es X.env := by rfl) (hp : (backTo pos (starEach es X.env)).any (·.1) = false := by rfl) : EO X G (.Call (.Name x p) (e :: es) [] pos) o := fun r hr => by
  obtain ⟨ds, h1, h2⟩ := ho r hr
  refine (pe_callG (c.up hj) C.gd C.rm C.s hg (pass0 (X := X)) (ha ds h1) he hp).imp fun σ H Q ⟨F, I, ps, R, q⟩ => ⟨F, I, ps, R, fun vs H1 I1 g1 R1 d => ⟨ds, _, I1, h2, R1.si, d, fun v H' I' s g' si rr => ?_⟩⟩
  obtain ⟨g2, R2⟩ := R1.called s g' si
  obtain ⟨p, xs, ds', e1, e2, n1, n2, hH, dd⟩ := rr
  subst e1
  cases e2
  exact q p xs H' I' (g1.trans g2) R2 n1 (R1.sf.free n2) (fun i c => by obtain ⟨_, _, _, z⟩ := R1.own_at c; rw [n2] at z; cases z) hH dd
end
end
def g1 {α ρ : Type} [Enc α] [Enc ρ] (m : α → Option ρ) : List PyData → PyData → Prop := fun ds r => ∃ a x, ds = [enc a] ∧ m a = some x ∧ r = enc x
def g2 {α β ρ : Type} [Enc α] [Enc β] [Enc ρ] (m : α → β → Option ρ) : List PyData → PyData → Prop := fun ds r => ∃ a b x, ds = [enc a, enc b] ∧ m a b = some x ∧ r = enc x
def g3 {α β γ ρ : Type} [Enc α] [Enc β] [Enc γ] [Enc ρ] (m : α → β → γ → Option ρ) : List PyData → PyData → Prop := fun ds r => ∃ a b c x, ds = [enc a, enc b, enc c] ∧ m a b c = some x ∧ r = enc x
def g4 {α β γ δ ρ : Type} [Enc α] [Enc β] [Enc γ] [Enc δ] [Enc ρ] (m : α → β → γ → δ → Option ρ) : List PyData → PyData → Prop := fun ds r => ∃ a b c d x, ds = [enc a, enc b, enc c, enc d] ∧ m a b c d = some x ∧ r = enc x
def g5 {α β γ δ ε ρ : Type} [Enc α] [Enc β] [Enc γ] [Enc δ] [Enc ε] [Enc ρ] (m : α → β → γ → δ → ε → Option ρ) : List PyData → PyData → Prop := fun ds r => ∃ a b c d e x, ds = [enc a, enc b, enc c, enc d, enc e] ∧ m a b c d e = some x ∧ r = enc x
def app1 {α ρ : Type} (m : α → Option ρ) (a : Option α) : Option ρ := a.bind m
def app2 {α β ρ : Type} (m : α → β → Option ρ) (a : Option α) (b : Option β) : Option ρ := a.bind fun x => b.bind fun y => m x y
def app3 {α β γ ρ : Type} (m : α → β → γ → Option ρ) (a : Option α) (b : Option β) (c : Option γ) : Option ρ := a.bind fun x => b.bind fun y => c.bind fun z => m x y z
def app4 {α β γ δ ρ : Type} (m : α → β → γ → δ → Option ρ) (a : Option α) (b : Option β) (c : Option γ) (d : Option δ) : Option ρ := a.bind fun x => b.bind fun y => c.bind fun z => d.bind fun w => m x y z w
def app5 {α β γ δ ε ρ : Type} (m : α → β → γ → δ → ε → Option ρ) (a : Option α) (b : Option β) (c : Option γ) (d : Option δ) (e : Option ε) : Option ρ := a.bind fun x => b.bind fun y => c.bind fun z => d.bind fun w => e.bind fun v => m x y z w v
@[simp] theorem app1_some {α ρ : Type} (m : α → Option ρ) (a : α) : app1 m (some a) = m a := rfl
@[simp] theorem app2_some {α β ρ : Type} (m : α → β → Option ρ) (a : α) (b : β) : app2 m (some a) (some b) = m a b := rfl
@[simp] theorem app3_some {α β γ ρ : Type} (m : α → β → γ → Option ρ) (a : α) (b : β) (c : γ) : app3 m (some a) (some b) (some c) = m a b c := rfl
@[simp] theorem app4_some {α β γ δ ρ : Type} (m : α → β → γ → δ → Option ρ) (a : α) (b : β) (c : γ) (d : δ) : app4 m (some a) (some b) (some c) (some d) = m a b c d := rfl
@[simp] theorem app5_some {α β γ δ ε ρ : Type} (m : α → β → γ → δ → ε → Option ρ) (a : α) (b : β) (c : γ) (d : δ) (e : ε) : app5 m (some a) (some b) (some c) (some d) (some e) = m a b c d e := rfl
section
variable {α β γ δ ε ρ : Type} [Enc α] [Enc β] [Enc γ] [Enc δ] [Enc ε] [Enc ρ] {oa : Option α} {ob : Option β} {oc : Option γ} {od : Option δ} {oe : Option ε}
theorem go1 {m : α → Option ρ} (r : ρ) (h : app1 m oa = some r) : ∃ ds, lift2 (fun x ds => enc x :: ds) oa (some []) = some ds ∧ g1 m ds (enc r) := by
  obtain ⟨x, h1, h⟩ := bind_get h
  exact ⟨_, by rw [h1]; rfl, x, r, rfl, h, rfl⟩
theorem go2 {m : α → β → Option ρ} (r : ρ) (h : app2 m oa ob = some r) : ∃ ds, lift2 (fun x ds => enc x :: ds) oa (lift2 (fun x ds => enc x :: ds) ob (some [])) = some ds ∧ g2 m ds (enc r) := by
  obtain ⟨x, h1, h⟩ := bind_get h
  obtain ⟨y, h2, h⟩ := bind_get h
  exact ⟨_, by rw [h1, h2]; rfl, x, y, r, rfl, h, rfl⟩
theorem go3 {m : α → β → γ → Option ρ} (r : ρ) (h : app3 m oa ob oc = some r) : ∃ ds, lift2 (fun x ds => enc x :: ds) oa (lift2 (fun x ds => enc x :: ds) ob (lift2 (fun x ds => enc x :: ds) oc (some []))) = some ds ∧ g3 m ds (enc r) := by
  obtain ⟨x, h1, h⟩ := bind_get h
  obtain ⟨y, h2, h⟩ := bind_get h
  obtain ⟨z, h3, h⟩ := bind_get h
  exact ⟨_, by rw [h1, h2, h3]; rfl, x, y, z, r, rfl, h, rfl⟩
theorem go4 {m : α → β → γ → δ → Option ρ} (r : ρ) (h : app4 m oa ob oc od = some r) : ∃ ds, lift2 (fun x ds => enc x :: ds) oa (lift2 (fun x ds => enc x :: ds) ob (lift2 (fun x ds => enc x :: ds) oc (lift2 (fun x ds => enc x :: ds) od (some [])))) = some ds ∧ g4 m ds (enc r) := by
  obtain ⟨x, h1, h⟩ := bind_get h
  obtain ⟨y, h2, h⟩ := bind_get h
  obtain ⟨z, h3, h⟩ := bind_get h
  obtain ⟨w, h4, h⟩ := bind_get h
  exact ⟨_, by rw [h1, h2, h3, h4]; rfl, x, y, z, w, r, rfl, h, rfl⟩
theorem go5 {m : α → β → γ → δ → ε → Option ρ} (r : ρ) (h : app5 m oa ob oc od oe = some r) : ∃ ds, lift2 (fun x ds => enc x :: ds) oa (lift2 (fun x ds => enc x :: ds) ob (lift2 (fun x ds => enc x :: ds) oc (lift2 (fun x ds => enc x :: ds) od (lift2 (fun x ds => enc x :: ds) oe (some []))))) = some ds ∧ g5 m ds (enc r) := by
  obtain ⟨x, h1, h⟩ := bind_get h
  obtain ⟨y, h2, h⟩ := bind_get h
  obtain ⟨z, h3, h⟩ := bind_get h
  obtain ⟨w, h4, h⟩ := bind_get h
  obtain ⟨v, h5, h⟩ := bind_get h
  exact ⟨_, by rw [h1, h2, h3, h4, h5]; rfl, x, y, z, w, v, r, rfl, h, rfl⟩
end

/-! ### statements -/
inductive Out (S B R : Type) where
  | nx (s : S)
  | bk (b : B)
  | ct (b : B)
  | rt (r : R)
def tS {S B R : Type} [Enc R] (K : PySem.W.Frag) (G : List Sl) (P : S → List Sl) (PB : B → List Sl) (own : Bool) (o : Out S B R) : TS := fun D σ H =>
  ∃ F I ps, RS K F G σ H I ps ∧ match o with
    | .nx s => ∀ σ' H' I' ps', Grow F I I' → RS K F (P s) σ' H' I' ps' → D.nx σ' H'
    | .bk b => ∀ σ' H' I' ps', Grow F I I' → RS K F (PB b) σ' H' I' ps' → D.bk σ' H'
    | .ct b => ∀ σ' H' I' ps', Grow F I I' → RS K F (PB b) σ' H' I' ps' → D.ct σ' H'
    | .rt r => ∀ v H' I', Grow F I I' → Same F H' → Same I' H' → RetR K own F I' H' v (enc r) → D.rt v H'
/-- the block, from slots G, ends as o says (if o is some) -/
def SV {S B R : Type} [Enc R] (X : Cx) (G : List Sl) (st : List Stmt) (P : S → List Sl) (PB : B → List Sl) (own : Bool) (o : Option (Out S B R)) : Prop := ∀ x, o = some x → PSs X st (tS X.K G P PB own x)
theorem _root_.L2.PSs.imp {X : Cx} {st : List Stmt} {t t' : TS} (h : PSs X st t) (w : ∀ D σ H, t' D σ H → t D σ H) : PSs X st t' := ⟨fun pins s σ H D I q => h.run pins s σ H D I (w D σ H q)⟩
theorem _root_.L2.PS.imp {X : Cx} {st : Stmt} {t t' : TS} (h : PS X st t) (w : ∀ D σ H, t' D σ H → t D σ H) : PS X st t' := ⟨fun pins s σ H D I q => h.run pins s σ H D I (w D σ H q)⟩

/-- slots forgotten, own lists made persistent -/
def WkR (G G' : List Sl) : Prop := ∀ (K : PySem.W.Frag) (F : Hp) (σ : L2.St) (H I : Hp) (ps : Nat → Option Addr), RS K F G σ H I ps → ∃ I' ps', Grow F I I' ∧ RS K F G' σ H I' ps'
inductive Wop where
  | un (i : Nat)
  | fz (i : Nat)
def frzS : Sl → Sl
  | .own ds => .dat (.list ds)
  | s => s
def wkA : List Wop → List Sl → List Sl
  | [], G => G
  | .un i :: r, G => wkA r (G.set i .un)
  | .fz i :: r, G => wkA r (G.set i (frzS (slAt G i)))
theorem wkR_refl {G : List Sl} : WkR G G := fun K F σ H I ps R => ⟨I, ps, Grow.refl, R⟩
theorem set_at {G : List Sl} {i : Nat} : G.set i (slAt G i) = G := by
  induction G generalizing i with
  | nil => rfl
  | cons s r ih => cases i with
    | zero => rfl
    | succ i => show s :: r.set i (slAt r i) = _; rw [ih]
theorem wkR_ops : ∀ (ops : List Wop) (G : List Sl), WkR G (wkA ops G)
  | [], _ => wkR_refl
  | .un i :: r, G => fun K F σ H I ps R => by
    have R1 := R.setUn (i := i) (v := (σ[i]?).getD none)
    have e : σ.set i ((σ[i]?).getD none) = σ := by
      by_cases h : i < σ.length
      · rw [List.getElem?_eq_getElem h]; simp
      · exact List.set_eq_of_length_le (by omega)
    rw [e] at R1
    exact wkR_ops r _ K F σ H I _ R1
  | .fz i :: r, G => fun K F σ H I ps R => by
    cases h : slAt G i with
    | own ds =>
      obtain ⟨I', g, R1⟩ := R.frz h
      obtain ⟨I2, ps2, g2, R2⟩ := wkR_ops r (G.set i (.dat (.list ds))) K F σ H I' _ R1
      refine ⟨I2, ps2, g.trans g2, ?_⟩
      show RS K F (wkA r (G.set i (frzS (slAt G i)))) σ H I2 ps2
      rw [h]; exact R2
    | un =>
      have e : G.set i (frzS (slAt G i)) = G := by rw [h]; show G.set i .un = G; rw [← h]; exact set_at
      show ∃ I' ps', Grow F I I' ∧ RS K F (wkA r (G.set i (frzS (slAt G i)))) σ H I' ps'
      rw [e]; exact wkR_ops r G K F σ H I ps R
    | rd d =>
      have e : G.set i (frzS (slAt G i)) = G := by rw [h]; show G.set i (.rd d) = G; rw [← h]; exact set_at
      show ∃ I' ps', Grow F I I' ∧ RS K F (wkA r (G.set i (frzS (slAt G i)))) σ H I' ps'
      rw [e]; exact wkR_ops r G K F σ H I ps R
    | dat d =>
      have e : G.set i (frzS (slAt G i)) = G := by rw [h]; show G.set i (.dat d) = G; rw [← h]; exact set_at
      show ∃ I' ps', Grow F I I' ∧ RS K F (wkA r (G.set i (frzS (slAt G i)))) σ H I' ps'
      rw [e]; exact wkR_ops r G K F σ H I ps R
theorem wk_ops {G G' : List Sl} (ops : List Wop) (h : wkA ops G = G') : WkR G G' := h ▸ wkR_ops ops G

def bindOut {S S' B R : Type} (o : Option (Out S B R)) (k : S → Option (Out S' B R)) : Option (Out S' B R) := o.bind fun x => match x with
  | .nx s => k s
  | .bk b => some (.bk b)
  | .ct b => some (.ct b)
  | .rt r => some (.rt r)
@[simp] theorem bindOut_nx {S S' B R : Type} (s : S) (k : S → Option (Out S' B R)) : bindOut (some (.nx s)) k = k s := rfl
@[simp] theorem bindOut_rt {S S' B R : Type} (r : R) (k : S → Option (Out S' B R)) : bindOut (some (.rt r) : Option (Out S B R)) k = some (.rt r) := rfl
@[simp] theorem bindOut_bk {S S' B R : Type} (b : B) (k : S → Option (Out S' B R)) : bindOut (some (.bk b) : Option (Out S B R)) k = some (.bk b) := rfl
@[simp] theorem bindOut_ct {S S' B R : Type} (b : B) (k : S → Option (Out S' B R)) : bindOut (some (.ct b) : Option (Out S B R)) k = some (.ct b) := rfl
section
variable {X : Cx} {G G' : List Sl} {S S' B R : Type} [Enc R] {P : S → List Sl} {P' : S' → List Sl} {PB : B → List Sl} {own : Bool} {rest : List Stmt} {o : Option (Out S B R)}
theorem sv_wk (hw : WkR G G') (h : SV X G' rest P PB own o) : SV X G rest P PB own o := fun x hx => (h x hx).imp fun D σ H ⟨F, I, ps, R, q⟩ => by
  obtain ⟨I', ps', g, R'⟩ := hw _ _ _ _ _ _ R
  refine ⟨F, I', ps', R', ?_⟩
  cases x with
  | nx s => exact fun σ' H' I2 ps2 g2 R2 => q σ' H' I2 ps2 (g.trans g2) R2
  | bk s => exact fun σ' H' I2 ps2 g2 R2 => q σ' H' I2 ps2 (g.trans g2) R2
  | ct s => exact fun σ' H' I2 ps2 g2 R2 => q σ' H' I2 ps2 (g.trans g2) R2
  | rt r => exact fun v H' I2 g2 s1 s2 rr => q v H' I2 (g.trans g2) s1 s2 rr
theorem sv_none : SV X G rest P PB own (none : Option (Out S B R)) := fun x hx => by cases hx
theorem sv_nil {s : S} (hw : WkR G (P s)) : SV X G [] P PB own (some (.nx s) : Option (Out S B R)) := fun x hx => by
  cases hx
  refine pss_nil.imp fun D σ H ⟨F, I, ps, R, q⟩ => ?_
  obtain ⟨I', ps', g, R'⟩ := hw _ _ _ _ _ _ R
  exact q σ H I' ps' g R'
theorem sv_break {b : B} {pos : Pos} (hw : WkR G (PB b)) : SV X G (.Break pos :: rest) P PB own (some (.bk b) : Option (Out S B R)) := fun x hx => by
  cases hx
  refine (pss_cons ps_break pss_never).imp fun D σ H ⟨F, I, ps, R, q⟩ => ?_
  obtain ⟨I', ps', g, R'⟩ := hw _ _ _ _ _ _ R
  exact q σ H I' ps' g R'
theorem sv_continue {b : B} {pos : Pos} (hw : WkR G (PB b)) : SV X G (.Continue pos :: rest) P PB own (some (.ct b) : Option (Out S B R)) := fun x hx => by
  cases hx
  refine (pss_cons ps_continue pss_never).imp fun D σ H ⟨F, I, ps, R, q⟩ => ?_
  obtain ⟨I', ps', g, R'⟩ := hw _ _ _ _ _ _ R
  exact q σ H I' ps' g R'
theorem sv_pass {pos : Pos} (h : SV X G rest P PB own o) : SV X G (.Pass pos :: rest) P PB own o := fun x hx => (pss_cons ps_pass (h x hx)).imp fun D σ H t => t
/-- behind an expression: from the wish's point of view -/
theorem tS_after {K : PySem.W.Frag} {x : Out S B R} {D : Ends} {σ : L2.St} {F H I H1 I1 : Hp} {ps ps1 : Nat → Option Addr} {σ1 : L2.St} (g : Grow F I I1) (R1 : RS K F G' σ1 H1 I1 ps1)
    (q : match x with
      | .nx s => ∀ σ' H' I' ps', Grow F I I' → RS K F (P s) σ' H' I' ps' → D.nx σ' H'
      | .bk b => ∀ σ' H' I' ps', Grow F I I' → RS K F (PB b) σ' H' I' ps' → D.bk σ' H'
      | .ct b => ∀ σ' H' I' ps', Grow F I I' → RS K F (PB b) σ' H' I' ps' → D.ct σ' H'
      | .rt r => ∀ v H' I', Grow F I I' → Same F H' → Same I' H' → RetR K own F I' H' v (enc r) → D.rt v H') : tS K G' P PB own x D σ1 H1 := by
  refine ⟨F, I1, ps1, R1, ?_⟩
  cases x with
  | nx s => exact fun σ' H' I2 ps2 g2 R2 => q σ' H' I2 ps2 (g.trans g2) R2
  | bk s => exact fun σ' H' I2 ps2 g2 R2 => q σ' H' I2 ps2 (g.trans g2) R2
  | ct s => exact fun σ' H' I2 ps2 g2 R2 => q σ' H' I2 ps2 (g.trans g2) R2
  | rt r => exact fun v H' I2 g2 s1 s2 rr => q v H' I2 (g.trans g2) s1 s2 rr
variable {N : List Str} {sc : Scope} {fs : Option Scope} {k i : Nat} {x : Str} {α β : Type} [Enc α] [Enc β] {e : Expr} {pos p : Pos}
theorem locB_ok (C : Ctx X N sc fs k) (h : locB N sc fs i x = true) : X.N.Nodup ∧ X.N[i]? = some x ∧ L2.Loc X.env.scope x ∧ (X.fn x = true ∨ X.env.scope.names.lookup x = some .local) := by
  unfold locB at h
  simp only [Bool.and_eq_true, decide_eq_true_eq] at h
  obtain ⟨h1, h2⟩ := h
  rw [C.n, C.s, C.fn]
  refine ⟨C.nd, h1, ?_, ?_⟩
  · unfold L2.Loc; split at h2 <;> simp_all
  · split at h2 <;> simp_all
/-- name = data -/
theorem sv_set {oe : Option α} {kk : α → Option (Out S B R)} (C : Ctx X N sc fs k) (hl : locB N sc fs i x = true) (he : ED X G e oe) (hk : ∀ v, SV X (G.set i (.dat (enc v))) rest P PB own (kk v))
    (hs : swapsWith e (some (.Name x p)) pos.line X.env = pure false := by rfl) : SV X G (.Assign [.Name x p] e pos :: rest) P PB own (oe.bind kk) := fun y hy => by
  obtain ⟨v, h1, h2⟩ := bind_get hy
  obtain ⟨a1, a2, a3, a4⟩ := locB_ok C hl
  exact (pss_cons (ps_set a1 a2 a3 (he v h1) hs a4) (hk v y h2)).imp fun D σ H ⟨F, I, ps, Rr, q⟩ => ⟨F, I, ps, Rr, fun w H1 I1 g R1 d => tS_after (H := H) (ps := ps) (σ := σ) g (R1.setDat d) q⟩
/-- name = a new list, kept as the def's own -/
theorem sv_setO {oe : Option (List α)} {kk : List α → Option (Out S B R)} (C : Ctx X N sc fs k) (hl : locB N sc fs i x = true) (hi : i < G.length) (he : EO X G e oe) (hk : ∀ v : List α, SV X (G.set i (.own (v.map enc))) rest P PB own (kk v))
    (hs : swapsWith e (some (.Name x p)) pos.line X.env = pure false := by rfl) : SV X G (.Assign [.Name x p] e pos :: rest) P PB own (oe.bind kk) := fun y hy => by
  obtain ⟨v, h1, h2⟩ := bind_get hy
  obtain ⟨a1, a2, a3, a4⟩ := locB_ok C hl
  exact (pss_cons (ps_set a1 a2 a3 (he v h1) hs a4) (hk v y h2)).imp fun D σ H ⟨F, I, ps, Rr, q⟩ => ⟨F, I, ps, Rr, fun pa xs H1 I1 g R1 n1 n2 n3 hH d => tS_after (H := H) (ps := ps) (σ := σ) g (R1.setOwn hi n1 n2 n3 hH d) q⟩
/-- return -/
theorem sv_ret {oe : Option R} (he : ED X G e oe) : SV X G (.Return (some e) pos :: rest) P PB false (oe.bind fun r => some (.rt r)) := fun y hy => by
  obtain ⟨v, h1, h2⟩ := bind_get hy
  cases h2
  exact (pss_cons (ps_ret (he v h1)) pss_never).imp fun D σ H ⟨F, I, ps, Rr, q⟩ => ⟨F, I, ps, Rr, fun w H1 I1 g R1 d => q w H1 I1 g R1.sf R1.si d⟩
theorem sv_retO {oe : Option (List α)} {P : S → List Sl} {PB : B → List Sl} (he : EO X G e oe) : SV X G (.Return (some e) pos :: rest) P PB true (oe.bind fun r => some (.rt r)) := fun y hy => by
  obtain ⟨v, h1, h2⟩ := bind_get hy
  cases h2
  exact (pss_cons (ps_ret (he v h1)) pss_never).imp fun D σ H ⟨F, I, ps, Rr, q⟩ => ⟨F, I, ps, Rr, fun pa xs H1 I1 g R1 n1 n2 n3 hH d => q (.ref pa) H1 I1 g R1.sf R1.si ⟨pa, xs, _, rfl, rfl, n1, n2, hH, d⟩⟩
/-- an own list is returned -/
theorem sv_retOwn {l : List α} {P : S → List Sl} {PB : B → List Sl} (C : Ctx X N sc fs k) (hv : visB N sc i x = true) (hs : slAt G i = .own (l.map enc)) : SV X G (.Return (some (.Name x p)) pos :: rest) P PB true (some (.rt l)) := fun y hy => by
  cases hy
  unfold visB at hv
  simp only [Bool.and_eq_true, decide_eq_true_eq, Bool.not_eq_true'] at hv
  obtain ⟨⟨⟨h1, h2⟩, h3⟩, h4⟩ := hv
  have hvis : Vis X.env.scope x := by
    rw [C.s]; unfold Vis
    split at h2 <;> simp_all
  refine (pss_cons (ps_ret (pe_var (by rw [C.n]; exact h1) hvis h3 h4)) pss_never).imp fun D σ H ⟨F, I, ps, Rr, q⟩ => ?_
  have hi : i < G.length := by
    by_cases c : i < G.length
    · exact c
    · rw [slAt_out (by omega)] at hs; cases hs
  obtain ⟨w, k1, k2⟩ := Rr.sl i hi
  rw [hs] at k2
  obtain ⟨a, xs, e1, e2, n, hH, d⟩ := k2
  subst e2
  exact ⟨_, k1, q _ H I Grow.refl Rr.sf Rr.si ⟨a, xs, _, rfl, rfl, n, Rr.fo _ _ e1, hH, d⟩⟩
/-- if -/
theorem sv_if {c : Expr} {a b : List Stmt} {oc : Option Bool} {oa ob : Option (Out S' B R)} {kk : S' → Option (Out S B R)} (hc : EB X G c oc) (ha : SV X G a P' PB own oa) (hb : SV X G b P' PB own ob) (hk : ∀ s, SV X (P' s) rest P PB own (kk s)) :
    SV X G (.If c a b pos :: rest) P PB own (oc.bind fun t => bindOut (bif t then oa else ob) kk) := fun y hy => by
  obtain ⟨t, h1, h2⟩ := bind_get hy
  -- one branch runs, then the rest
  have key : ∀ {br : List Stmt} {ox : Option (Out S' B R)}, SV X G br P' PB own ox → bindOut ox kk = some y → ∃ tb u, PSs X br tb ∧ PSs X rest u ∧ ∀ (D : Ends) (σ : L2.St) (H : Hp), tS X.K G P PB own y D σ H → tb { D with nx := u D } σ H := by
    intro br ox hbr hox
    unfold bindOut at hox
    obtain ⟨z, hz, hox⟩ := bind_get hox
    cases z with
    | nx s =>
      refine ⟨_, _, hbr _ hz, hk s y hox, fun D σ H ⟨F, I, ps, Rr, q⟩ => ⟨F, I, ps, Rr, fun σ1 H1 I1 ps1 g R1 => tS_after (H := H) (ps := ps) (σ := σ) g R1 q⟩⟩
    | bk w => cases hox; exact ⟨_, _, hbr _ hz, pss_never, fun D σ H t => t⟩
    | ct w => cases hox; exact ⟨_, _, hbr _ hz, pss_never, fun D σ H t => t⟩
    | rt w => cases hox; exact ⟨_, _, hbr _ hz, pss_never, fun D σ H t => t⟩
  cases t with
  | true =>
    obtain ⟨tb, u, p1, p2, w⟩ := key ha h2
    refine (pss_cons (ps_if (hc _ h1) p1 pss_never) p2).imp fun D σ H ⟨F, I, ps, Rr, q⟩ => ⟨F, I, ps, Rr, fun H1 I1 g R1 => iteT ?_⟩
    exact w D σ H1 (tS_after (H := H) (ps := ps) (σ := σ) g R1 q)
  | false =>
    obtain ⟨tb, u, p1, p2, w⟩ := key hb h2
    refine (pss_cons (ps_if (hc _ h1) pss_never p1) p2).imp fun D σ H ⟨F, I, ps, Rr, q⟩ => ⟨F, I, ps, Rr, fun H1 I1 g R1 => iteF ?_⟩
    exact w D σ H1 (tS_after (H := H) (ps := ps) (σ := σ) g R1 q)
/-- an expression whose value is dropped -/
theorem sv_expr {oe : Option α} {kk : Option (Out S B R)} (he : ED X G e oe) (hk : SV X G rest P PB own kk) (hs : swapsWith e none pos.line X.env = pure false := by rfl) : SV X G (.Expr e pos :: rest) P PB own (oe.bind fun _ => kk) := fun y hy => by
  obtain ⟨v, h1, h2⟩ := bind_get hy
  exact (pss_cons (ps_expr (he v h1) hs) (hk y h2)).imp fun D σ H ⟨F, I, ps, Rr, q⟩ => ⟨F, I, ps, Rr, fun w H1 I1 g R1 d => tS_after (H := H) (ps := ps) (σ := σ) g R1 q⟩
end
end Lay

set_option Elab.async false
set_option linter.all false
set_option maxRecDepth 100000
/-! Lay5: targets, what is walked, loops, comprehensions. -/
namespace Lay
open PySem PySem.Spec PyProof.Rows L2
open Lay.Enc (enc)

/-! ### targets -/
/-- nothing is known of these places -/
def unAt (G : List Sl) (js : List Nat) : Bool := js.all fun j => match slAt G j with | .un => true | _ => false
theorem unAt_ps {K : PySem.W.Frag} {F H I : Hp} {G : List Sl} {σ : L2.St} {ps : Nat → Option Addr} (R : RS K F G σ H I ps) {js : List Nat} (h : unAt G js = true) : ∀ j ∈ js, ps j = none := fun j hj => by
  have h1 := List.all_eq_true.mp h j hj
  by_cases c : j < G.length
  · obtain ⟨v, _, q⟩ := R.sl j c
    cases e : slAt G j with
    | un => rw [e] at q; exact q
    | dat d => rw [e] at h1; cases h1
    | own ds => rw [e] at h1; cases h1
    | rd ds => rw [e] at h1; cases h1
  · exact R.out j (by omega)
/-- the store of data enc x by the target g: slots become f x G; it touches the places js alone, of which nothing was known -/
structure Tgt (K : PySem.W.Frag) (g : L2.TG) (js : List Nat) {α : Type} [Enc α] (f : α → List Sl → List Sl) : Prop where
  go : ∀ (x : α) (G : List Sl) (F : Hp) (σ : L2.St) (H I : Hp) (ps : Nat → Option Addr) (v : V) (Q : L2.St → Hp → Prop), RS K F G σ H I ps → (∀ j ∈ js, ps j = none) → Dq I v (enc x) →
    (∀ σ', RS K F (f x G) σ' H I ps → (∀ vs, (∀ j ∈ js, j ∈ vs) → wipe σ' vs = wipe σ vs) → (∀ i, i ∉ js → slAt (f x G) i = slAt G i) → Q σ' H) → g v σ H Q
def fName {α : Type} [Enc α] (i : Nat) : α → List Sl → List Sl := fun x G => G.set i (.dat (enc x))
def fT2 {α β : Type} (f : α → List Sl → List Sl) (g : β → List Sl → List Sl) : T2 α β → List Sl → List Sl := fun t G => g t.b (f t.a G)
def fT3 {α β γ : Type} (f : α → List Sl → List Sl) (g : β → List Sl → List Sl) (h : γ → List Sl → List Sl) : T3 α β γ → List Sl → List Sl := fun t G => h t.c (g t.b (f t.a G))
def fT4 {α β γ δ : Type} (f : α → List Sl → List Sl) (g : β → List Sl → List Sl) (h : γ → List Sl → List Sl) (l : δ → List Sl → List Sl) : T4 α β γ δ → List Sl → List Sl := fun t G => l t.d (h t.c (g t.b (f t.a G)))
theorem wipe_set {σ : L2.St} {w : Option V} : ∀ {vs : List Nat} {i : Nat}, i ∈ vs → wipe (σ.set i w) vs = wipe σ vs
  | [], i, h => by simp at h
  | v :: vs, i, h => by
    show (wipe (σ.set i w) vs).set v none = (wipe σ vs).set v none
    by_cases hm : i ∈ vs
    · rw [wipe_set hm]
    · have e : v = i := by
        rcases List.mem_cons.mp h with h | h
        · exact h.symm
        · exact absurd h hm
      subst e
      have : ∀ (us : List Nat), v ∉ us → wipe (σ.set v w) us = (wipe σ us).set v w := by
        intro us
        induction us with
        | nil => intro _; rfl
        | cons u us ih =>
          intro hu
          show (wipe (σ.set v w) us).set u none = ((wipe σ us).set u none).set v w
          rw [ih (fun z => hu (List.mem_cons_of_mem _ z)), List.set_comm _ _ (fun z : v = u => hu (by rw [z]; exact List.mem_cons_self))]
      rw [this vs hm, List.set_set]
theorem psDel_none {ps : Nat → Option Addr} {i : Nat} (h : ps i = none) : psDel ps i = ps := by
  funext j; unfold psDel; split
  · rename_i e; rw [e]; exact h.symm
  · rfl
theorem tgt_name {K : PySem.W.Frag} {α : Type} [Enc α] {i : Nat} : Tgt K (gName i) [i] (fName (α := α) i) := ⟨fun x G F σ H I ps v Q R hp d q => by
  have R1 := R.setDat (i := i) d
  rw [psDel_none (hp i (by simp))] at R1
  exact q _ R1 (fun vs hv => wipe_set (hv i (by simp))) fun j hj => slAt_set_ne (fun e => hj (by simp [e]))⟩
theorem tgt_t2 {K : PySem.W.Frag} {α β : Type} [Enc α] [Enc β] {ga gb : L2.TG} {ja jb : List Nat} {f : α → List Sl → List Sl} {g : β → List Sl → List Sl} (h1 : Tgt K ga ja f) (h2 : Tgt K gb jb g) :
    Tgt K (gTup K 2 (gCons ga (gCons gb gNil))) (ja ++ jb) (fT2 f g) := ⟨fun x G F σ H I ps v Q R hp d q => by
  cases d with
  | tup k1 k2 =>
    cases k2 with
    | cons d1 k2 => cases k2 with
      | cons d2 k2 =>
        cases k2
        exact ⟨_, _, rfl, (.inl (rd_mono R.si k1)), rfl, _, _, rfl, h1.go x.a G F σ H I ps _ _ R (fun j hj => hp j (by simp [hj])) d1 fun σ1 R1 w1 o1 => ⟨_, _, rfl, h2.go x.b _ F σ1 H I ps _ _ R1 (fun j hj => hp j (by simp [hj])) d2 fun σ2 R2 w2 o2 => ⟨rfl, q σ2 R2
          (fun vs hv => (w2 vs fun j hj => hv j (by simp [hj])).trans (w1 vs fun j hj => hv j (by simp [hj]))) fun i hi => (o2 i fun z => hi (by simp [z])).trans (o1 i fun z => hi (by simp [z]))⟩⟩⟩⟩
theorem tgt_t3 {K : PySem.W.Frag} {α β γ : Type} [Enc α] [Enc β] [Enc γ] {ga gb gc : L2.TG} {ja jb jc : List Nat} {f : α → List Sl → List Sl} {g : β → List Sl → List Sl} {h : γ → List Sl → List Sl} (h1 : Tgt K ga ja f) (h2 : Tgt K gb jb g) (h3 : Tgt K gc jc h) :
    Tgt K (gTup K 3 (gCons ga (gCons gb (gCons gc gNil)))) (ja ++ (jb ++ jc)) (fT3 f g h) := ⟨fun x G F σ H I ps v Q R hp d q => by
  cases d with
  | tup k1 k2 =>
    cases k2 with
    | cons d1 k2 => cases k2 with
      | cons d2 k2 => cases k2 with
        | cons d3 k2 =>
          cases k2
          exact ⟨_, _, rfl, (.inl (rd_mono R.si k1)), rfl, _, _, rfl, h1.go x.a G F σ H I ps _ _ R (fun j hj => hp j (by simp [hj])) d1 fun σ1 R1 w1 o1 => ⟨_, _, rfl, h2.go x.b _ F σ1 H I ps _ _ R1 (fun j hj => hp j (by simp [hj])) d2 fun σ2 R2 w2 o2 =>
            ⟨_, _, rfl, h3.go x.c _ F σ2 H I ps _ _ R2 (fun j hj => hp j (by simp [hj])) d3 fun σ3 R3 w3 o3 => ⟨rfl, q σ3 R3
            (fun vs hv => (w3 vs fun j hj => hv j (by simp [hj])).trans ((w2 vs fun j hj => hv j (by simp [hj])).trans (w1 vs fun j hj => hv j (by simp [hj]))))
            fun i hi => (o3 i fun z => hi (by simp [z])).trans ((o2 i fun z => hi (by simp [z])).trans (o1 i fun z => hi (by simp [z])))⟩⟩⟩⟩⟩
theorem tgt_t4 {K : PySem.W.Frag} {α β γ δ : Type} [Enc α] [Enc β] [Enc γ] [Enc δ] {ga gb gc gd : L2.TG} {ja jb jc jd : List Nat} {f : α → List Sl → List Sl} {g : β → List Sl → List Sl} {h : γ → List Sl → List Sl} {l : δ → List Sl → List Sl} (h1 : Tgt K ga ja f) (h2 : Tgt K gb jb g) (h3 : Tgt K gc jc h) (h4 : Tgt K gd jd l) :
    Tgt K (gTup K 4 (gCons ga (gCons gb (gCons gc (gCons gd gNil))))) (ja ++ (jb ++ (jc ++ jd))) (fT4 f g h l) := ⟨fun x G F σ H I ps v Q R hp d q => by
  cases d with
  | tup k1 k2 =>
    cases k2 with
    | cons d1 k2 => cases k2 with
      | cons d2 k2 => cases k2 with
        | cons d3 k2 => cases k2 with
          | cons d4 k2 =>
            cases k2
            exact ⟨_, _, rfl, (.inl (rd_mono R.si k1)), rfl, _, _, rfl, h1.go x.a G F σ H I ps _ _ R (fun j hj => hp j (by simp [hj])) d1 fun σ1 R1 w1 o1 => ⟨_, _, rfl, h2.go x.b _ F σ1 H I ps _ _ R1 (fun j hj => hp j (by simp [hj])) d2 fun σ2 R2 w2 o2 =>
              ⟨_, _, rfl, h3.go x.c _ F σ2 H I ps _ _ R2 (fun j hj => hp j (by simp [hj])) d3 fun σ3 R3 w3 o3 => ⟨_, _, rfl, h4.go x.d _ F σ3 H I ps _ _ R3 (fun j hj => hp j (by simp [hj])) d4 fun σ4 R4 w4 o4 => ⟨rfl, q σ4 R4
              (fun vs hv => (w4 vs fun j hj => hv j (by simp [hj])).trans ((w3 vs fun j hj => hv j (by simp [hj])).trans ((w2 vs fun j hj => hv j (by simp [hj])).trans (w1 vs fun j hj => hv j (by simp [hj])))))
              fun i hi => (o4 i fun z => hi (by simp [z])).trans ((o3 i fun z => hi (by simp [z])).trans ((o2 i fun z => hi (by simp [z])).trans (o1 i fun z => hi (by simp [z]))))⟩⟩⟩⟩⟩⟩
section
variable {X : Cx} {N : List Str} {sc : Scope} {fs : Option Scope} {k i : Nat} {x : Str} {pos : Pos}
theorem pgN (C : Ctx X N sc fs k) (h : locB N sc fs i x = true) : PG X (.Name x pos) (gName i) :=
  let ⟨a1, a2, a3, a4⟩ := locB_ok C h
  pg_name a1 a2 a3 a4
end

/-! ### what is walked -/
/-- the iterator J gives the data ds, one by one, while I stands -/
structure Wlk (K : PySem.W.Frag) (J : It) (I : Hp) (ds : List PyData) : Prop where
  go : ∀ (i : Nat) (d : PyData) (H : Hp), Same I H → ds[i]? = some d → J.go i H ∧ ∀ x H', J.yld i H x H' → (H' = H ∧ Dq I x d) ∨ ∃ T o, H T = none ∧ H' = upd H T o ∧ Dq (upd I T o) x d
  st : ∀ (H : Hp), Same I H → J.stop ds.length H
def tI (K : PySem.W.Frag) (G : List Sl) (ds : List PyData) (σ : L2.St) (H : Hp) (R : It → Hp → Prop) : Prop :=
  ∃ F I ps, RS K F G σ H I ps ∧ ∀ J H' I', Grow F I I' → RS K F G σ H' I' ps → Wlk K J I' ds → ds.length ≤ sizeLine → R J H'
def IT (X : Cx) (G : List Sl) (tg iter : Expr) {α : Type} [Enc α] (o : Option (List α)) : Prop := ∀ l, o = some l → PI X tg iter (tI X.K G (l.map enc))
theorem _root_.L2.PI.imp {X : Cx} {tg e : Expr} {t t' : TI} (h : PI X tg e t) (w : ∀ σ H R, t' σ H R → t σ H R) : PI X tg e t' := ⟨fun pins s σ H R I q => h.run pins s σ H R I (w σ H R q)⟩
/-- lists and tuples that stand are no longer than the line -/
def LenOk (K : PySem.W.Frag) (H : Hp) : Prop := ∀ a xs, (SqL K H a xs → xs.length ≤ sizeLine) ∧ (SqT K H a xs → xs.length ≤ sizeLine)
theorem lenOk {X : Cx} {pins : List (Addr × Obj)} {σ : L2.St} {H : Hp} {s : Shared} (I : Inv X pins σ H s) : LenOk X.K H := fun a xs => ⟨fun h => let ⟨_, _, _, z⟩ := I.list h; z, fun h => let ⟨_, _, _, z⟩ := I.tuple h; z⟩
theorem pi_len {X : Cx} {tg e : Expr} {t : TI} (h : PI X tg e t) (mono : ∀ σ H R R', (∀ J H, R J H → R' J H) → t σ H R → t σ H R') : PI X tg e (fun σ H R => t σ H fun J H' => LenOk X.K H' → R J H') := ⟨fun pins s σ H R I q =>
  thn (h.run pins s σ H _ I q) fun v s1 h1 => thn h1 fun itv s2 ⟨it, fp, tn, J, H', e, I2, T, st, f, r⟩ => ⟨it, fp, tn, J, H', e, I2, T, st, f, r (lenOk I2)⟩⟩
section
variable {X : Cx} {G : List Sl} {α β : Type} [Enc α] [Enc β] {tg e e2 : Expr}
theorem wlk_list {K : PySem.W.Frag} {I : Hp} {a : Addr} {xs : List V} {ds : List PyData} (h1 : Rd I a (.lst xs)) (h2 : DqAll I xs ds) (inj : ∀ H, Same I H → ∀ ys, SqL K H a ys → ys.length ≤ sizeLine → True) : Wlk K (Itl K a) I ds := by
  refine ⟨fun i d H s hd => ?_, fun H s => ⟨xs, (.inl (rd_mono s h1)), by rw [h2.len]; exact Nat.le_refl _⟩⟩
  obtain ⟨v, hv, dv⟩ := h2.at hd
  refine ⟨⟨xs, v, (.inl (rd_mono s h1)), hv⟩, fun x H' y => ?_⟩
  obtain ⟨e, y⟩ := y
  subst e
  have e2 := y xs (.inl (rd_mono s h1))
  rw [hv] at e2; cases e2
  exact .inl ⟨rfl, dv⟩
theorem it_list {o : Option (List α)} (h : ED X G e o) : IT X G tg e o := fun l hl =>
  (pi_len (pi_list (h l hl)) fun σ H R R' w ⟨F, I, ps, r, q⟩ => ⟨F, I, ps, r, fun v H' I' g r' d => by obtain ⟨a, e, z, q⟩ := q v H' I' g r' d; exact ⟨a, e, z, w _ _ q⟩⟩).imp
  fun σ H R ⟨F, I, ps, r, q⟩ => ⟨F, I, ps, r, fun v H' I' g r' d => by
    cases d with
    | lst h1 h2 =>
      exact ⟨_, rfl, ⟨_, (.inl (rd_mono r'.si h1))⟩, fun lo => q _ _ I' g r' (wlk_list h1 h2 fun _ _ _ _ _ => trivial) (by rw [← h2.len]; exact (lo _ _).1 (.inl (rd_mono r'.si h1)))⟩⟩
theorem it_tup {o : Option (Tup α)} (h : ED X G e o) : IT X G tg e (lift1 Tup.l o) := fun l hl => by
  obtain ⟨t, h1, h2⟩ := lift1_get hl
  subst h2
  refine (pi_len (pi_tup (h t h1)) fun σ H R R' w ⟨F, I, ps, r, q⟩ => ⟨F, I, ps, r, fun v H' I' g r' d => by obtain ⟨a, e, z, q⟩ := q v H' I' g r' d; exact ⟨a, e, z, w _ _ q⟩⟩).imp
    fun σ H R ⟨F, I, ps, r, q⟩ => ⟨F, I, ps, r, fun v H' I' g r' d => ?_⟩
  cases d with
  | tup k1 k2 =>
    refine ⟨_, rfl, ⟨_, (.inl (rd_mono r'.si k1))⟩, fun lo => q _ _ I' g r' ⟨fun i d H s hd => ?_, fun H s => ⟨_, (.inl (rd_mono s k1)), by rw [k2.len]; exact Nat.le_refl _⟩⟩ (by rw [← k2.len]; exact (lo _ _).2 (.inl (rd_mono r'.si k1)))⟩
    obtain ⟨v, hv, dv⟩ := k2.at hd
    refine ⟨⟨_, v, (.inl (rd_mono s k1)), hv⟩, fun x H' y => ?_⟩
    obtain ⟨e, y⟩ := y
    subst e
    have e2 := y _ (.inl (rd_mono s k1))
    rw [hv] at e2; cases e2
    exact .inl ⟨rfl, dv⟩
/-- lo, lo + 1, .. (n of them) -/
def rngL (lo : Int) (n : Nat) : List Int := (List.range n).map fun i => lo + (i : Nat)
def rng1 (j : Int) : Option (List Int) := if j ≤ (sizeLine : Int) ∧ -(sizeLine : Int) ≤ j then some (rngL 0 j.toNat) else none
def rng2 (i j : Int) : Option (List Int) := if (j ≤ (sizeLine : Int) ∧ -(sizeLine : Int) ≤ j) ∧ (i ≤ (sizeLine : Int) ∧ 0 ≤ i) then some (rngL i (j - i).toNat) else none
theorem rngL_length (lo : Int) (n : Nat) : (rngL lo n).length = n := by simp [rngL]
theorem wlk_rng {K : PySem.W.Frag} {I : Hp} {lo : Int} {n : Nat} : Wlk K (Itr lo n) I ((rngL lo n).map enc) := by
  refine ⟨fun i d H s hd => ?_, fun H s => by rw [List.length_map, rngL_length]; exact Nat.le_refl _⟩
  have hi : i < n := by
    have := (List.getElem?_eq_some_iff.mp hd).1
    rw [List.length_map, rngL_length] at this; exact this
  refine ⟨hi, fun x H' y => ?_⟩
  obtain ⟨e, y⟩ := y
  subst e y
  have : d = .int (lo + (i : Nat)) := by
    unfold rngL at hd
    rw [List.map_map, List.getElem?_map, List.getElem?_range hi] at hd
    exact (Option.some.inj hd).symm
  subst this
  exact .inl ⟨rfl, .int _⟩
theorem sline62 : (sizeLine : Int) < 2 ^ 62 := by rw [sizeLine_eq]; decide
theorem it_rng1 {N : List Str} {sc : Scope} {fs : Option Scope} {k : Nat} {p pos : Pos} {o : Option Int} (C : Ctx X N sc fs k) (hg : glbB sc "range" = true) (hm : X.mg "range" = none) (h : ED X G e o) (hs : starEach [e] X.env = [(false, eval e X.env)] := by rfl) :
    IT X G tg (.Call (.Name "range" p) [e] [] pos) (o.bind rng1) := fun l hl => by
  obtain ⟨j, h1, h2⟩ := bind_get hl
  obtain ⟨hc, h2⟩ := ite_get h2
  subst h2
  refine (pi_range1 (glbB_gl C.s hg).1 hm (ad_cons h ad_nil hs _ (by rw [h1]; rfl)) hs).imp fun σ H R ⟨F, I, ps, r, q⟩ => ⟨F, I, ps, r, fun vs H' I' g r' d => ?_⟩
  cases d with
  | cons d1 d2 =>
    cases d2; cases d1
    have := sline62
    refine ⟨j, rfl, by omega, by omega, q _ _ I' g r' wlk_rng (by rw [List.length_map, rngL_length]; omega)⟩
theorem it_rng2 {N : List Str} {sc : Scope} {fs : Option Scope} {k : Nat} {p pos : Pos} {o o2 : Option Int} (C : Ctx X N sc fs k) (hg : glbB sc "range" = true) (hm : X.mg "range" = none) (h : ED X G e o) (h' : ED X G e2 o2) (hs : starEach [e, e2] X.env = [(false, eval e X.env), (false, eval e2 X.env)] := by rfl) (hs2 : starEach [e2] X.env = [(false, eval e2 X.env)] := by rfl) :
    IT X G tg (.Call (.Name "range" p) [e, e2] [] pos) (bind2 rng2 o o2) := fun l hl => by
  obtain ⟨i, j, h1, h2, h3⟩ := bind2_get hl
  obtain ⟨hc, h3⟩ := ite_get h3
  subst h3
  refine (pi_range2 (glbB_gl C.s hg).1 hm (ad_cons h (ad_cons h' ad_nil hs2) (by rw [hs, hs2]) _ (by rw [h1, h2]; rfl)) hs hs2).imp fun σ H R ⟨F, I, ps, r, q⟩ => ⟨F, I, ps, r, fun vs H' I' g r' d => ?_⟩
  cases d with
  | cons d1 d2 =>
    cases d2 with
    | cons d2 d3 =>
      cases d3; cases d1; cases d2
      have := sline62
      refine ⟨i, j, rfl, ⟨by omega, by omega, by omega, by omega⟩, q _ _ I' g r' wlk_rng (by rw [List.length_map, rngL_length]; omega)⟩
def enumL {α : Type} (l : List α) : List (T2 Int α) := (List.range l.length).zipWith (fun (i : Nat) x => T2.mk (i : Int) x) l
theorem enumL_get {α : Type} {l : List α} {i : Nat} {x : α} (h : l[i]? = some x) : (enumL l)[i]? = some ⟨(i : Nat), x⟩ := by
  unfold enumL
  have hi := (List.getElem?_eq_some_iff.mp h).1
  rw [List.getElem?_zipWith, List.getElem?_range hi, h]
theorem enumL_length {α : Type} (l : List α) : (enumL l).length = l.length := by unfold enumL; rw [List.length_zipWith, List.length_range]; omega
theorem it_enum {N : List Str} {sc : Scope} {fs : Option Scope} {k : Nat} {p pos tpos : Pos} {elts : List Expr} {kk : Nat} {o : Option (List α)} (C : Ctx X N sc fs k) (hg : glbB sc "enumerate" = true) (hm : X.mg "enumerate" = none) (h : ED X G e o) (hs : starEach [e] X.env = [(false, eval e X.env)] := by rfl) :
    IT X G (.Tuple elts kk tpos) (.Call (.Name "enumerate" p) [e] [] pos) (lift1 enumL o) := fun l hl => by
  obtain ⟨t, h1, h2⟩ := lift1_get hl
  subst h2
  have pa : PA X [e] (tA X.K G [enc t]) := ad_cons h ad_nil hs _ (by rw [h1]; rfl)
  refine (pi_len (pi_enum (glbB_gl C.s hg).1 hm pa hs) fun σ H R R' w ⟨F, I, ps, r, q⟩ => ⟨F, I, ps, r, fun v H' I' g r' d => by obtain ⟨a, xs, e, z, q⟩ := q v H' I' g r' d; exact ⟨a, xs, e, z, w _ _ q⟩⟩).imp
    fun σ H R ⟨F, I, ps, r, q⟩ => ⟨F, I, ps, r, fun vs H' I' g r' d => ?_⟩
  cases d with
  | cons d1 d2 =>
    cases d2
    cases d1 with
    | lst k1 k2 =>
      refine ⟨_, _, rfl, (.inl (rd_mono r'.si k1)), fun lo => q _ _ I' g r' ⟨fun i d H s hd => ?_, fun H s => ⟨_, (.inl (rd_mono s k1)), ?_⟩⟩ ?_⟩
      · have hi : i < t.length := by
          have := (List.getElem?_eq_some_iff.mp hd).1
          rw [List.length_map, enumL_length] at this; exact this
        have hx := List.getElem?_eq_getElem hi
        rw [List.getElem?_map, enumL_get hx] at hd
        have hd := Option.some.inj hd
        subst hd
        obtain ⟨v, hv, dv⟩ := k2.at (show (t.map enc)[i]? = some (enc t[i]) by rw [List.getElem?_map, hx]; rfl)
        refine ⟨⟨_, v, (.inl (rd_mono s k1)), hv⟩, fun x H' y => ?_⟩
        obtain ⟨T, z, e1, e2, e3, e4⟩ := y
        have e5 := e4 _ (.inl (rd_mono s k1))
        rw [hv] at e5; cases e5
        subst e1
        refine .inr ⟨T, _, e2, e3, .tup (.inl upd_same) (.cons (.int _) (.cons (Dq_mono (same_upd (s.free e2)) _ _ dv) .nil))⟩
      · rw [k2.len, List.length_map, List.length_map, enumL_length]; exact Nat.le_refl _
      · rw [List.length_map, enumL_length]; have := (lo _ _).1 (.inl (rd_mono r'.si k1)); rw [k2.len, List.length_map] at this; exact this
def zipL {α β : Type} (l : List α) (m : List β) : List (T2 α β) := l.zipWith T2.mk m
theorem it_zip {N : List Str} {sc : Scope} {fs : Option Scope} {k : Nat} {p pos tpos : Pos} {elts : List Expr} {kk : Nat} {o : Option (List α)} {o2 : Option (List β)} (C : Ctx X N sc fs k) (hg : glbB sc "zip" = true) (hm : X.mg "zip" = none) (h : ED X G e o) (h' : ED X G e2 o2)
    (hs : starEach [e, e2] X.env = (false, eval e X.env) :: starEach [e2] X.env := by rfl) (hs2 : starEach [e2] X.env = [(false, eval e2 X.env)] := by rfl) (hpl : (backTo pos (starEach [e2] X.env)).any (·.1) = false := by rfl) :
    IT X G (.Tuple elts kk tpos) (.Call (.Name "zip" p) [e, e2] [] pos) (lift2 zipL o o2) := fun l hl => by
  obtain ⟨t, u, h1, h2, h3⟩ := lift2_get hl
  subst h3
  have pa : PA X [e, e2] (tA X.K G [enc t, enc u]) := ad_cons h (ad_cons h' ad_nil hs2) hs _ (by rw [h1, h2]; rfl)
  refine (pi_len (pi_zip (glbB_gl C.s hg).1 hm pa hs hpl) fun σ H R R' w ⟨F, I, ps, r, q⟩ => ⟨F, I, ps, r, fun v H' I' g r' d => by obtain ⟨a, b, xs, ys, e, z1, z2, q⟩ := q v H' I' g r' d; exact ⟨a, b, xs, ys, e, z1, z2, w _ _ q⟩⟩).imp
    fun σ H R ⟨F, I, ps, r, q⟩ => ⟨F, I, ps, r, fun vs H' I' g r' d => ?_⟩
  cases d with
  | cons d1 d2 =>
    cases d2 with
    | cons d2 d3 =>
      cases d3
      cases d1 with
      | lst k1 k2 =>
        cases d2 with
        | lst k3 k4 =>
          have ln : (zipL t u).length = min t.length u.length := by unfold zipL; rw [List.length_zipWith]
          refine ⟨_, _, _, _, rfl, (.inl (rd_mono r'.si k1)), (.inl (rd_mono r'.si k3)), fun lo => q _ _ I' g r' ⟨fun i d H s hd => ?_, fun H s => ⟨_, _, (.inl (rd_mono s k1)), (.inl (rd_mono s k3)), ?_⟩⟩ ?_⟩
          · have hi : i < min t.length u.length := by
              have := (List.getElem?_eq_some_iff.mp hd).1
              rw [List.length_map, ln] at this; exact this
            have hx : t[i]? = some t[i] := List.getElem?_eq_getElem (by omega)
            have hy : u[i]? = some u[i] := List.getElem?_eq_getElem (by omega)
            unfold zipL at hd
            rw [List.getElem?_map, List.getElem?_zipWith, hx, hy] at hd
            have hd := Option.some.inj hd
            subst hd
            obtain ⟨v, hv, dv⟩ := k2.at (show (t.map enc)[i]? = some (enc t[i]) by rw [List.getElem?_map, hx]; rfl)
            obtain ⟨w, hw, dw⟩ := k4.at (show (u.map enc)[i]? = some (enc u[i]) by rw [List.getElem?_map, hy]; rfl)
            refine ⟨⟨_, _, v, w, (.inl (rd_mono s k1)), (.inl (rd_mono s k3)), hv, hw⟩, fun x H' y => ?_⟩
            obtain ⟨T, z, z', e1, e2, e3, e4, e5⟩ := y
            have e4 := e4 _ (.inl (rd_mono s k1))
            have e5 := e5 _ (.inl (rd_mono s k3))
            rw [hv] at e4; cases e4
            rw [hw] at e5; cases e5
            subst e1
            have m := same_upd (o := HO.tup [v, w]) (s.free e2)
            refine .inr ⟨T, _, e2, e3, .tup (.inl upd_same) (.cons (Dq_mono m _ _ dv) (.cons (Dq_mono m _ _ dw) .nil))⟩
          · rw [k2.len, k4.len, List.length_map, List.length_map, List.length_map, ln]; omega
          · rw [List.length_map, ln]; have := (lo _ _).1 (.inl (rd_mono r'.si k1)); rw [k2.len, List.length_map] at this; omega
end

/-! ### for -/
def forL {S B R α : Type} (step : S → α → Option (Out S S R)) : S → List α → Option (Out S B R)
  | s, [] => some (.nx s)
  | s, x :: xs => (step s x).bind fun o => match o with
    | .nx s' => forL step s' xs
    | .ct s' => forL step s' xs
    | .bk s' => some (.nx s')
    | .rt r => some (.rt r)
theorem forL_at {S B R α : Type} {step : S → α → Option (Out S S R)} {s : S} {l : List α} {i : Nat} {x : α} {z : Out S B R} (h : l[i]? = some x) (e : forL step s (l.drop i) = some z) :
    ∃ o, step s x = some o ∧ (match o with
    | .nx s' => forL step s' (l.drop (i + 1)) = some z
    | .ct s' => forL step s' (l.drop (i + 1)) = some z
    | .bk s' => z = .nx s'
    | .rt r => z = .rt r) := by
  obtain ⟨hi, hx⟩ := List.getElem?_eq_some_iff.mp h
  rw [List.drop_eq_getElem_cons hi, hx] at e
  unfold forL at e
  obtain ⟨o, h1, h2⟩ := bind_get e
  refine ⟨o, h1, ?_⟩
  cases o with
  | nx s => exact h2
  | ct s => exact h2
  | bk s => exact (Option.some.inj h2).symm
  | rt r => exact (Option.some.inj h2).symm
theorem forL_end {S B R α : Type} {step : S → α → Option (Out S S R)} {s : S} {l : List α} {i : Nat} {z : Out S B R} (h : l.length ≤ i) (e : forL step s (l.drop i) = some z) : z = .nx s := by
  rw [List.drop_eq_nil_of_le h] at e
  exact (Option.some.inj e).symm
section
variable {X : Cx} {G : List Sl} {S S1 B R : Type} [Enc R] {P : S → List Sl} {P1 : S1 → List Sl} {PB : B → List Sl} {own : Bool} {rest body : List Stmt} {α : Type} [Enc α] {N : List Str} {sc : Scope} {fs : Option Scope} {k : Nat} {tg iter : Expr} {g : L2.TG} {js : List Nat} {f : α → List Sl → List Sl} {pos : Pos}
theorem sv_for {step : S1 → α → Option (Out S1 S1 R)} {s0 : S1} {ol : Option (List α)} {kk : S1 → Option (Out S B R)} (C : Ctx X N sc fs k) (hi : IT X G tg iter ol) (hg : PG X tg g) (ht : Tgt X.K g js f) (hu : ∀ s, unAt (P1 s) js = true) (hw : WkR G (P1 s0))
    (hb : ∀ s x, SV X (f x (P1 s)) body P1 P1 own (step s x)) (hk : ∀ s, SV X (P1 s) rest P PB own (kk s)) (hs : ∀ x, foldedSetIterable iter X.env x = pure x := by intro _; rfl) :
    SV X G (.For tg iter body [] pos :: rest) P PB own (ol.bind fun l => bindOut (forL step s0 l) kk) := fun y hy => by
  obtain ⟨l, h1, h2⟩ := bind_get hy
  unfold bindOut at h2
  obtain ⟨z, hz, h2⟩ := bind_get h2
  have pb : PSs X body (fun D σ H => ∃ s x o, step s x = some o ∧ tS X.K (f x (P1 s)) P1 P1 own o D σ H) := ⟨fun pins st σ H D I ⟨s, x, o, e, t⟩ => (hb s x o e).run pins st σ H D I t⟩
  have pf := ps_for (pos := pos) C.px C.calm (hi l h1) hg pb hs
  -- the loop, for any end wished
  have key : ∀ (D : Ends) (σ : L2.St) (H F I : Hp) (ps : Nat → Option Addr), RS X.K F G σ H I ps →
      (match z with
        | .nx s => ∀ σ' H' I' ps', Grow F I I' → RS X.K F (P1 s) σ' H' I' ps' → D.nx σ' H'
        | .rt r => ∀ v H' I', Grow F I I' → Same F H' → Same I' H' → RetR X.K own F I' H' v (enc r) → D.rt v H'
        | _ => True) → tFor (tI X.K G (l.map enc)) g (fun D σ H => ∃ s x o, step s x = some o ∧ tS X.K (f x (P1 s)) P1 P1 own o D σ H) D σ H := by
    intro D σ H F I ps r q
    refine ⟨F, I, ps, r, fun J H1 I1 g1 r1 wl lenl => ?_⟩
    obtain ⟨I2, ps2, g2, r2⟩ := hw _ _ _ _ _ _ r1
    have gI : Grow F I I2 := g1.trans g2
    refine ⟨fun i m σ H => m = l.length - i ∧ i ≤ l.length ∧ ∃ s I' ps', forL step s (l.drop i) = some z ∧ Grow F I2 I' ∧ RS X.K F (P1 s) σ H I' ps', ⟨_, rfl, Nat.zero_le _, s0, I2, ps2, hz, Grow.refl, r2⟩, ?_⟩
    rintro i m σ3 H3 ⟨rfl, hi, s, I3, ps3, ez, g3, r3⟩
    have sI : Same I1 H3 := (g2.same.trans g3.same).trans r3.si
    by_cases hlt : i < l.length
    · have hx : l[i]? = some l[i] := List.getElem?_eq_getElem hlt
      obtain ⟨o, ho, hm⟩ := forL_at hx ez
      obtain ⟨go, yl⟩ := wl.go i (enc l[i]) H3 sI (by rw [List.getElem?_map, hx]; rfl)
      refine .inr ⟨go, fun σ' H' => ∃ s I' ps', forL step s (l.drop (i + 1)) = some z ∧ Grow F I2 I' ∧ RS X.K F (P1 s) σ' H' I' ps', fun σ' H' hN => ⟨l.length - (i + 1), by omega, rfl, hlt, hN⟩, fun x H4 y4 => ?_⟩
      -- the item's data in a persistent part
      have item : ∃ I4, Grow F I3 I4 ∧ RS X.K F (P1 s) σ3 H4 I4 ps3 ∧ Dq I4 x (enc l[i]) := by
        rcases yl x H4 y4 with ⟨e, d⟩ | ⟨T, o, n, e, d⟩
        · subst e; exact ⟨I3, Grow.refl, r3, Dq_mono (g2.same.trans g3.same) _ _ d⟩
        · subst e
          refine ⟨upd I3 T o, r3.grow_new n, r3.new n, Dq_mono (fun b u q => ?_) _ _ d⟩
          by_cases c : b = T
          · subst c; rw [upd_same] at q ⊢; exact q
          · rw [upd_ne c] at q ⊢; exact (g2.same.trans g3.same) _ _ q
      obtain ⟨I4, g4, r4, d4⟩ := item
      refine ht.go l[i] (P1 s) F σ3 H4 I4 ps3 x _ r4 (unAt_ps r4 (hu s)) d4 fun σ5 r5 _ _ => ?_
      refine ⟨s, l[i], o, ho, F, I4, ps3, r5, ?_⟩
      cases o with
      | nx s' => exact fun σ' H' I' ps' g' r' => ⟨s', I', ps', hm, g3.trans (g4.trans g'), r'⟩
      | ct s' => exact fun σ' H' I' ps' g' r' => ⟨s', I', ps', hm, g3.trans (g4.trans g'), r'⟩
      | bk s' =>
        have hm : z = .nx s' := hm
        subst hm
        exact fun σ' H' I' ps' g' r' => q σ' H' I' ps' (gI.trans (g3.trans (g4.trans g'))) r'
      | rt w =>
        have hm : z = .rt w := hm
        subst hm
        exact fun v H' I' g' s1 s2 rr => q v H' I' (gI.trans (g3.trans (g4.trans g'))) s1 s2 rr
    · have e := forL_end (by omega) ez
      subst e
      have wst := wl.st H3 sI
      rw [List.length_map, show l.length = i by omega] at wst
      exact .inl ⟨wst, q σ3 H3 I3 ps3 (gI.trans g3) r3⟩
  cases z with
  | nx s => exact (pss_cons pf (hk s y h2)).imp fun D σ H ⟨F, I, ps, r, q⟩ => key _ σ H F I ps r fun σ1 H1 I1 ps1 g1 r1 => tS_after (H := H) (ps := ps) (σ := σ) g1 r1 q
  | rt w => cases h2; exact (pss_cons pf pss_never).imp fun D σ H ⟨F, I, ps, r, q⟩ => key _ σ H F I ps r q
  | bk b => cases h2; exact (pss_cons pf pss_never).imp fun D σ H ⟨F, I, ps, r, q⟩ => False.elim (by
      have : ∀ (s : S1) (l : List α) (b : B), forL step s l ≠ some (Out.bk b) := by
        intro s l b
        induction l generalizing s with
        | nil => intro h; cases h
        | cons x xs ih =>
          intro h
          unfold forL at h
          obtain ⟨o, _, h⟩ := bind_get h
          cases o with
          | nx s => exact ih s h
          | ct s => exact ih s h
          | bk s => cases h
          | rt r => cases h
      exact this s0 l b hz)
  | ct b => cases h2; exact (pss_cons pf pss_never).imp fun D σ H ⟨F, I, ps, r, q⟩ => False.elim (by
      have : ∀ (s : S1) (l : List α) (b : B), forL step s l ≠ some (Out.ct b) := by
        intro s l b
        induction l generalizing s with
        | nil => intro h; cases h
        | cons x xs ih =>
          intro h
          unfold forL at h
          obtain ⟨o, _, h⟩ := bind_get h
          cases o with
          | nx s => exact ih s h
          | ct s => exact ih s h
          | bk s => cases h
          | rt r => cases h
      exact this s0 l b hz)

/-! ### while -/
def whileF {S B R : Type} (c : S → Option Bool) (b : S → Option (Out S S R)) : Nat → S → Option (Out S B R)
  | 0, _ => none
  | n + 1, s => (c s).bind fun t => bif t then (b s).bind (fun o => match o with
      | .nx s' => whileF c b n s'
      | .ct s' => whileF c b n s'
      | .bk s' => some (.nx s')
      | .rt r => some (.rt r)) else some (.nx s)
theorem sv_while {c : Expr} {oc : S1 → Option Bool} {ob : S1 → Option (Out S1 S1 R)} {n : Nat} {s0 : S1} {kk : S1 → Option (Out S B R)} (C : Ctx X N sc fs k) (hw : WkR G (P1 s0)) (hc : ∀ s, EB X (P1 s) c (oc s)) (hb : ∀ s, SV X (P1 s) body P1 P1 own (ob s)) (hk : ∀ s, SV X (P1 s) rest P PB own (kk s)) :
    SV X G (.While c body [] pos :: rest) P PB own (bindOut (whileF oc ob n s0) kk) := fun y hy => by
  unfold bindOut at hy
  obtain ⟨z, hz, h2⟩ := bind_get hy
  have pc : PT X c (fun σ H Q => ∃ s t, oc s = some t ∧ tB X.K (P1 s) t σ H Q) := ⟨fun pins st σ H Q I ⟨s, t, e, q⟩ => (hc s t e).run pins st σ H Q I q⟩
  have pb : PSs X body (fun D σ H => ∃ s o, ob s = some o ∧ tS X.K (P1 s) P1 P1 own o D σ H) := ⟨fun pins st σ H D I ⟨s, o, e, t⟩ => (hb s o e).run pins st σ H D I t⟩
  have pf := ps_while (pos := pos) C.px pc pb
  have key : ∀ (D : Ends) (σ : L2.St) (H F I : Hp) (ps : Nat → Option Addr), RS X.K F G σ H I ps →
      (match z with
        | .nx s => ∀ σ' H' I' ps', Grow F I I' → RS X.K F (P1 s) σ' H' I' ps' → D.nx σ' H'
        | .rt r => ∀ v H' I', Grow F I I' → Same F H' → Same I' H' → RetR X.K own F I' H' v (enc r) → D.rt v H'
        | _ => True) → tWhile (fun σ H Q => ∃ s t, oc s = some t ∧ tB X.K (P1 s) t σ H Q) (fun D σ H => ∃ s o, ob s = some o ∧ tS X.K (P1 s) P1 P1 own o D σ H) D σ H := by
    intro D σ H F I ps r q
    obtain ⟨I2, ps2, g2, r2⟩ := hw _ _ _ _ _ _ r
    refine ⟨fun m σ H => ∃ s I' ps', whileF oc ob m s = some z ∧ Grow F I I' ∧ RS X.K F (P1 s) σ H I' ps', ⟨n, s0, I2, ps2, hz, g2, r2⟩, ?_⟩
    rintro m σ3 H3 ⟨s, I3, ps3, ez, g3, r3⟩
    cases m with
    | zero => cases ez
    | succ m =>
      unfold whileF at ez
      obtain ⟨t, ht, ez⟩ := bind_get ez
      refine ⟨s, t, ht, F, I3, ps3, r3, fun H4 I4 g4 r4 => ?_⟩
      cases t with
      | false =>
        rw [cond_false] at ez
        have ez := Option.some.inj ez
        subst ez
        exact iteF (q σ3 H4 I4 ps3 (g3.trans g4) r4)
      | true =>
        rw [cond_true] at ez
        obtain ⟨o, ho, ez⟩ := bind_get ez
        refine iteT ⟨fun σ' H' => ∃ s I' ps', whileF oc ob m s = some z ∧ Grow F I I' ∧ RS X.K F (P1 s) σ' H' I' ps', fun σ' H' hN => ⟨m, Nat.lt_succ_self _, hN⟩, s, o, ho, F, I4, ps3, r4, ?_⟩
        cases o with
        | nx s' => exact fun σ' H' I' ps' g' r' => ⟨s', I', ps', ez, g3.trans (g4.trans g'), r'⟩
        | ct s' => exact fun σ' H' I' ps' g' r' => ⟨s', I', ps', ez, g3.trans (g4.trans g'), r'⟩
        | bk s' =>
          have ez := Option.some.inj ez
          subst ez
          exact fun σ' H' I' ps' g' r' => q σ' H' I' ps' (g3.trans (g4.trans g')) r'
        | rt w =>
          have ez := Option.some.inj ez
          subst ez
          exact fun v H' I' g' s1 s2 rr => q v H' I' (g3.trans (g4.trans g')) s1 s2 rr
  have no : ∀ (n : Nat) (s : S1) (b : B), whileF oc ob n s ≠ some (Out.bk b) ∧ whileF oc ob n s ≠ some (Out.ct b) := by
    intro n
    induction n with
    | zero => intro s b; exact ⟨(fun h => by cases h), (fun h => by cases h)⟩
    | succ n ih =>
      intro s b
      constructor <;> (
        intro h
        unfold whileF at h
        obtain ⟨t, _, h⟩ := bind_get h
        cases t with
        | false => cases h
        | true =>
          rw [cond_true] at h
          obtain ⟨o, _, h⟩ := bind_get h
          cases o with
          | nx s => first | exact (ih s b).1 h | exact (ih s b).2 h
          | ct s => first | exact (ih s b).1 h | exact (ih s b).2 h
          | bk s => cases h
          | rt r => cases h)
  cases z with
  | nx s => exact (pss_cons pf (hk s y h2)).imp fun D σ H ⟨F, I, ps, r, q⟩ => key _ σ H F I ps r fun σ1 H1 I1 ps1 g1 r1 => tS_after (H := H) (ps := ps) (σ := σ) g1 r1 q
  | rt w => cases h2; exact (pss_cons pf pss_never).imp fun D σ H ⟨F, I, ps, r, q⟩ => key _ σ H F I ps r q
  | bk b => exact absurd hz (no n s0 b).1
  | ct b => exact absurd hz (no n s0 b).2
end
end Lay

set_option Elab.async false
set_option linter.all false
set_option maxRecDepth 100000
/-! Lay6: list comprehensions, unpacking, stores to lists. -/
namespace Lay
open PySem PySem.Spec PyProof.Rows L2
open Lay.Enc (enc)

/-! ### comprehensions -/
def wipeG (G : List Sl) : List Nat → List Sl
  | [] => G
  | v :: vs => (wipeG G vs).set v .un
def ownFree (G : List Sl) (vs : List Nat) : Bool := vs.all fun j => match slAt G j with | .own _ => false | _ => true
theorem ownFree_ps {K : PySem.W.Frag} {F H I : Hp} {G : List Sl} {σ : L2.St} {ps : Nat → Option Addr} (R : RS K F G σ H I ps) {js : List Nat} (h : ownFree G js = true) : ∀ j ∈ js, ps j = none := fun j hj => by
  have h1 := List.all_eq_true.mp h j hj
  by_cases c : j < G.length
  · obtain ⟨v, _, q⟩ := R.sl j c
    cases e : slAt G j with
    | un => rw [e] at q; exact q
    | dat d => rw [e] at q; exact q.1
    | rd d => rw [e] at q; exact q.1
    | own ds => rw [e] at h1; cases h1
  · exact R.out j (by omega)
theorem RS.wiped {K : PySem.W.Frag} {F H I : Hp} {G : List Sl} {σ : L2.St} {ps : Nat → Option Addr} (R : RS K F G σ H I ps) : ∀ (vs : List Nat), (∀ j ∈ vs, ps j = none) → RS K F (wipeG G vs) (wipe σ vs) H I ps
  | [], _ => R
  | v :: vs, h => by
    have R' := (RS.wiped R vs fun j hj => h j (List.mem_cons_of_mem _ hj)).setUn (i := v) (v := none)
    rw [psDel_none (h v List.mem_cons_self)] at R'
    exact R'
theorem wipeG_out {G : List Sl} {i : Nat} : ∀ {vs : List Nat}, i ∉ vs → slAt (wipeG G vs) i = slAt G i
  | [], _ => rfl
  | v :: vs, h => by
    show slAt ((wipeG G vs).set v .un) i = _
    rw [slAt_set_ne (fun e => h (by simp [e])), wipeG_out (fun z => h (List.mem_cons_of_mem _ z))]
theorem wipe_none : ∀ {vs : List Nat} {σ : L2.St} {i : Nat}, i ∈ vs → i < σ.length → (wipe σ vs)[i]? = some none
  | [], _, _, h, _ => by simp at h
  | v :: vs, σ, i, h, hl => by
    show ((wipe σ vs).set v none)[i]? = _
    by_cases e : v = i
    · subst e; rw [List.getElem?_set_self (by rw [wipe_length]; exact hl)]
    · rw [List.getElem?_set_ne e]
      exact wipe_none ((List.mem_cons.mp h).resolve_left fun z => e z.symm) hl
theorem wipe_other : ∀ {vs : List Nat} {σ : L2.St} {i : Nat}, i ∉ vs → (wipe σ vs)[i]? = σ[i]?
  | [], _, _, _ => rfl
  | v :: vs, σ, i, h => by
    show ((wipe σ vs).set v none)[i]? = _
    rw [List.getElem?_set_ne (fun e => h (by simp [e]))]
    exact wipe_other fun z => h (List.mem_cons_of_mem _ z)
theorem wipe_wipe {σ : L2.St} {vs : List Nat} : wipe (wipe σ vs) vs = wipe σ vs := by
  refine List.ext_getElem? fun i => ?_
  by_cases h : i ∈ vs
  · by_cases hl : i < σ.length
    · rw [wipe_none h (by rw [wipe_length]; exact hl), wipe_none h hl]
    · rw [List.getElem?_eq_none (by rw [wipe_length, wipe_length]; omega), List.getElem?_eq_none (by rw [wipe_length]; omega)]
  · rw [wipe_other h]
/-- behind what ran in another frame's words -/
theorem RS.back {K : PySem.W.Frag} {F F' H H' I I' : Hp} {G G' : List Sl} {σ σ' : L2.St} {ps : Nat → Option Addr} (R : RS K F G σ H I ps) (R' : RS K F' G' σ' H' I' ps) (sF : Same F F') (g : Same I I') (hG : ∀ i ds, slAt G i = .own ds → slAt G' i = .own ds ∧ i < G'.length) : RS K F G σ H' I' ps where
  si := R'.si
  sf := sF.trans R'.sf
  fo := R.fo
  len := R.len
  sl := fun i hi => by
    obtain ⟨v, h1, h2⟩ := R.sl i hi
    refine ⟨v, h1, ?_⟩
    cases e : slAt G i with
    | un => rw [e] at h2; exact h2
    | dat d => rw [e] at h2; obtain ⟨e1, x, e2, d⟩ := h2; exact ⟨e1, x, e2, Dq_mono g _ _ d⟩
    | rd ds => rw [e] at h2; obtain ⟨e1, a, xs, e2, q, d⟩ := h2; exact ⟨e1, a, xs, e2, Same.seq g q, DqAll_mono g _ _ d⟩
    | own ds =>
      rw [e] at h2
      obtain ⟨a, xs, e1, e2, _⟩ := h2
      obtain ⟨e', hi'⟩ := hG i ds e
      obtain ⟨v', _, h3⟩ := R'.sl i hi'
      rw [e'] at h3
      obtain ⟨a', xs', e1', _, n', hH', d'⟩ := h3
      rw [e1] at e1'; cases e1'
      exact ⟨a, xs', e1, e2, n', hH', d'⟩
  out := R.out
  dis := R.dis
def lcL {α β : Type} (c : α → Option Bool) (e : α → Option β) : List α → Option (List β)
  | [] => some []
  | x :: xs => (c x).bind fun t => bif t then (e x).bind fun y => (lcL c e xs).bind fun r => some (y :: r) else lcL c e xs
theorem lcL_at {α β : Type} {c : α → Option Bool} {e : α → Option β} {l : List α} {i : Nat} {x : α} {r : List β} (h : l[i]? = some x) (h2 : lcL c e (l.drop i) = some r) :
    ∃ t, c x = some t ∧ ((t = true ∧ ∃ y r', e x = some y ∧ r = y :: r' ∧ lcL c e (l.drop (i + 1)) = some r') ∨ (t = false ∧ lcL c e (l.drop (i + 1)) = some r)) := by
  obtain ⟨hi, hx⟩ := List.getElem?_eq_some_iff.mp h
  rw [List.drop_eq_getElem_cons hi, hx] at h2
  unfold lcL at h2
  obtain ⟨t, h3, h4⟩ := bind_get h2
  refine ⟨t, h3, ?_⟩
  cases t with
  | true =>
    rw [cond_true] at h4
    obtain ⟨y, h5, h6⟩ := bind_get h4
    obtain ⟨r', h7, h8⟩ := bind_get h6
    exact .inl ⟨rfl, y, r', h5, (Option.some.inj h8).symm, h7⟩
  | false => exact .inr ⟨rfl, h4⟩
theorem lcL_len {α β : Type} {c : α → Option Bool} {e : α → Option β} : ∀ {l : List α} {r : List β}, lcL c e l = some r → r.length ≤ l.length
  | [], r, h => by cases h; simp
  | x :: xs, r, h => by
    unfold lcL at h
    obtain ⟨t, _, h⟩ := bind_get h
    cases t with
    | true =>
      rw [cond_true] at h
      obtain ⟨y, _, h⟩ := bind_get h
      obtain ⟨r', h1, h⟩ := bind_get h
      cases h
      have := lcL_len h1
      simpa using this
    | false => have := lcL_len (l := xs) h; simp; omega
/-- a block's tests -/
def ETs (X : Cx) (G : List Sl) (ifs : List Expr) (o : Option Bool) : Prop := ∀ b, o = some b → PTs X ifs (tB X.K G b)
theorem ets_nil {X : Cx} {G : List Sl} : ETs X G [] (some true) := fun b h => by
  cases h
  exact ⟨fun pins s σ H Q I ⟨F, I', ps, r, q⟩ => pts_nil.run pins s σ H Q I (q _ _ Grow.refl r)⟩
theorem ets_one {X : Cx} {G : List Sl} {c : Expr} {o : Option Bool} (h : EB X G c o) : ETs X G [c] o := fun b hb => pts_one (h b hb)
/-- a comprehension as a value, and as what is stored on its line -/
def LC (X : Cx) (G : List Sl) (e : Expr) {α : Type} [Enc α] (o : Option (List α)) : Prop := ∀ l, o = some l → ∃ t : TE, PE X e t ∧
  (∀ (i : Nat) (y : Str) (py sp : Pos), X.N[i]? = some y → X.env.scope.names.lookup y = some .local → swapsWith e (some (.Name y py)) sp.line X.env = pure true → PS X (.Assign [.Name y py] e sp) (tAsg t (gName i))) ∧
  ∀ σ H Q, tO X.K G (l.map enc) σ H Q → t σ H Q
section
variable {X : Cx} {G : List Sl} {N : List Str} {sc : Scope} {fs : Option Scope} {k : Nat} {α β : Type} [Enc α] [Enc β] {elt tg iter : Expr} {ifs : List Expr} {scope : Scope} {pos : Pos} {g : L2.TG} {js : List Nat} {f : α → List Sl → List Sl}
theorem lc_mk {own : List (Str × Nat)} {ol : Option (List α)} {oc : α → Option Bool} {oe : α → Option β} (C : Ctx X N sc fs k) (hi : IT X G tg iter ol) (ok : blkC N sc scope own = true)
    (hg : ∀ s H Ca cl fp, PG (X.blk s H scope (compEnvC scope cl Ca X.env) fp) tg g) (ht : Tgt X.K g js f) (hj : ∀ j ∈ js, j ∈ own.map (·.2)) (hf : ownFree G (own.map (·.2)) = true)
    (hc : ∀ s H Ca cl fp x, ETs (X.blk s H scope (compEnvC scope cl Ca X.env) fp) (f x (wipeG G (own.map (·.2)))) ifs (oc x))
    (he : ∀ s H Ca cl fp x, ED (X.blk s H scope (compEnvC scope cl Ca X.env) fp) (f x (wipeG G (own.map (·.2)))) elt (oe x)) (hs : ∀ x, foldedSetIterable iter X.env x = pure x := by intro _; rfl) :
    LC X G (.ListComp elt [⟨tg, iter, ifs, 0⟩] scope pos) (ol.bind (lcL oc oe)) := fun r hr => by
  obtain ⟨l, h1, h2⟩ := bind_get hr
  obtain ⟨vs, hvs⟩ : ∃ vs, own.map (·.2) = vs := ⟨_, rfl⟩
  rw [hvs] at hj hf
  simp only [hvs] at hc he
  let te : TE := fun σ H Q => ∃ x y, oe x = some y ∧ tD X.K (f x (wipeG G vs)) (enc y) σ H Q
  let tt : TT := fun σ H Q => ∃ x b, oc x = some b ∧ tB X.K (f x (wipeG G vs)) b σ H Q
  have pe : ∀ s H Ca cl fp, PE (X.blk s H scope (compEnvC scope cl Ca X.env) fp) elt te := fun s H Ca cl fp => ⟨fun pins st σ H' Q I ⟨x, y, e, q⟩ => (he s H Ca cl fp x y e).run pins st σ H' Q I q⟩
  have pt : ∀ s H Ca cl fp, PTs (X.blk s H scope (compEnvC scope cl Ca X.env) fp) ifs tt := fun s H Ca cl fp => ⟨fun pins st σ H' Q I ⟨x, b, e, q⟩ => (hc s H Ca cl fp x b e).run pins st σ H' Q I q⟩
  have nd : X.N.Nodup := by rw [C.n]; exact C.nd
  have bk : BlkOk X.N X.env.scope scope own := by rw [C.n, C.s]; exact blkOk_by ok
  refine ⟨_, pe_lc C.calm nd (hi l h1) bk hg pt pe hs, fun i y py sp a b c => ps_setLc C.calm nd a b c (hi l h1) bk hg pt pe hs, fun σ H Q ⟨F, I, ps, R, q⟩ => ?_⟩
  rw [hvs]
  refine ⟨F, I, ps, R, fun J H1 I1 gr1 R1 wl ll D hD => ?_⟩
  have ll : l.length ≤ sizeLine := by rw [List.length_map] at ll; exact ll
  have hD1 : I1 D = none := R1.si.free hD
  have hDF : F D = none := R1.sf.free hD
  have hDp : ∀ i, ps i ≠ some D := fun i c => by obtain ⟨_, _, xs, z⟩ := R1.own_at c; rw [hD] at z; cases z
  -- the state between turns: the list made so far at D, the rest to be made
  refine ⟨fun i m H => m = l.length - i ∧ i ≤ l.length ∧ ∃ I' xs done rst, Grow F I1 I' ∧ RS X.K F G σ H I' ps ∧ I' D = none ∧ H D = some (.lst xs) ∧ DqAll I' xs (done.map enc) ∧ done.length ≤ i ∧ lcL oc oe (l.drop i) = some rst ∧ r = done ++ rst,
    ⟨_, rfl, Nat.zero_le _, I1, [], [], r, Grow.refl, R1.newOwn hD, hD1, upd_same, .nil, Nat.le_refl _, h2, rfl⟩, ?_⟩
  rintro i m H3 ⟨rfl, hil, I3, xs, done, rst, gr3, R3, n3, hD3, d3, hlen, hr3, er⟩
  have sI : Same I1 H3 := gr3.same.trans R3.si
  by_cases hlt : i < l.length
  · have hx : l[i]? = some l[i] := List.getElem?_eq_getElem hlt
    obtain ⟨t, ht1, ht2⟩ := lcL_at hx hr3
    obtain ⟨go, yl⟩ := wl.go i (enc l[i]) H3 sI (by rw [List.getElem?_map, hx]; rfl)
    refine .inr ⟨go, fun H' => ∃ I' xs done rst, Grow F I1 I' ∧ RS X.K F G σ H' I' ps ∧ I' D = none ∧ H' D = some (.lst xs) ∧ DqAll I' xs (done.map enc) ∧ done.length ≤ i + 1 ∧ lcL oc oe (l.drop (i + 1)) = some rst ∧ r = done ++ rst,
      fun H' hN => ⟨l.length - (i + 1), by omega, rfl, hlt, hN⟩, fun x H4 y4 => ?_⟩
    have item : ∃ I4, Grow F I3 I4 ∧ RS X.K F G σ H4 I4 ps ∧ Dq I4 x (enc l[i]) ∧ I4 D = none ∧ H4 D = some (.lst xs) := by
      rcases yl x H4 y4 with ⟨e, d⟩ | ⟨T, o, n, e, d⟩
      · subst e; exact ⟨I3, Grow.refl, R3, Dq_mono gr3.same _ _ d, n3, hD3⟩
      · subst e
        have nT : D ≠ T := ne_of_none hD3 n
        refine ⟨upd I3 T o, R3.grow_new n, R3.new n, Dq_mono (fun b u q => ?_) _ _ d, by rw [upd_ne nT]; exact n3, by rw [upd_ne nT]; exact hD3⟩
        by_cases c : b = T
        · subst c; rw [upd_same] at q ⊢; exact q
        · rw [upd_ne c] at q ⊢; exact gr3.same _ _ q
    obtain ⟨I4, g4, R4, d4, n4, hD4⟩ := item
    -- within the turn the new list stands for others
    have inner : ∀ {H' I'}, RS X.K F G σ H' I' ps → I' D = none → H' D = some (.lst xs) → RS X.K (upd F D (.lst xs)) G σ H' I' ps := fun {H' I'} r n h => r.frame (fun b o z => by
      by_cases c : b = D
      · subst c; rw [upd_same] at z; cases z; exact h
      · rw [upd_ne c] at z; exact r.sf _ _ z) fun i a ha => by rw [upd_ne (fun c : a = D => hDp i (by rw [← c]; exact ha))]; exact r.fo i a ha
    have sF : Same F (upd F D (.lst xs)) := same_upd hDF
    have outer : ∀ {I' I''}, Grow (upd F D (.lst xs)) I' I'' → Grow F I' I'' := fun {I' I''} g => ⟨g.same, fun a h => (g.out a h).imp_right sF.free⟩
    have keepD : ∀ {I' I''}, Grow (upd F D (.lst xs)) I' I'' → I' D = none → I'' D = none := fun {I' I''} g n => by
      cases z : I'' D with
      | none => rfl
      | some o =>
        rcases g.out D (by rw [z]; simp) with h | h
        · exact absurd n h
        · rw [upd_same] at h; cases h
    have hpv := ownFree_ps R4 hf
    have Rw := (inner R4 n4 hD4).wiped vs hpv
    refine ht.go l[i] _ _ _ H4 I4 ps x _ Rw (fun j h => hpv j (hj j h)) d4 fun σ5 R5 w5 o5 => ⟨(w5 vs hj).trans wipe_wipe, ?_⟩
    -- what stands of the outer state behind
    have hG : ∀ (j : Nat) ds, slAt G j = .own ds → slAt (f (l[i]'hlt) (wipeG G vs)) j = .own ds ∧ j < (f (l[i]'hlt) (wipeG G vs)).length := fun j ds h => by
      have nv : j ∉ vs := fun z => by
        have q := List.all_eq_true.mp hf j z
        rw [h] at q; cases q
      have e : slAt (f (l[i]'hlt) (wipeG G vs)) j = .own ds := by rw [o5 j (fun z => nv (hj j z)), wipeG_out nv]; exact h
      refine ⟨e, ?_⟩
      by_cases c : j < (f (l[i]'hlt) (wipeG G vs)).length
      · exact c
      · rw [slAt_out (by omega)] at e; cases e
    refine ⟨l[i], t, ht1, upd F D (.lst xs), I4, ps, R5, fun H6 I6 g6 R6 => ?_⟩
    rcases ht2 with ⟨rfl, y, r', hy, er2, hr4⟩ | ⟨rfl, hr4⟩
    · refine iteT ⟨l[i], y, hy, upd F D (.lst xs), I6, ps, R6, fun v H7 I7 g7 R7 d7 => ?_⟩
      have g47 := outer (g6.trans g7)
      have hD7 : H7 D = some (.lst xs) := R7.sf _ _ upd_same
      have n7 : I7 D = none := keepD (g6.trans g7) n4
      have R8 := (R4.back R7 sF (g6.trans g7).same hG).wr (o := .lst (xs ++ [v])) n7 hDF hDp
      have lx : xs.length = done.length := by rw [d3.len, List.length_map]
      refine ⟨xs, hD7, by omega, I7, xs ++ [v], done ++ [y], r', gr3.trans (g4.trans g47), R8, n7, upd_same, ?_, by rw [List.length_append]; show done.length + 1 ≤ i + 1; omega, hr4, by rw [er, er2, List.append_assoc]; rfl⟩
      rw [List.map_append]
      exact (DqAll_mono (g4.trans g47).same _ _ d3).app (.cons d7 .nil)
    · have hD6 : H6 D = some (.lst xs) := R6.sf _ _ upd_same
      exact iteF ⟨I6, xs, done, rst, gr3.trans (g4.trans (outer g6)), R4.back R6 sF g6.same hG, keepD g6 n4, hD6, DqAll_mono (g4.trans (outer g6)).same _ _ d3, by omega, hr4, er⟩
  · have e : i = l.length := by omega
    subst e
    rw [List.drop_length] at hr3
    cases hr3
    rw [List.append_nil] at er
    subst er
    have wst := wl.st H3 sI
    rw [List.length_map] at wst
    exact .inl ⟨wst, q D xs H3 I3 (gr1.trans gr3) R3 n3 hDF hDp hD3 d3⟩
theorem eo_lc {e : Expr} {o : Option (List α)} (h : LC X G e o) : EO X G e o := fun l hl => let ⟨t, p, _, w⟩ := h l hl; p.imp w
end
/-! ### name = [..] -/
section
variable {X : Cx} {G : List Sl} {S B R : Type} [Enc R] {P : S → List Sl} {PB : B → List Sl} {own : Bool} {rest : List Stmt} {N : List Str} {sc : Scope} {fs : Option Scope} {k i : Nat} {x : Str} {α : Type} [Enc α] {elt : Expr} {gs : List Comprehension} {scope : Scope} {pos sp py : Pos}
/-- the name is the def's own local, no target of the comprehension, on one line -/
def swB (N : List Str) (sc scope : Scope) (i : Nat) (x : Str) : Bool := decide (N[i]? = some x) && (match sc.names.lookup x with | some .local => true | _ => false) && !(scope.names.any fun (n, k) => n == x && (k == .local || k == .cell))
theorem swB_ok (C : Ctx X N sc fs k) (h : swB N sc scope i x = true) (hl : (py.line == pos.line) = true) : X.N[i]? = some x ∧ X.env.scope.names.lookup x = some .local ∧ swapsWith (.ListComp elt gs scope pos) (some (.Name x py)) sp.line X.env = pure true := by
  unfold swB at h
  simp only [Bool.and_eq_true, decide_eq_true_eq, Bool.not_eq_true'] at h
  obtain ⟨⟨h1, h2⟩, h3⟩ := h
  have h4 : X.env.scope.names.lookup x = some .local := by
    rw [C.s]
    split at h2
    · assumption
    · cases h2
  refine ⟨by rw [C.n]; exact h1, h4, ?_⟩
  unfold swapsWith
  have hb : X.env.blockKind = .function := by
    unfold Env.blockKind; rw [C.s, C.fk]; rfl
  have ky : X.env.kindOf x = some .local := h4
  simp only [hb, ky, h3, Expr.pos, hl]
  rfl
/-- the name is a cell: stored as ever -/
theorem sw_cell (C : Ctx X N sc fs k) (h : sc.names.lookup x = some .cell) : swapsWith (.ListComp elt gs scope pos) (some (.Name x py)) sp.line X.env = pure false := by
  have ky : X.env.kindOf x = some .cell := by show X.env.scope.names.lookup x = _; rw [C.s]; exact h
  unfold swapsWith
  simp [ky, show (some NameKind.cell == some NameKind.local) = false from rfl]
theorem sv_setL {oe : Option (List α)} {kk : List α → Option (Out S B R)} (C : Ctx X N sc fs k) (hx : swB N sc scope i x = true) (hl : (py.line == pos.line) = true) (he : LC X G (.ListComp elt gs scope pos) oe) (hk : ∀ v : List α, SV X (G.set i (.dat (enc v))) rest P PB own (kk v)) :
    SV X G (.Assign [.Name x py] (.ListComp elt gs scope pos) sp :: rest) P PB own (oe.bind kk) := fun y hy => by
  obtain ⟨v, h1, h2⟩ := bind_get hy
  obtain ⟨t, _, st, w⟩ := he v h1
  obtain ⟨a1, a2, a3⟩ := swB_ok (sp := sp) C hx hl
  refine (pss_cons (st i x py sp a1 a2 a3) (hk v y h2)).imp fun D σ H ⟨F, I, ps, R, q⟩ => w σ H _ ⟨F, I, ps, R, fun p xs H1 I1 g R1 n1 n2 n3 hH d => ?_⟩
  obtain ⟨g', R2, d2⟩ := frz_new g R1 n1 n2 n3 hH d
  exact tS_after (H := H) (ps := ps) (σ := σ) g' (R2.setDat d2) q
theorem sv_setLO {oe : Option (List α)} {kk : List α → Option (Out S B R)} (C : Ctx X N sc fs k) (hx : swB N sc scope i x = true) (hl : (py.line == pos.line) = true) (hi : i < G.length) (he : LC X G (.ListComp elt gs scope pos) oe) (hk : ∀ v : List α, SV X (G.set i (.own (v.map enc))) rest P PB own (kk v)) :
    SV X G (.Assign [.Name x py] (.ListComp elt gs scope pos) sp :: rest) P PB own (oe.bind kk) := fun y hy => by
  obtain ⟨v, h1, h2⟩ := bind_get hy
  obtain ⟨t, _, st, w⟩ := he v h1
  obtain ⟨a1, a2, a3⟩ := swB_ok (sp := sp) C hx hl
  exact (pss_cons (st i x py sp a1 a2 a3) (hk v y h2)).imp fun D σ H ⟨F, I, ps, R, q⟩ => w σ H _ ⟨F, I, ps, R, fun p xs H1 I1 g R1 n1 n2 n3 hH d => tS_after (H := H) (ps := ps) (σ := σ) g (R1.setOwn hi n1 n2 n3 hH d) q⟩
/-- a, b = e -/
theorem sv_unpack {tg e : Expr} {g : L2.TG} {js : List Nat} {f : α → List Sl → List Sl} {oe : Option α} {kk : α → Option (Out S B R)} (hg : PG X tg g) (ht : Tgt X.K g js f) (hu : unAt G js = true) (he : ED X G e oe) (hk : ∀ v : α, SV X (f v G) rest P PB own (kk v))
    (hs : swapsWithSole [tg] e sp.line X.env = pure false := by rfl) (hw : swappedStores [tg] e X.env = pure none := by rfl) (h1 : (assignEach [tg] X.env).map (·.2) = [assign tg X.env] := by rfl) :
    SV X G (.Assign [tg] e sp :: rest) P PB own (oe.bind kk) := fun y hy => by
  obtain ⟨v, h2, h3⟩ := bind_get hy
  refine (pss_cons (ps_asg (he v h2) hg hs hw h1) (hk v y h3)).imp fun D σ H ⟨F, I, ps, R, q⟩ => ⟨F, I, ps, R, fun w H1 I1 g R1 d => ?_⟩
  exact ht.go v G F σ H1 I1 ps w _ R1 (unAt_ps R1 hu) d fun σ' R2 _ _ => tS_after (H := H) (ps := ps) (σ := σ) g R2 q
end
end Lay

set_option Elab.async false
set_option linter.all false
set_option maxRecDepth 100000
/-! Lay7: subscripts, slices, builtins, stores to own lists. -/
namespace Lay
open PySem PySem.Spec PyProof.Rows L2
open Lay.Enc (enc)

section
variable {X : Cx} {G : List Sl} {α β γ δ : Type} [Enc α] [Enc β] [Enc γ] [Enc δ] {a b e : Expr} {pos : Pos}
theorem atI_map {γ : Type} {l : List α} {f : α → γ} {i : Int} {x : α} (h : atI l i = some x) : atI (l.map f) i = some (f x) := by
  unfold atI at h ⊢
  rw [List.length_map]
  cases q : ixN l.length i with
  | none => rw [q] at h; cases h
  | some j =>
    rw [q] at h
    show (l.map f)[j]? = some (f x)
    rw [List.getElem?_map, show l[j]? = some x from h]; rfl
theorem _root_.Lay.DqAll.atI {H : Hp} {vs : List V} {ds : List PyData} {i : Int} {d : PyData} (h : DqAll H vs ds) (e : L2.atI ds i = some d) : ∃ v, L2.atI vs i = some v ∧ Dq H v d := by
  unfold L2.atI at e ⊢
  rw [h.len]
  cases q : ixN ds.length i with
  | none => rw [q] at e; cases e
  | some j =>
    rw [q] at e
    exact h.at e
/-- xs[i] -/
theorem ed_ix {ol : Option (List α)} {oi : Option Int} (ha : ED X G a ol) (hb : ED X G b oi) (hs : PlainIx b := by intro _ _; rfl) : ED X G (.Subscript a b pos) (bind2 atI ol oi) := fun z hz => by
  obtain ⟨l, i, h1, h2, h3⟩ := bind2_get hz
  refine (pe_ix ix_list (ha l h1) (hb i h2) hs).imp (tD_op ?_)
  intro F G σ H I ps v w Q R hv hw q
  cases hw
  cases hv with
  | lst k1 k2 =>
    obtain ⟨u, hu, du⟩ := k2.atI (atI_map h3)
    exact ⟨_, _, i, u, rfl, rfl, .inl (rd_mono R.si k1), hu, q u H I Grow.refl R du⟩
theorem ed_ixT {ol : Option (Tup α)} {oi : Option Int} (ha : ED X G a ol) (hb : ED X G b oi) (hs : PlainIx b := by intro _ _; rfl) : ED X G (.Subscript a b pos) (bind2 (fun t i => atI t.l i) ol oi) := fun z hz => by
  obtain ⟨l, i, h1, h2, h3⟩ := bind2_get hz
  refine (pe_ix ix_tup (ha l h1) (hb i h2) hs).imp (tD_op ?_)
  intro F G σ H I ps v w Q R hv hw q
  cases hw
  cases hv with
  | tup k1 k2 =>
    obtain ⟨u, hu, du⟩ := k2.atI (atI_map h3)
    exact ⟨_, _, i, u, rfl, rfl, .inl (rd_mono R.si k1), hu, q u H I Grow.refl R du⟩
/-- the item of a tuple of known length at a written index -/
theorem ed_proj {o : Option α} {i : Int} {j : Nat} {p : Pos} {f : α → β} (ha : ED X G a o) (hf : ∀ x, ∃ ds, enc x = .tuple ds ∧ atI ds i = some (enc (f x))) : ED X G (.Subscript a (.Constant (.int i) j p) pos) (lift1 f o) := fun z hz => by
  obtain ⟨x, h1, h2⟩ := lift1_get hz
  subst h2
  obtain ⟨ds, e1, e2⟩ := hf x
  refine (pe_ix ix_tup (ha x h1) (ed_num (G := G) i rfl) (fun _ _ => rfl)).imp (tD_op ?_)
  intro F G σ H I ps v w Q R hv hw q
  rw [e1] at hv
  cases hw
  cases hv with
  | tup k1 k2 =>
    obtain ⟨u, hu, du⟩ := k2.atI e2
    exact ⟨_, _, i, u, rfl, rfl, .inl (rd_mono R.si k1), hu, q u H I Grow.refl R du⟩
theorem ed_20 {o : Option (T2 α β)} {j : Nat} {p : Pos} (h : ED X G a o) : ED X G (.Subscript a (.Constant (.int 0) j p) pos) (lift1 T2.a o) := ed_proj h fun x => ⟨_, rfl, rfl⟩
theorem ed_21 {o : Option (T2 α β)} {j : Nat} {p : Pos} (h : ED X G a o) : ED X G (.Subscript a (.Constant (.int 1) j p) pos) (lift1 T2.b o) := ed_proj h fun x => ⟨_, rfl, rfl⟩
theorem ed_30 {o : Option (T3 α β γ)} {j : Nat} {p : Pos} (h : ED X G a o) : ED X G (.Subscript a (.Constant (.int 0) j p) pos) (lift1 T3.a o) := ed_proj h fun x => ⟨_, rfl, rfl⟩
theorem ed_31 {o : Option (T3 α β γ)} {j : Nat} {p : Pos} (h : ED X G a o) : ED X G (.Subscript a (.Constant (.int 1) j p) pos) (lift1 T3.b o) := ed_proj h fun x => ⟨_, rfl, rfl⟩
theorem ed_32 {o : Option (T3 α β γ)} {j : Nat} {p : Pos} (h : ED X G a o) : ED X G (.Subscript a (.Constant (.int 2) j p) pos) (lift1 T3.c o) := ed_proj h fun x => ⟨_, rfl, rfl⟩
theorem ed_40 {o : Option (T4 α β γ δ)} {j : Nat} {p : Pos} (h : ED X G a o) : ED X G (.Subscript a (.Constant (.int 0) j p) pos) (lift1 T4.a o) := ed_proj h fun x => ⟨_, rfl, rfl⟩
theorem ed_41 {o : Option (T4 α β γ δ)} {j : Nat} {p : Pos} (h : ED X G a o) : ED X G (.Subscript a (.Constant (.int 1) j p) pos) (lift1 T4.b o) := ed_proj h fun x => ⟨_, rfl, rfl⟩
theorem ed_42 {o : Option (T4 α β γ δ)} {j : Nat} {p : Pos} (h : ED X G a o) : ED X G (.Subscript a (.Constant (.int 2) j p) pos) (lift1 T4.c o) := ed_proj h fun x => ⟨_, rfl, rfl⟩
theorem ed_43 {o : Option (T4 α β γ δ)} {j : Nat} {p : Pos} (h : ED X G a o) : ED X G (.Subscript a (.Constant (.int 3) j p) pos) (lift1 T4.d o) := ed_proj h fun x => ⟨_, rfl, rfl⟩
/-- x[i], x an own list -/
theorem ed_ixO {N : List Str} {sc : Scope} {fs : Option Scope} {k i : Nat} {x : Str} {l : List α} {p : Pos} {oi : Option Int} (C : Ctx X N sc fs k) (hv : visB N sc i x = true) (hsl : slAt G i = .own (l.map enc)) (hb : ED X G b oi) (hs : PlainIx b := by intro _ _; rfl) :
    ED X G (.Subscript (.Name x p) b pos) (oi.bind fun j => atI l j) := fun z hz => by
  obtain ⟨j, h2, h3⟩ := bind_get hz
  unfold visB at hv
  simp only [Bool.and_eq_true, decide_eq_true_eq, Bool.not_eq_true'] at hv
  obtain ⟨⟨⟨h1, hv⟩, hd⟩, hcd⟩ := hv
  have hvis : Vis X.env.scope x := by
    rw [C.s]; unfold Vis
    split at hv <;> simp_all
  refine (pe_ix ix_list (pe_var (by rw [C.n]; exact h1) hvis hd hcd) (hb j h2) hs).imp fun σ H Q ⟨F, I, ps, R, q⟩ => ?_
  have hi : i < G.length := by
    by_cases c : i < G.length
    · exact c
    · rw [slAt_out (by omega)] at hsl; cases hsl
  obtain ⟨w, k1, k2⟩ := R.sl i hi
  rw [hsl] at k2
  obtain ⟨ad, xs, e1, e2, n, hH, d⟩ := k2
  subst e2
  refine ⟨_, k1, F, I, ps, R, fun w H1 I1 g1 R1 dw => ?_⟩
  cases dw
  obtain ⟨w1, m1, m2⟩ := R1.sl i hi
  rw [hsl] at m2
  obtain ⟨a1, xs1, f1, f2, n1, hH1, d1⟩ := m2
  rw [e1] at f1; cases f1
  obtain ⟨u, hu, du⟩ := d1.atI (atI_map h3)
  exact ⟨_, _, j, u, rfl, rfl, .inl (.inl hH1), hu, q u H1 I1 g1 R1 du⟩

/-! ### slices -/
/-- the part that a slice takes -/
def cutL {α : Type} (l : List α) (lo hi : Option Int) : List α := (l.drop (HT.sIx l.length 0 lo)).take (HT.sIx l.length l.length hi - HT.sIx l.length 0 lo)
def EP (X : Cx) (G : List Sl) (e : Option Expr) (o : Option (Option Int)) : Prop := ∀ i, o = some i → ∃ t, PO X e t ∧ ∀ (σ : L2.St) (H : Hp) (Q : Option Int → Hp → Prop), (∃ F I ps, RS X.K F G σ H I ps ∧ ∀ H' I', Grow F I I' → RS X.K F G σ H' I' ps → Q i H') → t σ H Q
theorem ep_none : EP X G none (some none) := fun i h => by
  cases h
  exact ⟨_, po_none, fun σ H Q ⟨F, I, ps, R, q⟩ => q _ _ Grow.refl R⟩
theorem ep_some {o : Option Int} (h : ED X G e o) : EP X G (some e) (lift1 some o) := fun i hi => by
  obtain ⟨x, h1, h2⟩ := lift1_get hi
  subst h2
  exact ⟨_, po_some (h x h1), fun σ H Q ⟨F, I, ps, R, q⟩ => ⟨F, I, ps, R, fun v H' I' g R' d => by cases d; exact ⟨x, rfl, q _ _ g R'⟩⟩⟩
theorem DqAll.cut {H : Hp} {vs : List V} {l : List α} {lo hi : Option Int} (h : DqAll H vs (l.map enc)) : DqAll H (cutV vs lo hi) ((cutL l lo hi).map enc) := by
  have e : vs.length = l.length := by rw [h.len, List.length_map]
  unfold cutV cutL
  rw [e, List.map_take, List.map_drop]
  exact (h.drop _).take _
theorem eo_slice {lo hi : Option Expr} {ol : Option (List α)} {oo oh : Option (Option Int)} {p2 : Pos} (ha : ED X G a ol) (h1 : EP X G lo oo) (h2 : EP X G hi oh) : EO X G (.Subscript a (.Slice lo hi none p2) pos) (lift3 cutL ol oo oh) := fun r hr => by
  obtain ⟨l, e1, hr⟩ := bind_get hr
  obtain ⟨i, e2, hr⟩ := bind_get hr
  obtain ⟨j, e3, hr⟩ := bind_get hr
  cases hr
  obtain ⟨t1, p1, w1⟩ := h1 i e2
  obtain ⟨t2, p2, w2⟩ := h2 j e3
  refine (pe_slice sl_list (ha l e1) p1 p2).imp fun σ H Q ⟨F, I, ps, R, q⟩ => ⟨F, I, ps, R, fun v H1 I1 g1 R1 d => w1 σ H1 _ ⟨F, I1, ps, R1, fun H2 I2 g2 R2 => w2 σ H2 _ ⟨F, I2, ps, R2, fun H3 I3 g3 R3 => ?_⟩⟩⟩
  cases d with
  | lst k1 k2 =>
    have s13 : Same I1 I3 := g2.same.trans g3.same
    refine ⟨_, _, rfl, .inl (rd_mono (s13.trans R3.si) k1), fun p hp => q p _ _ I3 (g1.trans (g2.trans g3)) (R3.newOwn hp) (R3.si.free hp) (R3.sf.free hp) (fun i c => by obtain ⟨_, _, _, z⟩ := R3.own_at c; rw [hp] at z; cases z) upd_same ?_⟩
    exact DqAll.cut (DqAll_mono s13 _ _ k2)
theorem ed_sliceT {lo hi : Option Expr} {ol : Option (Tup α)} {oo oh : Option (Option Int)} {p2 : Pos} (ha : ED X G a ol) (h1 : EP X G lo oo) (h2 : EP X G hi oh) : ED X G (.Subscript a (.Slice lo hi none p2) pos) (lift3 (fun t i j => Tup.mk (cutL t.l i j)) ol oo oh) := fun r hr => by
  obtain ⟨l, e1, hr⟩ := bind_get hr
  obtain ⟨i, e2, hr⟩ := bind_get hr
  obtain ⟨j, e3, hr⟩ := bind_get hr
  cases hr
  obtain ⟨t1, p1, w1⟩ := h1 i e2
  obtain ⟨t2, p2, w2⟩ := h2 j e3
  refine (pe_slice sl_tupA (ha l e1) p1 p2).imp fun σ H Q ⟨F, I, ps, R, q⟩ => ⟨F, I, ps, R, fun v H1 I1 g1 R1 d => w1 σ H1 _ ⟨F, I1, ps, R1, fun H2 I2 g2 R2 => w2 σ H2 _ ⟨F, I2, ps, R2, fun H3 I3 g3 R3 => ?_⟩⟩⟩
  cases d with
  | tup k1 k2 =>
    have s13 : Same I1 I3 := g2.same.trans g3.same
    have e : PyData.tuple ((cutL l.l i j).map enc) = enc (Tup.mk (cutL l.l i j)) := rfl
    have lx : ∀ {xs : List V}, DqAll I1 xs (l.l.map enc) → xs.length = l.l.length := fun h => by rw [h.len, List.length_map]
    refine ⟨_, _, rfl, .inl (rd_mono (s13.trans R3.si) k1), fun hw => q _ _ I3 (g1.trans (g2.trans g3)) R3 ?_, fun _ p hp => q _ _ _ (g1.trans (g2.trans (g3.trans (R3.grow_new hp)))) (R3.new hp) (.tup (.inl upd_same) (DqAll.cut (DqAll_mono (s13.trans (R3.grow_new (o := .tup _) hp).same) _ _ k2)))⟩
    rw [lx k2] at hw
    have e2 : cutL l.l i j = l.l := by
      unfold cutL
      rw [hw.1, hw.2]; simp
    show Dq I3 _ (PyData.tuple ((cutL l.l i j).map enc))
    rw [e2]
    exact .tup (rd_mono s13 k1) (DqAll_mono s13 _ _ k2)
end

/-! ### builtins by name -/
section
variable {X : Cx} {G : List Sl} {α β γ δ : Type} [Enc α] [Enc β] [Enc γ] [Enc δ] {a b e : Expr} {pos p : Pos} {N : List Str} {sc : Scope} {fs : Option Scope} {k : Nat}
/-- a builtin of one argument -/
theorem b1 {id x : Str} {bid : String} {te : TE} {r : List V → Hp → VK → Prop} (C : Ctx X N sc fs k) (hg : glbB sc x = true) (hm : X.mg x = none) (hv : bootBuiltins x = some (.builtin bid)) (hc : CallR X (.builtin bid) r) (h : PE X e te) (hn : x ≠ "__name__")
    (hs : starEach [e] X.env = (false, eval e X.env) :: starEach [] X.env) : PE X (.Call (.Name x p) [e] [] pos) (tCB r (tCons te tNil)) := by
  obtain ⟨gl, db⟩ := glbB_gl C.s hg
  exact pe_callB hc gl hm hv (pa_cons h pa_nil hs) hn db hs rfl
theorem bT {x : Str} {T : String} {te : TE} {r : List V → Hp → VK → Prop} (C : Ctx X N sc fs k) (hg : glbB sc x = true) (hm : X.mg x = none) (hv : bootBuiltins x = some (.type T)) (hc : CallR X (.type T) r) (h : PE X e te) (hn : x ≠ "__name__")
    (hs : starEach [e] X.env = (false, eval e X.env) :: starEach [] X.env) : PE X (.Call (.Name x p) [e] [] pos) (tCB r (tCons te tNil)) := by
  obtain ⟨gl, db⟩ := glbB_gl C.s hg
  exact pe_callTy hc gl hm hv (pa_cons h pa_nil hs) hn db hs rfl
/-- a rule of one value on data: the answer is scalar -/
theorem tD_b1 {K : PySem.W.Frag} {r : List V → Hp → VK → Prop} {d1 d : PyData} (h : ∀ (F : Hp) (G : List Sl) (σ : L2.St) (H I : Hp) (ps : Nat → Option Addr) (v : V) (Q : VK), RS K F G σ H I ps → Dq I v d1 → (∀ u H' I', Grow F I I' → RS K F G σ H' I' ps → Dq I' u d → Q u H') → r [v] H Q)
    (σ : L2.St) (H : Hp) (Q : VK) (t : tD K G d σ H Q) : tCB r (tCons (tD K G d1) tNil) σ H Q := by
  obtain ⟨F, I, ps, R, q⟩ := t
  exact ⟨F, I, ps, R, fun v H1 I1 g1 R1 dv => h F G σ H1 I1 ps v Q R1 dv fun u H3 I3 g3 R3 du => q u H3 I3 (g1.trans g3) R3 du⟩
/-- .. of a list that is read -/
theorem tR_b1 {K : PySem.W.Frag} {r : List V → Hp → VK → Prop} {ds : List PyData} {d : PyData} (h : ∀ (F : Hp) (G : List Sl) (σ : L2.St) (H I : Hp) (ps : Nat → Option Addr) (ad : Addr) (xs : List V) (Q : VK), RS K F G σ H I ps → SqL K H ad xs → DqAll I xs ds → (∀ u H' I', Grow F I I' → RS K F G σ H' I' ps → Dq I' u d → Q u H') → r [.ref ad] H Q)
    (σ : L2.St) (H : Hp) (Q : VK) (t : tD K G d σ H Q) : tCB r (tCons (tR K G ds) tNil) σ H Q := by
  obtain ⟨F, I, ps, R, q⟩ := t
  exact ⟨F, I, ps, R, fun ad xs H1 I1 g1 R1 s dv => h F G σ H1 I1 ps ad xs Q R1 s dv fun u H3 I3 g3 R3 du => q u H3 I3 (g1.trans g3) R3 du⟩
theorem tR_bO {K : PySem.W.Frag} {r : List V → Hp → VK → Prop} {ds es : List PyData} (h : ∀ (F : Hp) (G : List Sl) (σ : L2.St) (H I : Hp) (ps : Nat → Option Addr) (ad : Addr) (xs : List V) (Q : VK), RS K F G σ H I ps → SqL K H ad xs → DqAll I xs ds → (∀ p ys, H p = none → DqAll I ys es → Q (.ref p) (upd H p (.lst ys))) → r [.ref ad] H Q)
    (σ : L2.St) (H : Hp) (Q : VK) (t : tO K G es σ H Q) : tCB r (tCons (tR K G ds) tNil) σ H Q := by
  obtain ⟨F, I, ps, R, q⟩ := t
  refine ⟨F, I, ps, R, fun ad xs H1 I1 g1 R1 s dv => h F G σ H1 I1 ps ad xs Q R1 s dv fun p ys hp dy => ?_⟩
  exact q p ys _ I1 g1 (R1.newOwn hp) (R1.si.free hp) (R1.sf.free hp) (fun i c => by obtain ⟨_, _, _, z⟩ := R1.own_at c; rw [hp] at z; cases z) upd_same dy
theorem ed_len {ol : Option (List α)} (C : Ctx X N sc fs k) (hg : glbB sc "len" = true) (hm : X.mg "len" = none) (h : ER X G e ol) (hs : starEach [e] X.env = (false, eval e X.env) :: starEach [] X.env := by rfl) : ED X G (.Call (.Name "len" p) [e] [] pos) (lift1 (fun l => (l.length : Int)) ol) := fun z hz => by
  obtain ⟨l, h1, h2⟩ := lift1_get hz
  subst h2
  refine (b1 (id := "len") C hg hm PySem.boot_len call_len_seq (h l h1) (by decide) hs).imp (tR_b1 fun F G σ H I ps ad xs Q R s d q => ⟨ad, xs, rfl, .inl s, ?_⟩)
  rw [d.len, List.length_map]
  exact q _ _ _ Grow.refl R (.int _)
theorem ed_lenT {ol : Option (Tup α)} (C : Ctx X N sc fs k) (hg : glbB sc "len" = true) (hm : X.mg "len" = none) (h : ED X G e ol) (hs : starEach [e] X.env = (false, eval e X.env) :: starEach [] X.env := by rfl) : ED X G (.Call (.Name "len" p) [e] [] pos) (lift1 (fun t => (t.l.length : Int)) ol) := fun z hz => by
  obtain ⟨l, h1, h2⟩ := lift1_get hz
  subst h2
  refine (b1 (id := "len") C hg hm PySem.boot_len call_len_seq (h l h1) (by decide) hs).imp (tD_b1 fun F G σ H I ps v Q R d q => ?_)
  cases d with
  | tup k1 k2 =>
    refine ⟨_, _, rfl, .inr (.inl (rd_mono R.si k1)), ?_⟩
    rw [k2.len, List.length_map]
    exact q _ _ _ Grow.refl R (.int _)
theorem ints_of {I : Hp} : ∀ {xs : List V} {ns : List Int}, DqAll I xs (ns.map enc) → xs = ns.map V.int
  | _, [], h => by cases h; rfl
  | _, n :: ns, h => by
    cases h with
    | cons h1 h2 =>
      cases h1
      rw [ints_of h2]; rfl
theorem of_ints {I : Hp} : ∀ (ns : List Int), DqAll I (ns.map V.int) (ns.map enc)
  | [] => .nil
  | n :: ns => .cons (.int n) (of_ints ns)
theorem bools_of {I : Hp} : ∀ {xs : List V} {ns : List Bool}, DqAll I xs (ns.map enc) → xs = ns.map V.bl
  | _, [], h => by cases h; rfl
  | _, n :: ns, h => by
    cases h with
    | cons h1 h2 =>
      cases h1
      rw [bools_of h2]; rfl
theorem ed_sum {ol : Option (List Int)} (C : Ctx X N sc fs k) (hg : glbB sc "sum" = true) (hm : X.mg "sum" = none) (h : ER X G e ol) (hs : starEach [e] X.env = (false, eval e X.env) :: starEach [] X.env := by rfl) : ED X G (.Call (.Name "sum" p) [e] [] pos) (lift1 List.sum ol) := fun z hz => by
  obtain ⟨l, h1, h2⟩ := lift1_get hz
  subst h2
  refine (b1 (id := "sum") C hg hm (by decide +kernel) (cr_sum C.calm) (h l h1) (by decide) hs).imp (tR_b1 fun F G σ H I ps ad xs Q R s d q => ?_)
  rw [ints_of d] at s
  exact ⟨ad, l, rfl, s, q _ _ _ Grow.refl R (.int _)⟩
/-- the greatest (least) of a list that is not empty -/
def maxL : List Int → Option Int
  | [] => none
  | x :: xs => some (xs.foldl (fun m y => if y > m then y else m) x)
def minL : List Int → Option Int
  | [] => none
  | x :: xs => some (xs.foldl (fun m y => if y < m then y else m) x)
theorem maxL_fold (xs : List Int) (x : Int) : xs.foldl (fun m y => if y > m then y else m) x ∈ x :: xs ∧ ∀ y ∈ x :: xs, y ≤ xs.foldl (fun m y => if y > m then y else m) x := by
  induction xs generalizing x with
  | nil => simp
  | cons z zs ih =>
    rw [List.foldl_cons]
    obtain ⟨h1, h2⟩ := ih (if z > x then z else x)
    refine ⟨?_, fun y hy => ?_⟩
    · rcases List.mem_cons.mp h1 with e | e
      · rw [e]; split <;> simp
      · simp [e]
    · have h3 := h2 (if z > x then z else x) (by simp)
      rcases List.mem_cons.mp hy with e | e
      · subst e; revert h3; split <;> omega
      · rcases List.mem_cons.mp e with e | e
        · subst e; revert h3; split <;> omega
        · exact h2 y (by simp [e])
theorem minL_fold (xs : List Int) (x : Int) : xs.foldl (fun m y => if y < m then y else m) x ∈ x :: xs ∧ ∀ y ∈ x :: xs, xs.foldl (fun m y => if y < m then y else m) x ≤ y := by
  induction xs generalizing x with
  | nil => simp
  | cons z zs ih =>
    rw [List.foldl_cons]
    obtain ⟨h1, h2⟩ := ih (if z < x then z else x)
    refine ⟨?_, fun y hy => ?_⟩
    · rcases List.mem_cons.mp h1 with e | e
      · rw [e]; split <;> simp
      · simp [e]
    · have h3 := h2 (if z < x then z else x) (by simp)
      rcases List.mem_cons.mp hy with e | e
      · subst e; revert h3; split <;> omega
      · rcases List.mem_cons.mp e with e | e
        · subst e; revert h3; split <;> omega
        · exact h2 y (by simp [e])
theorem maxL_spec {l : List Int} {m : Int} (h : maxL l = some m) : m ∈ l ∧ ∀ y ∈ l, y ≤ m := by
  cases l with
  | nil => cases h
  | cons x xs => have h := Option.some.inj h; subst h; exact maxL_fold xs x
theorem minL_spec {l : List Int} {m : Int} (h : minL l = some m) : m ∈ l ∧ ∀ y ∈ l, m ≤ y := by
  cases l with
  | nil => cases h
  | cons x xs => have h := Option.some.inj h; subst h; exact minL_fold xs x
theorem ed_maxL {ol : Option (List Int)} (C : Ctx X N sc fs k) (hg : glbB sc "max" = true) (hm : X.mg "max" = none) (h : ER X G e ol) (hs : starEach [e] X.env = (false, eval e X.env) :: starEach [] X.env := by rfl) : ED X G (.Call (.Name "max" p) [e] [] pos) (ol.bind maxL) := fun z hz => by
  obtain ⟨l, h1, h2⟩ := bind_get hz
  obtain ⟨m1, m2⟩ := maxL_spec h2
  refine (b1 (id := "max") C hg hm (by decide +kernel) (cr_max C.calm) (h l h1) (by decide) hs).imp (tR_b1 fun F G σ H I ps ad xs Q R s d q => ?_)
  rw [ints_of d] at s
  refine ⟨ad, l, rfl, s, List.length_pos_of_mem m1, fun m hm hle => ?_⟩
  have e : m = z := Int.le_antisymm (m2 m hm) (hle z m1)
  subst e
  exact q _ _ _ Grow.refl R (.int _)
theorem ed_minL {ol : Option (List Int)} (C : Ctx X N sc fs k) (hg : glbB sc "min" = true) (hm : X.mg "min" = none) (h : ER X G e ol) (hs : starEach [e] X.env = (false, eval e X.env) :: starEach [] X.env := by rfl) : ED X G (.Call (.Name "min" p) [e] [] pos) (ol.bind minL) := fun z hz => by
  obtain ⟨l, h1, h2⟩ := bind_get hz
  obtain ⟨m1, m2⟩ := minL_spec h2
  refine (b1 (id := "min") C hg hm (by decide +kernel) (cr_min C.calm) (h l h1) (by decide) hs).imp (tR_b1 fun F G σ H I ps ad xs Q R s d q => ?_)
  rw [ints_of d] at s
  refine ⟨ad, l, rfl, s, List.length_pos_of_mem m1, fun m hm hle => ?_⟩
  have e : m = z := Int.le_antisymm (hle z m1) (m2 m hm)
  subst e
  exact q _ _ _ Grow.refl R (.int _)
theorem ed_abs {o : Option Int} (C : Ctx X N sc fs k) (hg : glbB sc "abs" = true) (hm : X.mg "abs" = none) (h : ED X G e o) (hs : starEach [e] X.env = (false, eval e X.env) :: starEach [] X.env := by rfl) : ED X G (.Call (.Name "abs" p) [e] [] pos) (lift1 (fun i => if i < 0 then -i else i) o) := fun z hz => by
  obtain ⟨i, h1, h2⟩ := lift1_get hz
  subst h2
  refine (b1 (id := "abs") C hg hm (by decide +kernel) call_abs (h i h1) (by decide) hs).imp (tD_b1 fun F G σ H I ps v Q R d q => ?_)
  cases d
  exact ⟨i, rfl, q _ _ _ Grow.refl R (.int _)⟩
theorem ed_int {o : Option Int} (C : Ctx X N sc fs k) (hg : glbB sc "int" = true) (hm : X.mg "int" = none) (h : ED X G e o) (hs : starEach [e] X.env = (false, eval e X.env) :: starEach [] X.env := by rfl) : ED X G (.Call (.Name "int" p) [e] [] pos) o := fun i h1 => by
  refine (bT C hg hm (by decide +kernel) call_int1 (h i h1) (by decide) hs).imp (tD_b1 fun F G σ H I ps v Q R d q => ?_)
  cases d
  exact .inl ⟨i, rfl, q _ _ _ Grow.refl R (.int _)⟩
theorem ed_intB {o : Option Bool} (C : Ctx X N sc fs k) (hg : glbB sc "int" = true) (hm : X.mg "int" = none) (h : ED X G e o) (hs : starEach [e] X.env = (false, eval e X.env) :: starEach [] X.env := by rfl) : ED X G (.Call (.Name "int" p) [e] [] pos) (lift1 (fun b => if b = true then (1 : Int) else 0) o) := fun z hz => by
  obtain ⟨i, h1, h2⟩ := lift1_get hz
  subst h2
  refine (bT C hg hm (by decide +kernel) call_int1 (h i h1) (by decide) hs).imp (tD_b1 fun F G σ H I ps v Q R d q => ?_)
  cases d
  exact .inr ⟨i, rfl, q _ _ _ Grow.refl R (.int _)⟩
theorem ed_all {ol : Option (List Bool)} (C : Ctx X N sc fs k) (hg : glbB sc "all" = true) (hm : X.mg "all" = none) (h : ER X G e ol) (hs : starEach [e] X.env = (false, eval e X.env) :: starEach [] X.env := by rfl) : ED X G (.Call (.Name "all" p) [e] [] pos) (lift1 (fun l => l.all id) ol) := fun z hz => by
  obtain ⟨l, h1, h2⟩ := lift1_get hz
  subst h2
  refine (b1 (id := "all") C hg hm (by decide +kernel) (cr_all C.calm) (h l h1) (by decide) hs).imp (tR_b1 fun F G σ H I ps ad xs Q R s d q => ?_)
  rw [bools_of d] at s
  exact ⟨ad, l, rfl, s, q _ _ _ Grow.refl R (.bl _)⟩
theorem ed_any {ol : Option (List Bool)} (C : Ctx X N sc fs k) (hg : glbB sc "any" = true) (hm : X.mg "any" = none) (h : ER X G e ol) (hs : starEach [e] X.env = (false, eval e X.env) :: starEach [] X.env := by rfl) : ED X G (.Call (.Name "any" p) [e] [] pos) (lift1 (fun l => l.any id) ol) := fun z hz => by
  obtain ⟨l, h1, h2⟩ := lift1_get hz
  subst h2
  refine (b1 (id := "any") C hg hm (by decide +kernel) (cr_any C.calm) (h l h1) (by decide) hs).imp (tR_b1 fun F G σ H I ps ad xs Q R s d q => ?_)
  rw [bools_of d] at s
  exact ⟨ad, l, rfl, s, q _ _ _ Grow.refl R (.bl _)⟩
/-- min(a, b), max(a, b) -/
theorem b2 {x : Str} {bid : String} {d1 d2 d : PyData} {r : List V → Hp → VK → Prop} (C : Ctx X N sc fs k) (hg : glbB sc x = true) (hm : X.mg x = none) (hv : bootBuiltins x = some (.builtin bid)) (hc : CallR X (.builtin bid) r) (h1 : PE X a (tD X.K G d1)) (h2 : PE X b (tD X.K G d2)) (hn : x ≠ "__name__")
    (w : ∀ (F : Hp) (G : List Sl) (σ : L2.St) (H I : Hp) (ps : Nat → Option Addr) (v w : V) (Q : VK), RS X.K F G σ H I ps → Dq I v d1 → Dq I w d2 → (∀ u H' I', Grow F I I' → RS X.K F G σ H' I' ps → Dq I' u d → Q u H') → r [v, w] H Q)
    (hs : starEach [a, b] X.env = (false, eval a X.env) :: starEach [b] X.env) (hs2 : starEach [b] X.env = (false, eval b X.env) :: starEach [] X.env) (hp : (backTo pos (starEach [b] X.env)).any (·.1) = false) : PE X (.Call (.Name x p) [a, b] [] pos) (tD X.K G d) := by
  obtain ⟨gl, db⟩ := glbB_gl C.s hg
  refine (pe_callB hc gl hm hv (pa_cons h1 (pa_cons h2 pa_nil hs2) hs) hn db hs hp).imp fun σ H Q ⟨F, I, ps, R, q⟩ => ⟨F, I, ps, R, fun v H1 I1 g1 R1 d1 => ⟨F, I1, ps, R1, fun u H2 I2 g2 R2 d2 => ?_⟩⟩
  exact w F G σ H2 I2 ps v u Q R2 (Dq_mono g2.same _ _ d1) d2 fun z H3 I3 g3 R3 d3 => q z H3 I3 (g1.trans (g2.trans g3)) R3 d3
theorem ed_max2 {oa ob : Option Int} (C : Ctx X N sc fs k) (hg : glbB sc "max" = true) (hm : X.mg "max" = none) (ha : ED X G a oa) (hb : ED X G b ob)
    (hs : starEach [a, b] X.env = (false, eval a X.env) :: starEach [b] X.env := by rfl) (hs2 : starEach [b] X.env = (false, eval b X.env) :: starEach [] X.env := by rfl) (hp : (backTo pos (starEach [b] X.env)).any (·.1) = false := by rfl) :
    ED X G (.Call (.Name "max" p) [a, b] [] pos) (lift2 (fun i j => if j > i then j else i) oa ob) := fun z hz => by
  obtain ⟨i, j, h1, h2, h3⟩ := lift2_get hz
  subst h3
  exact b2 C hg hm (by decide +kernel) (call_max2 C.calm) (ha i h1) (hb j h2) (by decide) (fun F G σ H I ps v w Q R d1 d2 q => by cases d1; cases d2; exact ⟨i, j, rfl, q _ _ _ Grow.refl R (.int _)⟩) hs hs2 hp
theorem ed_min2 {oa ob : Option Int} (C : Ctx X N sc fs k) (hg : glbB sc "min" = true) (hm : X.mg "min" = none) (ha : ED X G a oa) (hb : ED X G b ob)
    (hs : starEach [a, b] X.env = (false, eval a X.env) :: starEach [b] X.env := by rfl) (hs2 : starEach [b] X.env = (false, eval b X.env) :: starEach [] X.env := by rfl) (hp : (backTo pos (starEach [b] X.env)).any (·.1) = false := by rfl) :
    ED X G (.Call (.Name "min" p) [a, b] [] pos) (lift2 (fun i j => if j < i then j else i) oa ob) := fun z hz => by
  obtain ⟨i, j, h1, h2, h3⟩ := lift2_get hz
  subst h3
  exact b2 C hg hm (by decide +kernel) (call_min2 C.calm) (ha i h1) (hb j h2) (by decide) (fun F G σ H I ps v w Q R d1 d2 q => by cases d1; cases d2; exact ⟨i, j, rfl, q _ _ _ Grow.refl R (.int _)⟩) hs hs2 hp

/-! ### lists from lists -/
def sortI (l : List Int) : List Int := l.mergeSort (fun a b => decide (a ≤ b))
theorem sortI_perm (l : List Int) : (sortI l).Perm l := List.mergeSort_perm ..
theorem sortI_sorted (l : List Int) : (sortI l).Pairwise (· ≤ ·) := by
  have h := List.pairwise_mergeSort (le := fun a b : Int => decide (a ≤ b)) (fun a b c h1 h2 => by simp only [decide_eq_true_eq] at *; omega) (fun a b => by simp only [Bool.or_eq_true, decide_eq_true_eq]; omega) l
  exact h.imp fun h => of_decide_eq_true h
theorem sorted_unique : ∀ {l m : List Int}, l.Perm m → l.Pairwise (· ≤ ·) → m.Pairwise (· ≤ ·) → l = m := fun h h1 h2 => h.eq_of_pairwise (fun a b _ _ h3 h4 => Int.le_antisymm h3 h4) h1 h2
theorem eo_sorted {ol : Option (List Int)} (C : Ctx X N sc fs k) (hg : glbB sc "sorted" = true) (hm : X.mg "sorted" = none) (h : ER X G e ol) (hs : starEach [e] X.env = (false, eval e X.env) :: starEach [] X.env := by rfl) : EO X G (.Call (.Name "sorted" p) [e] [] pos) (lift1 sortI ol) := fun z hz => by
  obtain ⟨l, h1, h2⟩ := lift1_get hz
  subst h2
  refine (b1 (id := "sorted") C hg hm (by decide +kernel) cr_sortedI (h l h1) (by decide) hs).imp (tR_bO fun F G σ H I ps ad xs Q R s d q => ?_)
  rw [ints_of d] at s
  refine ⟨ad, l, rfl, s, fun ns' p hp1 hp2 hp => ?_⟩
  have e : ns' = sortI l := sorted_unique (hp1.trans (sortI_perm l).symm) hp2 (sortI_sorted l)
  subst e
  exact q p _ hp (of_ints _)
theorem eo_listL {ol : Option (List α)} (C : Ctx X N sc fs k) (hg : glbB sc "list" = true) (hm : X.mg "list" = none) (h : ER X G e ol) (hs : starEach [e] X.env = (false, eval e X.env) :: starEach [] X.env := by rfl) : EO X G (.Call (.Name "list" p) [e] [] pos) ol := fun l h1 => by
  refine (bT C hg hm (by decide +kernel) call_list_of (h l h1) (by decide) hs).imp (tR_bO fun F G σ H I ps ad xs Q R s d q => ?_)
  exact ⟨ad, xs, rfl, .inl s, fun l hl => q l xs hl d⟩
theorem eo_listT {ol : Option (Tup α)} (C : Ctx X N sc fs k) (hg : glbB sc "list" = true) (hm : X.mg "list" = none) (h : ED X G e ol) (hs : starEach [e] X.env = (false, eval e X.env) :: starEach [] X.env := by rfl) : EO X G (.Call (.Name "list" p) [e] [] pos) (lift1 Tup.l ol) := fun z hz => by
  obtain ⟨t, h1, h2⟩ := lift1_get hz
  subst h2
  refine (bT C hg hm (by decide +kernel) call_list_of (h t h1) (by decide) hs).imp fun σ H Q ⟨F, I, ps, R, q⟩ => ⟨F, I, ps, R, fun v H1 I1 g1 R1 d => ?_⟩
  cases d with
  | tup k1 k2 =>
    exact ⟨_, _, rfl, .inr (.inl (rd_mono R1.si k1)), fun p hp => q p _ _ I1 g1 (R1.newOwn hp) (R1.si.free hp) (R1.sf.free hp) (fun i c => by obtain ⟨_, _, _, z⟩ := R1.own_at c; rw [hp] at z; cases z) upd_same k2⟩
theorem ed_tupL {ol : Option (List α)} (C : Ctx X N sc fs k) (hg : glbB sc "tuple" = true) (hm : X.mg "tuple" = none) (h : ER X G e ol) (hs : starEach [e] X.env = (false, eval e X.env) :: starEach [] X.env := by rfl) : ED X G (.Call (.Name "tuple" p) [e] [] pos) (lift1 Tup.mk ol) := fun z hz => by
  obtain ⟨l, h1, h2⟩ := lift1_get hz
  subst h2
  refine (bT C hg hm (by decide +kernel) call_tuple_of (h l h1) (by decide) hs).imp fun σ H Q ⟨F, I, ps, R, q⟩ => ⟨F, I, ps, R, fun ad xs H1 I1 g1 R1 s d => ?_⟩
  refine ⟨ad, xs, rfl, .inl ⟨s, fun p hp => q _ _ _ (g1.trans (R1.grow_new hp)) (R1.new hp) (.tup (.inl upd_same) (DqAll_mono (R1.grow_new (o := .tup xs) hp).same _ _ d))⟩⟩
/-- list(range(..)) -/
theorem op_catR {X : Cx} : OpR X (binaryOp .Add) (fun x y H Q => ∃ l b xs zs, x = .ref l ∧ y = .ref b ∧ Rd H l (.lst xs) ∧ Rd H b (.lst zs) ∧ xs.length + zs.length ≤ sizeLine ∧ ∀ p, H p = none → Q (.ref p) (upd H p (.lst (xs ++ zs)))) := by
  intro pins s σ H x y v u Q I rx ry h
  obtain ⟨l, b, xs, zs, e1, e2, hl, hb, hz, q⟩ := h
  subst e1 e2
  have e1 : v = .ref l := rx
  have e2 : u = .ref b := ry
  subst e1 e2
  obtain ⟨z1, its, n, r1, o1⟩ := hl.ok I.hok
  obtain ⟨z2, its2, n2, r2, o2⟩ := hb.ok I.hok
  refine PySem.P.add_list o1 o2 ?_ (by rw [List.size_toArray, List.size_toArray, ← r1.length, ← r2.length]; exact hz)
  rw [show its.toArray ++ its2.toArray = (its ++ its2).toArray by simp]
  exact ⟨.ref _, _, I.lnew (t' := s.toks) (r1.append r2) (by rw [List.length_append]; exact hz), rfl, q _ I.fresh⟩
def catG {α : Type} (l m : List α) : Option (List α) := if l.length + m.length ≤ sizeLine then some (l ++ m) else none
theorem eo_cat {oa ob : Option (List α)} (ha : ED X G a oa) (hb : ED X G b ob) : EO X G (.BinOp a .Add b pos) (bind2 catG oa ob) := fun z hz => by
  obtain ⟨l, m, h1, h2, h3⟩ := bind2_get hz
  obtain ⟨hc, h3⟩ := ite_get h3
  subst h3
  refine (pe_op op_catR (ha l h1) (hb m h2)).imp fun σ H Q ⟨F, I, ps, R, q⟩ => ⟨F, I, ps, R, fun v H1 I1 g1 R1 d1 => ⟨F, I1, ps, R1, fun w H2 I2 g2 R2 d2 => ?_⟩⟩
  have d1 := Dq_mono g2.same _ _ d1
  cases d1 with
  | lst k1 k2 =>
    cases d2 with
    | lst k3 k4 =>
      refine ⟨_, _, _, _, rfl, rfl, rd_mono R2.si k1, rd_mono R2.si k3, by rw [k2.len, k4.len, List.length_map, List.length_map]; exact hc, fun p hp => q p _ _ I2 (g1.trans g2) (R2.newOwn hp) (R2.si.free hp) (R2.sf.free hp) (fun i c => by obtain ⟨_, _, _, z⟩ := R2.own_at c; rw [hp] at z; cases z) upd_same (by rw [List.map_append]; exact k2.app k4)⟩
theorem ed_catT {oa ob : Option (Tup α)} (ha : ED X G a oa) (hb : ED X G b ob) : ED X G (.BinOp a .Add b pos) (bind2 (fun s t => lift1 Tup.mk (catG s.l t.l)) oa ob) := fun z hz => by
  obtain ⟨l, m, h1, h2, h3⟩ := bind2_get hz
  obtain ⟨y, h3, h4⟩ := lift1_get h3
  obtain ⟨hc, h3⟩ := ite_get h3
  subst h3 h4
  refine (pe_op op_catA (ha l h1) (hb m h2)).imp fun σ H Q ⟨F, I, ps, R, q⟩ => ⟨F, I, ps, R, fun v H1 I1 g1 R1 d1 => ⟨F, I1, ps, R1, fun w H2 I2 g2 R2 d2 => ?_⟩⟩
  have d1 := Dq_mono g2.same _ _ d1
  cases d1 with
  | tup k1 k2 =>
    cases d2 with
    | tup k3 k4 =>
      refine ⟨_, _, _, _, rfl, rfl, .inl (rd_mono R2.si k1), .inl (rd_mono R2.si k3), by rw [k2.len, k4.len, List.length_map, List.length_map]; exact hc, fun e => ?_, fun _ e => ?_, fun _ _ p hp => ?_⟩
      · refine q _ _ I2 (g1.trans g2) R2 (.tup k3 ?_)
        have : l.l = [] := by
          have := k2.len; rw [e, List.length_map] at this
          exact List.eq_nil_of_length_eq_zero this.symm
        rw [this]; exact k4
      · refine q _ _ I2 (g1.trans g2) R2 (.tup k1 ?_)
        have : m.l = [] := by
          have := k4.len; rw [e, List.length_map] at this
          exact List.eq_nil_of_length_eq_zero this.symm
        rw [this, List.append_nil]; exact k2
      · refine q _ _ _ (g1.trans (g2.trans (R2.grow_new hp))) (R2.new hp) (.tup (.inl upd_same) (DqAll_mono (R2.grow_new (o := .tup _) hp).same _ _ ?_))
        rw [List.map_append]; exact k2.app k4
theorem op_repR {X : Cx} : OpR X (binaryOp .Mult) (fun x y H Q => ∃ l k xs, x = .ref l ∧ y = .int k ∧ H l = some (.lst xs) ∧ -(2 ^ 63) ≤ k ∧ k < 2 ^ 63 ∧ xs.length * k.toNat ≤ sizeLine ∧ ∀ p, H p = none → Q (.ref p) (upd H p (.lst (List.replicate k.toNat xs).flatten))) := op_rep
def repG {α : Type} (l : List α) (k : Int) : Option (List α) := if (l.length ≤ 64 ∧ k ≤ 262144) ∧ -262144 ≤ k then some (List.replicate k.toNat l).flatten else none
theorem DqAll.rep {I : Hp} {xs : List V} {ds : List PyData} (h : DqAll I xs ds) : ∀ k : Nat, DqAll I (List.replicate k xs).flatten (List.replicate k ds).flatten
  | 0 => .nil
  | k + 1 => by rw [List.replicate_succ, List.replicate_succ, List.flatten_cons, List.flatten_cons]; exact h.app (DqAll.rep h k)
/-- [..] * n, of a new list -/
theorem eo_rep {oa : Option (List α)} {ob : Option Int} (ha : EO X G a oa) (hb : ED X G b ob) : EO X G (.BinOp a .Mult b pos) (bind2 repG oa ob) := fun z hz => by
  obtain ⟨l, m, h1, h2, h3⟩ := bind2_get hz
  obtain ⟨⟨⟨hc, hc2⟩, hc3⟩, h3⟩ := ite_get h3
  subst h3
  refine (pe_op op_repR (ha l h1) (hb m h2)).imp fun σ H Q ⟨F, I, ps, R, q⟩ => ⟨F, I, ps, R, fun pa xs H1 I1 g1 R1 n1 n2 n3 hH d1 => ?_⟩
  -- the new list stands for others while the number is reckoned
  have R1' : RS X.K (upd F pa (.lst xs)) G σ H1 I1 ps := R1.frame (fun b o z => by
    by_cases c : b = pa
    · subst c; rw [upd_same] at z; cases z; exact hH
    · rw [upd_ne c] at z; exact R1.sf _ _ z) fun i a ha => by rw [upd_ne (fun c : a = pa => n3 i (by rw [← c]; exact ha))]; exact R1.fo i a ha
  have sF : Same F (upd F pa (.lst xs)) := same_upd n2
  refine ⟨upd F pa (.lst xs), I1, ps, R1', fun w H2 I2 g2 R2 d2 => ?_⟩
  cases d2
  have hH2 : H2 pa = some (.lst xs) := R2.sf _ _ upd_same
  have g2' : Grow F I1 I2 := ⟨g2.same, fun a h => (g2.out a h).imp_right sF.free⟩
  have R2' : RS X.K F G σ H2 I2 ps := R2.frame (sF.trans R2.sf) R1.fo
  have lx : xs.length = l.length := by rw [d1.len, List.length_map]
  refine ⟨pa, m, xs, rfl, rfl, hH2, by omega, by omega, ?_, fun p hp => q p _ _ I2 (g1.trans g2') (R2'.newOwn hp) (R2'.si.free hp) (R2'.sf.free hp) (fun i c => by obtain ⟨_, _, _, z⟩ := R2'.own_at c; rw [hp] at z; cases z) upd_same ?_⟩
  · have e1 : xs.length * m.toNat ≤ 64 * 262144 := Nat.mul_le_mul (by omega) (by omega)
    rw [sizeLine_eq]; omega
  · have := (DqAll_mono g2.same _ _ d1).rep m.toNat
    rw [show (List.replicate m.toNat (l.map enc)).flatten = ((List.replicate m.toNat l).flatten).map enc by rw [List.map_flatten, List.map_replicate]] at this
    exact this
end
end Lay

set_option Elab.async false
set_option linter.all false
set_option maxRecDepth 100000
/-! LayZ: zip of two lists, two tuples, or one of both, over the library's iterators of any kind (KE.GoesZip). -/
namespace Lay
open PySem PySem.Spec PyProof.Rows L2
open Lay.Enc (enc)

/-- true: a tuple, false: a list -/
def SqB (K : PySem.W.Frag) (b : Bool) (H : Hp) (a : Addr) (xs : List V) : Prop := match b with
  | true => SqT K H a xs
  | false => SqL K H a xs
def IterB (b : Bool) (h : Heap) (it l : Addr) (i : Nat) : Prop := match b with
  | true => h.IsTupleIter it l i
  | false => h.IsListIter it l i
def ObjB (b : Bool) (h : Heap) (l : Addr) (its : Array Value) : Prop := match b with
  | true => h.IsTuple l its
  | false => h.IsList l its
theorem IterB.at {b : Bool} {h h' : Heap} {it l : Addr} {i : Nat} (x : IterB b h it l i) (e : ∀ o, h.get? it = some o → h'.get? it = some o) : IterB b h' it l i := by
  cases b with
  | true => exact Heap.IsTupleIter.at x e
  | false => exact Heap.IsListIter.at x e
theorem IterB.obj {b : Bool} {h : Heap} {it l : Addr} {i : Nat} (x : IterB b h it l i) : ∃ o, h.get? it = some o ∧ ∀ v, o.data ≠ .cell v := by
  cases b with
  | true => obtain ⟨o, e, _, d⟩ := x; exact ⟨o, e, fun v z => by rw [d] at z; cases z⟩
  | false => obtain ⟨o, e, _, d⟩ := x; exact ⟨o, e, fun v z => by rw [d] at z; cases z⟩
theorem draws_b {prog : Program} {w : World} {A : Around} (hh : A.handled = none) (b : Bool) (it l : Addr) (ne : l ≠ it) (its : Array Value) :
    Draws prog w A it [it, l] its.size (fun i v => its[i]? = some v) (fun i h => IterB b h it l i ∧ ObjB b h l its) := by
  cases b with
  | true => exact Draws.tuple hh it l ne its
  | false => exact Draws.list hh it l ne its
section
variable {X : Cx} {pins : List (Addr × Obj)} {σ : L2.St} {H : Hp} {s : Shared} {a : Addr} {xs ys : List V} {b : Bool}
theorem sqB_items (I : Inv X pins σ H s) (h : SqB X.K b H a xs) : ∃ its : List Value, Vals xs its ∧ ObjB b s.heap a its.toArray := by
  cases b with
  | true => obtain ⟨its, r, p, _⟩ := I.tuple h; exact ⟨its, r, p⟩
  | false => obtain ⟨its, r, p, _⟩ := I.list h; exact ⟨its, r, p.isList⟩
theorem sqB_inj (I : Inv X pins σ H s) (h : SqB X.K b H a xs) (h' : SqB X.K b H a ys) : xs = ys := by
  cases b with
  | true => exact I.tuple_inj h h'
  | false => exact I.list_inj h h'
theorem objB_lt {h : Heap} {l : Addr} {its : Array Value} (x : ObjB b h l its) : l < h.objs.size := by
  cases b with
  | true => obtain ⟨o, e, _⟩ := x; exact Heap.lt_size e
  | false => obtain ⟨o, e, _⟩ := x; exact Heap.lt_size e
end
/-- the two at a and at c as they stand, item by item, in new pairs -/
def ItzB (K : PySem.W.Frag) (ba bc : Bool) (a c : Addr) : It where
  go i H := ∃ (xs ys : List V) (x y : V), SqB K ba H a xs ∧ SqB K bc H c ys ∧ xs[i]? = some x ∧ ys[i]? = some y
  yld i H v H' := ∃ T x y, v = .ref T ∧ H T = none ∧ H' = upd H T (.tup [x, y]) ∧ (∀ xs, SqB K ba H a xs → xs[i]? = some x) ∧ ∀ ys, SqB K bc H c ys → ys[i]? = some y
  stop i H := ∃ xs ys : List V, SqB K ba H a xs ∧ SqB K bc H c ys ∧ i ≤ xs.length ∧ i ≤ ys.length ∧ (i = xs.length ∨ i = ys.length)
/-- the five objects of a zip that was made at n -/
abbrev zipFp (n : Nat) : List Addr := [n + 4, n + 2, n + 3, n, n + 1]
def zipSt (n : Nat) (ba bc : Bool) (a c : Addr) (i : Nat) (h : Heap) : Prop :=
  IsZip h (n + 4) (n + 2) (n + 3) .none ∧ IsTupOf2 h (n + 2) (.ref n) (.ref (n + 1)) ∧ (∃ u v, IsTupOf2 h (n + 3) u v) ∧ IterB ba h n a i ∧ IterB bc h (n + 1) c i
theorem turn_zipB {P : Program} {w : World} {K : PySem.W.Frag} {es : List Expr} {kk : Nat} {tp : Pos} {ba bc : Bool} {a c n : Addr} (ha : a < n) (hc : c < n) :
    Turn P w K (.Tuple es kk tp) (ItzB K ba bc a c) (zipFp n) (n + 4) (zipSt n ba bc a c) := by
  have sep : ZipSep2 (n + 4) (n + 2) (n + 3) n (n + 1) [n, a] [n + 1, c] := zip_sep2 (N := n) (fp1 := [a]) (fp2 := [c]) (fun b h => by rw [List.mem_singleton.mp h]; exact ha) (fun b h => by rw [List.mem_singleton.mp h]; exact hc)
  have five : ∀ {b : Addr}, b ∈ zipFp n → b = n + 4 ∨ b = n + 2 ∨ b = n + 3 ∨ b = n ∨ b = n + 1 := fun h => by simpa [zipFp] using h
  refine { mem := by simp [zipFp], obj := ?_, keep := ?_, item := ?_, done := ?_, self := ?_ }
  · rintro i h ⟨z1, z2, ⟨u, v, z3⟩, z4, z5⟩ b hb
    rcases five hb with e | e | e | e | e <;> subst e
    · exact ⟨_, z1, fun _ z => nomatch z⟩
    · exact ⟨_, z2, fun _ z => nomatch z⟩
    · exact ⟨_, z3, fun _ z => nomatch z⟩
    · exact z4.obj
    · exact z5.obj
  · rintro i h h' ⟨z1, z2, ⟨u, v, z3⟩, z4, z5⟩ kp
    exact ⟨kp _ (by simp [zipFp]) _ z1, kp _ (by simp [zipFp]) _ z2, ⟨u, v, kp _ (by simp [zipFp]) _ z3⟩, z4.at (kp _ (by simp [zipFp])), z5.at (kp _ (by simp [zipFp]))⟩
  · intro X e1 e2 e3 calm i pins s σ H E I hf st hg
    subst e1 e2 e3
    obtain ⟨z1, z2, ⟨u, v, z3⟩, z4, z5⟩ := st
    obtain ⟨xs, ys, x, y, qa, qc, hx, hy⟩ := hg
    obtain ⟨ia, ra, pa⟩ := sqB_items I qa
    obtain ⟨ic, rc, pc⟩ := sqB_items I qc
    have hd : X.A.in1.handled = none := I.ok.hd calm
    have la : i < ia.toArray.size := by rw [List.size_toArray, ← ra.length]; exact (List.getElem?_eq_some_iff.mp hx).1
    have lc : i < ic.toArray.size := by rw [List.size_toArray, ← rc.length]; exact (List.getElem?_eq_some_iff.mp hy).1
    refine wpAny_pyNext_zipD2_item sep (draws_b hd ba n a (Nat.ne_of_lt ha) ia.toArray) (draws_b hd bc (n + 1) c (Nat.ne_of_lt (Nat.lt_succ_of_lt hc)) ic.toArray) z1 z2 z3 ⟨z4, pa⟩ ⟨z5, pc⟩ la lc
      fun u1 u2 h1 tk p1 p2 y1 y2 y4 y5 hT hsz kp => ?_
    have zlt : n + 4 < s.heap.objs.size := Heap.lt_size z1
    refine ⟨_, rfl, wpAny_letOwnedTupleGo_zip (s := { s with heap := h1, toks := tk }) y1 fun h2 y1' sb => ?_⟩
    -- the new pair
    obtain ⟨w1, hw1, r1⟩ := ra.get hx
    obtain ⟨w2, hw2, r2⟩ := rc.get hy
    have q1 : u1 = w1 := by
      have := p1; simp only [List.getElem?_toArray] at this; rw [hw1] at this; exact (Option.some.inj this).symm
    have q2 : u2 = w2 := by
      have := p2; simp only [List.getElem?_toArray] at this; rw [hw2] at this; exact (Option.some.inj this).symm
    subst q1 q2
    have hT2 : h2.get? s.heap.objs.size = some { cls := .type "tuple", data := .seq #[u1, u2] } := (sb.2 _ (Nat.ne_of_gt zlt)).trans hT
    have ok : ObjOk X.prog X.w (upd H s.heap.objs.size (.tup [x, y])) h2 s.heap.objs.size (.tup [x, y]) := ⟨small_line (by show 2 ≤ 8; decide), [u1, u2], .cons r1 (.cons r2 .nil), ⟨_, hT2, rfl, _, rfl⟩⟩
    have kp2 : ∀ b o, b ∉ zipFp n → s.heap.get? b = some o → h2.get? b = some o := fun b o hb e => by
      simp only [zipFp, List.mem_cons, List.not_mem_nil, or_false, not_or] at hb
      exact (sb.2 b hb.1).trans (kp b o hb.1 hb.2.2.1 hb.2.2.2.1 hb.2.2.2.2 e)
    have I1 : Inv X pins σ (upd H s.heap.objs.size (.tup [x, y])) { s with heap := h2, toks := tk } := I.turnedNew (t' := tk) (ch := zipFp n) kp2 hf (Nat.le_refl _) ok
    refine ⟨.ref s.heap.objs.size, _, I1, rfl, ⟨_, x, y, rfl, I.hok.fresh (Nat.le_refl _), rfl, fun l hl => ?_, fun l hl => ?_⟩, ⟨y1', ?_, ⟨u1, u2, ?_⟩, ?_, ?_⟩, fun b hb => ?_⟩
    · rw [sqB_inj I hl qa]; exact hx
    · rw [sqB_inj I hl qc]; exact hy
    · exact (sb.2 _ sep.TIz).trans (kp _ _ sep.TIz sep.TITO sep.TIi1 sep.TIi2 z2)
    · exact (sb.2 _ sep.TOz).trans y2
    · exact y4.1.at fun o e => (sb.2 _ sep.zi1.symm).trans e
    · exact y5.1.at fun o e => (sb.2 _ sep.zi2.symm).trans e
    · have lt : b < s.heap.objs.size := by
        rcases five hb with e | e | e | e | e <;> subst e
        · exact zlt
        · exact Heap.lt_size z2
        · exact Heap.lt_size z3
        · obtain ⟨o, e, _⟩ := z4.obj; exact Heap.lt_size e
        · obtain ⟨o, e, _⟩ := z5.obj; exact Heap.lt_size e
      rw [upd_ne (Nat.ne_of_lt lt)]
      exact (hf b hb).1
  · intro X e1 e2 e3 calm i pins s σ H E I hf st hg
    subst e1 e2 e3
    obtain ⟨z1, z2, ⟨u, v, z3⟩, z4, z5⟩ := st
    obtain ⟨xs, ys, qa, qc, l1, l2, hend⟩ := hg
    obtain ⟨ia, ra, pa⟩ := sqB_items I qa
    obtain ⟨ic, rc, pc⟩ := sqB_items I qc
    have hd : X.A.in1.handled = none := I.ok.hd calm
    have ea : ia.toArray.size = xs.length := by rw [List.size_toArray, ra.length]
    have ec : ic.toArray.size = ys.length := by rw [List.size_toArray, rc.length]
    refine wpAny_pyNext_zipD2_end sep (draws_b hd ba n a (Nat.ne_of_lt ha) ia.toArray) (draws_b hd bc (n + 1) c (Nat.ne_of_lt (Nat.lt_succ_of_lt hc)) ic.toArray) z1 z2 z3 ⟨z4, pa⟩ ⟨z5, pc⟩ (by omega) (by omega) (by rw [ea, ec]; exact hend)
      fun h1 tk kp => ⟨rfl, I.turnedL (t' := tk) (ch := zipFp n) (fun b o hb e => ?_) hf⟩
    simp only [zipFp, List.mem_cons, List.not_mem_nil, or_false, not_or] at hb
    exact kp b o hb.1 hb.2.2.1 hb.2.2.2.1 hb.2.2.2.2 e
  · exact fun A i s Q E st h => wpAny_pyIter_zip st.1 h

theorem begins_b (b : Bool) (l : Addr) (its : Array Value) : ∃ o, Begins (.ref l) o (fun h => ObjB b h l its) ∧ ∀ (h : Heap) (it : Addr), h.get? it = some o → IterB b h it l 0 := by
  cases b with
  | true => exact ⟨_, begins_tuple l its, fun h it e => ⟨_, e, rfl, rfl⟩⟩
  | false => exact ⟨_, begins_list l its, fun h it e => ⟨_, e, rfl, rfl⟩⟩
def iZipB (K : PySem.W.Frag) (ba bc : Bool) (ta : TA) : TI := fun σ H R => ta σ H fun vs H1 => ∃ a c xs ys, vs = [.ref a, .ref c] ∧ SqB K ba H1 a xs ∧ SqB K bc H1 c ys ∧ R (ItzB K ba bc a c) H1
theorem pi_zipB {X : Cx} {e e2 : Expr} {ta : TA} {p pos tp : Pos} {es : List Expr} {kk : Nat} (ba bc : Bool) (gl : Gl X "zip") (hm : X.mg "zip" = none) (hA : PA X [e, e2] ta)
    (s1 : starEach [e, e2] X.env = (false, eval e X.env) :: starEach [e2] X.env) (s2 : (backTo pos (starEach [e2] X.env)).any (·.1) = false) : PI X (.Tuple es kk tp) (.Call (.Name "zip" p) [e, e2] [] pos) (iZipB X.K ba bc ta) := ⟨fun pins s σ H R I h => by
  refine Call_ (ld_blt I gl hm PyProof.Rows.boot_zip (PyProof.Rows.callWith_type1 (thn (hA.run pos pins s σ H _ I h) fun us st q => ?_) s1 s2))
  obtain ⟨vs, H1, I1, rv, a, c, xs, ys, ev, qa, qc, q⟩ := q
  subst ev
  obtain ⟨u1, u2, eu, r1, r2⟩ := Vals.two rv
  subst eu
  have r1 : u1 = .ref a := r1
  have r2 : u2 = .ref c := r2
  subst r1 r2
  obtain ⟨ia, ra, pa⟩ := sqB_items I1 qa
  obtain ⟨ic, rc, pc⟩ := sqB_items I1 qc
  obtain ⟨o1, B1, w1⟩ := begins_b ba a ia.toArray
  obtain ⟨o2, B2, w2⟩ := begins_b bc c ic.toArray
  refine zip_begins2 B1 B2 pa pc fun h' z1 z2 z3 z4 z5 hz kp => wpAny_pyIter_zip z1 ?_
  exact ⟨_, zipFp st.heap.objs.size, _, _, H1, rfl, I1.kept (t' := st.toks) kp, turn_zipB (objB_lt pa) (objB_lt pc), ⟨z1, z2, ⟨_, _, z3⟩, w1 _ _ z4, w2 _ _ z5⟩, fun b hb => by
    have le : st.heap.objs.size ≤ b := by
      simp only [zipFp, List.mem_cons, List.not_mem_nil, or_false] at hb
      rcases hb with e | e | e | e | e <;> (rw [e]; first | exact Nat.le_refl _ | exact Nat.le_add_right _ _)
    exact I1.fpOk le (I1.hok.fresh le), q⟩⟩

/-! ### over data -/
/-- a list or a tuple of data -/
class SeqD (σ : Type) (α : outParam Type) [Enc α] [Enc σ] where
  kd : Bool
  ls : σ → List α
  ok : ∀ x, enc x = if kd then PyData.tuple ((ls x).map enc) else PyData.list ((ls x).map enc)
instance {α : Type} [Enc α] : SeqD (List α) α := ⟨false, id, fun _ => rfl⟩
instance {α : Type} [Enc α] : SeqD (Tup α) α := ⟨true, Tup.l, fun _ => rfl⟩
theorem SeqD.sq {σ α : Type} [Enc α] [Enc σ] [S : SeqD σ α] {K : PySem.W.Frag} {H : Hp} {v : V} {x : σ} (d : Dq H v (enc x)) : ∃ a xs, v = .ref a ∧ (∀ H', Same H H' → SqB K S.kd H' a xs) ∧ DqAll H xs ((S.ls x).map enc) := by
  rw [S.ok x] at d
  cases h : S.kd with
  | true =>
    rw [h, if_pos rfl] at d
    cases d with | tup k1 k2 => exact ⟨_, _, rfl, fun H' s => .inl (rd_mono s k1), k2⟩
  | false =>
    rw [h, if_neg (by decide)] at d
    cases d with | lst k1 k2 => exact ⟨_, _, rfl, fun H' s => .inl (rd_mono s k1), k2⟩
theorem it_zipS {X : Cx} {G : List Sl} {σ τ α β : Type} [Enc α] [Enc β] [Enc σ] [Enc τ] [S : SeqD σ α] [T : SeqD τ β] {e e2 : Expr} {N : List Str} {sc : Scope} {fs : Option Scope} {k : Nat} {p pos tpos : Pos} {elts : List Expr} {kk : Nat} {o : Option σ} {o2 : Option τ}
    (C : Ctx X N sc fs k) (hg : glbB sc "zip" = true) (hm : X.mg "zip" = none) (h : ED X G e o) (h' : ED X G e2 o2)
    (hs : starEach [e, e2] X.env = (false, eval e X.env) :: starEach [e2] X.env := by rfl) (hs2 : starEach [e2] X.env = [(false, eval e2 X.env)] := by rfl) (hpl : (backTo pos (starEach [e2] X.env)).any (·.1) = false := by rfl) :
    IT X G (.Tuple elts kk tpos) (.Call (.Name "zip" p) [e, e2] [] pos) (lift2 (fun x y => zipL (S.ls x) (T.ls y)) o o2) := fun l hl => by
  obtain ⟨t, u, h1, h2, h3⟩ := lift2_get hl
  subst h3
  have pa : PA X [e, e2] (tA X.K G [enc t, enc u]) := ad_cons h (ad_cons h' ad_nil hs2) hs _ (by rw [h1, h2]; rfl)
  refine (pi_len (pi_zipB S.kd T.kd (glbB_gl C.s hg).1 hm pa hs hpl) fun σ H R R' w ⟨F, I, ps, r, q⟩ => ⟨F, I, ps, r, fun v H' I' g r' d => by obtain ⟨a, b, xs, ys, e, z1, z2, q⟩ := q v H' I' g r' d; exact ⟨a, b, xs, ys, e, z1, z2, w _ _ q⟩⟩).imp
    fun σ H R ⟨F, I, ps, r, q⟩ => ⟨F, I, ps, r, fun vs H' I' g r' d => ?_⟩
  cases d with
  | cons d1 d2 =>
    cases d2 with
    | cons d2 d3 =>
      cases d3
      obtain ⟨a1, xs, e1, k1, k2⟩ := SeqD.sq (K := X.K) d1
      obtain ⟨a2, ys, e2, k3, k4⟩ := SeqD.sq (K := X.K) d2
      subst e1 e2
      have lx : xs.length = (S.ls t).length := by rw [k2.len, List.length_map]
      have ly : ys.length = (T.ls u).length := by rw [k4.len, List.length_map]
      have ln : (zipL (S.ls t) (T.ls u)).length = min (S.ls t).length (T.ls u).length := by unfold zipL; rw [List.length_zipWith]
      refine ⟨_, _, _, _, rfl, k1 _ r'.si, k3 _ r'.si, fun lo => q _ _ I' g r' ⟨fun i d H s hd => ?_, fun H s => ?_⟩ ?_⟩
      · have hi : i < min (S.ls t).length (T.ls u).length := by
          have := (List.getElem?_eq_some_iff.mp hd).1
          rw [List.length_map, ln] at this; exact this
        have hx : (S.ls t)[i]? = some ((S.ls t)[i]'(by omega)) := List.getElem?_eq_getElem (by omega)
        have hy : (T.ls u)[i]? = some ((T.ls u)[i]'(by omega)) := List.getElem?_eq_getElem (by omega)
        unfold zipL at hd
        rw [List.getElem?_map, List.getElem?_zipWith, hx, hy] at hd
        have hd := Option.some.inj hd
        subst hd
        obtain ⟨v, hv, dv⟩ := k2.at (show ((S.ls t).map enc)[i]? = some (enc ((S.ls t)[i]'(by omega))) by rw [List.getElem?_map, hx]; rfl)
        obtain ⟨w, hw, dw⟩ := k4.at (show ((T.ls u).map enc)[i]? = some (enc ((T.ls u)[i]'(by omega))) by rw [List.getElem?_map, hy]; rfl)
        refine ⟨⟨_, _, v, w, k1 _ s, k3 _ s, hv, hw⟩, fun x H' y => ?_⟩
        obtain ⟨T, z, z', e1, e2, e3, e4, e5⟩ := y
        have e4 := e4 _ (k1 _ s)
        have e5 := e5 _ (k3 _ s)
        rw [hv] at e4; cases e4
        rw [hw] at e5; cases e5
        subst e1
        have m := same_upd (o := HO.tup [v, w]) (s.free e2)
        exact .inr ⟨T, _, e2, e3, .tup (.inl upd_same) (.cons (Dq_mono m _ _ dv) (.cons (Dq_mono m _ _ dw) .nil))⟩
      · rw [List.length_map, ln]
        exact ⟨_, _, k1 _ s, k3 _ s, by omega, by omega, by omega⟩
      · rw [List.length_map, ln]
        have : xs.length ≤ sizeLine := by
          have := k1 _ r'.si
          cases hk : S.kd with
          | true => rw [hk] at this; exact (lo _ _).2 this
          | false => rw [hk] at this; exact (lo _ _).1 this
        omega
end Lay

set_option Elab.async false
set_option linter.all false
set_option maxRecDepth 100000
/-! Lay8: equality, in, repr, stores to own lists, list(range), gcd, raise. -/
namespace Lay
open PySem PySem.Spec PyProof.Rows L2
open Lay.Enc (enc)

/-! ### data of bounded depth that == and repr read -/
class Sh (α : Type) [Enc α] where
  dp : Nat
  lay : ∀ x : α, (enc x).canLay0 = true
  dep : ∀ x : α, (enc x).depth ≤ dp
instance : Sh Int := ⟨0, fun _ => rfl, fun _ => Nat.le_refl _⟩
instance : Sh Bool := ⟨0, fun _ => rfl, fun _ => Nat.le_refl _⟩
instance : Sh Unit := ⟨0, fun _ => rfl, fun _ => Nat.le_refl _⟩
theorem layAll {α : Type} [Enc α] [S : Sh α] : ∀ l : List α, PyData.canLayAll0 (l.map enc) = true
  | [] => rfl
  | x :: xs => by
    show (PyData.canLay0 (enc x) && PyData.canLayAll0 (xs.map enc)) = true
    rw [S.lay x, layAll xs]; rfl
theorem depAll {α : Type} [Enc α] [S : Sh α] : ∀ l : List α, PyData.depthAll (l.map enc) ≤ S.dp
  | [] => Nat.zero_le _
  | x :: xs => by
    show max (PyData.depth (enc x)) (PyData.depthAll (xs.map enc)) ≤ _
    have h1 := S.dep x
    have h2 := depAll xs
    omega
instance {α : Type} [Enc α] [S : Sh α] : Sh (List α) := ⟨S.dp + 1, fun l => layAll l, fun l => Nat.succ_le_succ (depAll l)⟩
instance {α : Type} [Enc α] [S : Sh α] : Sh (Tup α) := ⟨S.dp + 1, fun t => layAll t.l, fun t => Nat.succ_le_succ (depAll t.l)⟩
instance {α : Type} [Enc α] [S : Sh α] : Sh (Option α) := ⟨S.dp, fun o => by cases o with | none => rfl | some x => exact S.lay x, fun o => by cases o with | none => exact Nat.zero_le _ | some x => exact S.dep x⟩
instance {α β : Type} [Enc α] [Enc β] [S : Sh α] [T : Sh β] : Sh (T2 α β) := ⟨max S.dp T.dp + 1, fun t => by
  show (PyData.canLay0 (enc t.a) && (PyData.canLay0 (enc t.b) && true)) = true
  rw [S.lay, T.lay]; rfl, fun t => by
  show max (PyData.depth (enc t.a)) (max (PyData.depth (enc t.b)) 0) + 1 ≤ _
  have := S.dep t.a; have := T.dep t.b; omega⟩
instance {α β γ : Type} [Enc α] [Enc β] [Enc γ] [S : Sh α] [T : Sh β] [U : Sh γ] : Sh (T3 α β γ) := ⟨max S.dp (max T.dp U.dp) + 1, fun t => by
  show (PyData.canLay0 (enc t.a) && (PyData.canLay0 (enc t.b) && (PyData.canLay0 (enc t.c) && true))) = true
  rw [S.lay, T.lay, U.lay]; rfl, fun t => by
  show max (PyData.depth (enc t.a)) (max (PyData.depth (enc t.b)) (max (PyData.depth (enc t.c)) 0)) + 1 ≤ _
  have := S.dep t.a; have := T.dep t.b; have := U.dep t.c; omega⟩
instance {α β γ δ : Type} [Enc α] [Enc β] [Enc γ] [Enc δ] [S : Sh α] [T : Sh β] [U : Sh γ] [W : Sh δ] : Sh (T4 α β γ δ) := ⟨max S.dp (max T.dp (max U.dp W.dp)) + 1, fun t => by
  show (PyData.canLay0 (enc t.a) && (PyData.canLay0 (enc t.b) && (PyData.canLay0 (enc t.c) && (PyData.canLay0 (enc t.d) && true)))) = true
  rw [S.lay, T.lay, U.lay, W.lay]; rfl, fun t => by
  show max (PyData.depth (enc t.a)) (max (PyData.depth (enc t.b)) (max (PyData.depth (enc t.c)) (max (PyData.depth (enc t.d)) 0))) + 1 ≤ _
  have := S.dep t.a; have := T.dep t.b; have := U.dep t.c; have := W.dep t.d; omega⟩
/-- == on data is equality -/
class EqL (α : Type) [Enc α] [DecidableEq α] : Prop where
  eqv : ∀ x y : α, PyData.eqv (enc x) (enc y) = decide (x = y)
instance : EqL Int := ⟨fun x y => by show (x == y) = _; by_cases h : x = y <;> simp [h]⟩
instance : EqL Bool := ⟨fun x y => by cases x <;> cases y <;> rfl⟩
instance : EqL Unit := ⟨fun x y => rfl⟩
theorem eqvAll_eq {α : Type} [Enc α] [DecidableEq α] [S : EqL α] : ∀ l m : List α, PyData.eqvAll (l.map enc) (m.map enc) = decide (l = m)
  | [], [] => rfl
  | [], y :: ys => rfl
  | x :: xs, [] => rfl
  | x :: xs, y :: ys => by
    show (PyData.eqv (enc x) (enc y) && PyData.eqvAll (xs.map enc) (ys.map enc)) = _
    rw [S.eqv, eqvAll_eq xs ys]
    by_cases h1 : x = y <;> by_cases h2 : xs = ys <;> simp [h1, h2]
instance {α : Type} [Enc α] [DecidableEq α] [EqL α] : EqL (List α) := ⟨fun l m => eqvAll_eq l m⟩
instance {α : Type} [Enc α] [DecidableEq α] [EqL α] : EqL (Tup α) := ⟨fun ⟨l⟩ ⟨m⟩ => by
  show PyData.eqvAll (l.map enc) (m.map enc) = _
  rw [eqvAll_eq]; simp⟩
theorem eqv_none {d : PyData} (h : d ≠ .none) : PyData.eqv .none d = false ∧ PyData.eqv d .none = false := by
  cases d <;> first | exact absurd rfl h | exact ⟨rfl, rfl⟩
instance {α : Type} [Enc α] [DecidableEq α] [S : EqL α] [N : NonNone α] : EqL (Option α) := ⟨fun x y => by
  cases x with
  | none => cases y with
    | none => rfl
    | some y => exact (eqv_none (N.ne y)).1
  | some x => cases y with
    | none => exact (eqv_none (N.ne x)).2
    | some y => show PyData.eqv (enc x) (enc y) = _; rw [S.eqv]; simp⟩
instance {α β : Type} [Enc α] [Enc β] [DecidableEq α] [DecidableEq β] [S : EqL α] [T : EqL β] : EqL (T2 α β) := ⟨fun ⟨a, b⟩ ⟨c, d⟩ => by
  show (PyData.eqv (enc a) (enc c) && (PyData.eqv (enc b) (enc d) && true)) = _
  rw [S.eqv, T.eqv]; by_cases h1 : a = c <;> by_cases h2 : b = d <;> simp [h1, h2]⟩
instance {α β γ : Type} [Enc α] [Enc β] [Enc γ] [DecidableEq α] [DecidableEq β] [DecidableEq γ] [S : EqL α] [T : EqL β] [U : EqL γ] : EqL (T3 α β γ) := ⟨fun ⟨a, b, c⟩ ⟨d, e, f⟩ => by
  show (PyData.eqv (enc a) (enc d) && (PyData.eqv (enc b) (enc e) && (PyData.eqv (enc c) (enc f) && true))) = _
  rw [S.eqv, T.eqv, U.eqv]; by_cases h1 : a = d <;> by_cases h2 : b = e <;> by_cases h3 : c = f <;> simp [h1, h2, h3]⟩
instance {α β γ δ : Type} [Enc α] [Enc β] [Enc γ] [Enc δ] [DecidableEq α] [DecidableEq β] [DecidableEq γ] [DecidableEq δ] [S : EqL α] [T : EqL β] [U : EqL γ] [W : EqL δ] : EqL (T4 α β γ δ) := ⟨fun ⟨a, b, c, x⟩ ⟨d, e, f, y⟩ => by
  show (PyData.eqv (enc a) (enc d) && (PyData.eqv (enc b) (enc e) && (PyData.eqv (enc c) (enc f) && (PyData.eqv (enc x) (enc y) && true)))) = _
  rw [S.eqv, T.eqv, U.eqv, W.eqv]; by_cases h1 : a = d <;> by_cases h2 : b = e <;> by_cases h3 : c = f <;> by_cases h4 : x = y <;> simp [h1, h2, h3, h4]⟩
theorem shaped_of {α : Type} [Enc α] [S : Sh α] (h : S.dp ≤ 60) (x : α) : SeqAt.shaped (enc x) = true := by
  unfold SeqAt.shaped
  have h2 : PyData.depth (enc x) ≤ 64 := Nat.le_trans (Nat.le_trans (S.dep x) h) (by decide)
  rw [S.lay x, decide_eq_true h2]; rfl

section
variable {X : Cx} {G : List Sl} {α β : Type} [Enc α] [Enc β] {a b e : Expr} {pos p : Pos} {N : List Str} {sc : Scope} {fs : Option Scope} {k : Nat}
theorem ec_eqD [DecidableEq α] [EqL α] [S : Sh α] {oa ob : Option α} (C : Ctx X N sc fs k) (ha : ED X G a oa) (hb : ED X G b ob) (hd : S.dp ≤ 60 := by decide) : EC X G .Eq a b (lift2 (fun x y => decide (x = y)) oa ob) :=
  ec_of (op_eqD C.rm.units) (fun x y F G σ H I ps v w Q R dv dw q => ⟨_, _, Dq_dp _ _ (Dq_mono R.si _ _ dv), Dq_dp _ _ (Dq_mono R.si _ _ dw), shaped_of hd x, shaped_of hd y, by rw [EqL.eqv]; exact q _ _ _ Grow.refl R (.bl _)⟩) (nomark _) ha hb
theorem ec_neD [DecidableEq α] [EqL α] [S : Sh α] {oa ob : Option α} (C : Ctx X N sc fs k) (ha : ED X G a oa) (hb : ED X G b ob) (hd : S.dp ≤ 60 := by decide) : EC X G .NotEq a b (lift2 (fun x y => !decide (x = y)) oa ob) :=
  ec_of (op_neD C.rm.units) (fun x y F G σ H I ps v w Q R dv dw q => ⟨_, _, Dq_dp _ _ (Dq_mono R.si _ _ dv), Dq_dp _ _ (Dq_mono R.si _ _ dw), shaped_of hd x, shaped_of hd y, by rw [EqL.eqv]; exact q _ _ _ Grow.refl R (.bl _)⟩) (nomark _) ha hb
theorem DqAll_toDp {K : PySem.W.Frag} {H I : Hp} {xs : List V} {ds : List PyData} (s : Same I H) (h : DqAll I xs ds) : DpAll K H xs ds := DqAll_dp _ _ (DqAll_mono s _ _ h)
theorem any_mem [DecidableEq α] [EqL α] (l : List α) (x : α) : ((l.map enc).any fun z => PyData.eqv z (enc x)) = decide (x ∈ l) := by
  induction l with
  | nil => simp
  | cons y ys ih =>
    rw [List.map_cons, List.any_cons, ih, EqL.eqv]
    by_cases h1 : y = x
    · simp [h1]
    · have h2 : ¬ x = y := fun h => h1 h.symm
      simp [h1, h2]
theorem tOp_in {K : PySem.W.Frag} {r : R2} {d : PyData} {ds : List PyData} {c : Bool} (h : ∀ (F : Hp) (G : List Sl) (σ : L2.St) (H I : Hp) (ps : Nat → Option Addr) (v : V) (ad : Addr) (xs : List V) (Q : VK), RS K F G σ H I ps → Dq I v d → SqL K H ad xs → DqAll I xs ds → Q (.bl c) H → r v (.ref ad) H Q)
    (σ : L2.St) (H : Hp) (Q : VK) (t : tD K G (.bool c) σ H Q) : tOp r (tD K G d) (tR K G ds) σ H Q := by
  obtain ⟨F, I, ps, R, q⟩ := t
  exact ⟨F, I, ps, R, fun v H1 I1 g1 R1 dv => ⟨F, I1, ps, R1, fun ad xs H2 I2 g2 R2 s dx => h F G σ H2 I2 ps v ad xs Q R2 (Dq_mono g2.same _ _ dv) s dx (q _ _ _ (g1.trans g2) R2 (.bl _))⟩⟩
theorem ec_in [DecidableEq α] [EqL α] [S : Sh α] {oa : Option α} {ob : Option (List α)} (C : Ctx X N sc fs k) (ha : ED X G a oa) (hb : ER X G b ob) (hm : behindInMarks .In b = false := by rfl) (hd : S.dp ≤ 59 := by decide) : EC X G .In a b (lift2 (fun x l => decide (x ∈ l)) oa ob) := fun c hc => by
  obtain ⟨x, l, h1, h2, h3⟩ := lift2_get hc
  subst h3
  refine ⟨_, _, _, op_inD (by have := C.rm.un; omega), ha x h1, hb l h2, hm, tOp_in fun F G σ H I ps v ad xs Q R dv s dx q => ?_⟩
  refine ⟨_, _, Dq_dp _ _ (Dq_mono R.si _ _ dv), .lst s (DqAll_toDp R.si dx), shaped_of (Nat.le_trans hd (by decide)) x, shaped_of (α := List α) (Nat.succ_le_succ hd) l, ?_⟩
  rw [any_mem]; exact q
theorem ec_notIn [DecidableEq α] [EqL α] [S : Sh α] {oa : Option α} {ob : Option (List α)} (C : Ctx X N sc fs k) (ha : ED X G a oa) (hb : ER X G b ob) (hm : behindInMarks .NotIn b = false := by rfl) (hd : S.dp ≤ 59 := by decide) : EC X G .NotIn a b (lift2 (fun x l => !decide (x ∈ l)) oa ob) := fun c hc => by
  obtain ⟨x, l, h1, h2, h3⟩ := lift2_get hc
  subst h3
  refine ⟨_, _, _, op_notInD (by have := C.rm.un; omega), ha x h1, hb l h2, hm, tOp_in fun F G σ H I ps v ad xs Q R dv s dx q => ?_⟩
  refine ⟨_, _, Dq_dp _ _ (Dq_mono R.si _ _ dv), .lst s (DqAll_toDp R.si dx), shaped_of (Nat.le_trans hd (by decide)) x, shaped_of (α := List α) (Nat.succ_le_succ hd) l, ?_⟩
  rw [any_mem]; exact q

/-! ### repr -/
def reprD (d : PyData) : Option Str := if d.showable = true ∧ d.shown.length ≤ sizeLine then some d.shown else none
theorem cr_repr (C : Ctx X N sc fs k) : CallR X (.builtin "repr") (fun vs H Q => ∃ v d, vs = [v] ∧ Dp X.K H v d ∧ d.canLay0 = true ∧ d.depth ≤ 60 ∧ d.showable = true ∧ d.shown.length ≤ sizeLine ∧ Q (.str d.shown) H) := by
  intro pins s σ H vs us Q I r h
  obtain ⟨v, d, e, dv, lay, dep, shw, len, q⟩ := h
  subst e
  obtain ⟨u, eu, ru⟩ := vals1 r
  subst eu
  have nd := PyData.hasDict_of_canLay d lay
  have un := C.rm.un
  cases dv with
  | non => cases ru; exact PySem.P.repr_of_none ⟨.str _, H, I.tok _, ⟨_, rfl⟩, q⟩
  | bl b => cases ru; exact PySem.P.repr_of_bool ⟨.str _, H, I.tok _, ⟨_, rfl⟩, q⟩
  | int i => obtain ⟨t, rfl⟩ := ru; exact PySem.P.repr_of_int (of_decide_eq_true shw) ⟨.str _, H, I.tok _, ⟨_, rfl⟩, q⟩
  | str x => obtain ⟨t, rfl⟩ := ru; exact PySem.P.repr_of_str ⟨.str _, H, I.tok _, ⟨_, rfl⟩, q⟩ len
  | lst h1 h2 =>
    have dv : Dp X.K H _ _ := .lst h1 h2
    obtain ⟨as, rd⟩ := Dp.reads I _ _ _ dv ru
    cases ru
    exact repr_of_reads' rd shw (PyData.noDict_hsm nd) C.gd (by omega) (fun _ _ e => e) (fun h' u tk hk => ⟨.str _, H, I.kept hk, ⟨_, rfl⟩, q⟩) len
  | tup h1 h2 =>
    have dv : Dp X.K H _ _ := .tup h1 h2
    obtain ⟨as, rd⟩ := Dp.reads I _ _ _ dv ru
    cases ru
    exact repr_of_reads' rd shw (PyData.noDict_hsm nd) C.gd (by omega) (fun _ _ e => e) (fun h' u tk hk => ⟨.str _, H, I.kept hk, ⟨_, rfl⟩, q⟩) len
theorem ed_repr [S : Sh α] {o : Option α} (C : Ctx X N sc fs k) (hg : glbB sc "repr" = true) (hm : X.mg "repr" = none) (h : ED X G e o) (hs : starEach [e] X.env = (false, eval e X.env) :: starEach [] X.env := by rfl) (hd : S.dp ≤ 60 := by decide) :
    ED X G (.Call (.Name "repr" p) [e] [] pos) (o.bind fun x => reprD (enc x)) := fun z hz => by
  obtain ⟨x, h1, h2⟩ := bind_get hz
  obtain ⟨⟨h3, h4⟩, h5⟩ := ite_get h2
  subst h5
  refine (b1 (id := "repr") C hg hm (by decide +kernel) (cr_repr C) (h x h1) (by decide) hs).imp (tD_b1 fun F G σ H I ps v Q R d q => ?_)
  exact ⟨v, _, rfl, Dq_dp _ _ (Dq_mono R.si _ _ d), S.lay x, Nat.le_trans (S.dep x) hd, h3, h4, q _ _ _ Grow.refl R (.str _)⟩

/-! ### math.gcd, list(range(..)) -/
def gcdI (i j : Int) : Int := ((Nat.gcd i.natAbs j.natAbs : Nat) : Int)
theorem ed_gcd {oa ob : Option Int} (C : Ctx X N sc fs k) (hg : glbB sc "gcd" = true) (hm : X.mg "gcd" = some (.builtin "math.gcd")) (ha : ED X G a oa) (hb : ED X G b ob)
    (hs : starEach [a, b] X.env = (false, eval a X.env) :: starEach [b] X.env := by rfl) (hs2 : starEach [b] X.env = (false, eval b X.env) :: starEach [] X.env := by rfl) (hp : (backTo pos (starEach [b] X.env)).any (·.1) = false := by rfl) :
    ED X G (.Call (.Name "gcd" p) [a, b] [] pos) (lift2 gcdI oa ob) := fun z hz => by
  obtain ⟨i, j, h1, h2, h3⟩ := lift2_get hz
  subst h3
  obtain ⟨gl, db⟩ := glbB_gl C.s hg
  refine (pe_callBfun cr_gcd gl hm (pa_cons (ha i h1) (pa_cons (hb j h2) pa_nil hs2) hs) db hs hp).imp fun σ H Q ⟨F, I, ps, R, q⟩ => ⟨F, I, ps, R, fun v H1 I1 g1 R1 d1 => ⟨F, I1, ps, R1, fun u H2 I2 g2 R2 d2 => ?_⟩⟩
  cases d1; cases d2
  exact ⟨i, j, rfl, q _ _ _ (g1.trans g2) R2 (.int _)⟩
theorem eo_lrng1 {p2 pos2 : Pos} {o : Option Int} (C : Ctx X N sc fs k) (hg : glbB sc "list" = true) (hm : X.mg "list" = none) (hg2 : glbB sc "range" = true) (hm2 : X.mg "range" = none) (h : ED X G e o)
    (hs : starEach [e] X.env = (false, eval e X.env) :: starEach [] X.env := by rfl) (hs2 : starEach [.Call (.Name "range" p2) [e] [] pos2] X.env = (false, eval (.Call (.Name "range" p2) [e] [] pos2) X.env) :: starEach [] X.env := by rfl) :
    EO X G (.Call (.Name "list" p) [.Call (.Name "range" p2) [e] [] pos2] [] pos) (o.bind rng1) := fun l hl => by
  obtain ⟨j, h1, h2⟩ := bind_get hl
  obtain ⟨hc, h2⟩ := ite_get h2
  subst h2
  refine (pe_listRg C.calm (glbB_gl C.s hg).1 hm (prg_1 (glbB_gl C.s hg2).1 hm2 (h j h1) hs) hs2).imp fun σ H Q ⟨F, I, ps, R, q⟩ => ⟨F, I, ps, R, fun v H1 I1 g1 R1 d => ?_⟩
  cases d
  have l24 : (sizeLine : Int) = 16777216 := by rw [sizeLine_eq]; rfl
  refine ⟨j, rfl, ⟨by omega, by omega, by omega, by omega, by omega⟩, fun p hp => q p _ _ I1 g1 (R1.newOwn hp) (R1.si.free hp) (R1.sf.free hp) (fun i c => by obtain ⟨_, _, _, z⟩ := R1.own_at c; rw [hp] at z; cases z) upd_same ?_⟩
  rw [show rgV 0 j = (rngL 0 j.toNat).map V.int by unfold rgV rngL; rw [List.map_map]; simp]
  exact of_ints _
theorem eo_lrng2 {e2 : Expr} {p2 pos2 : Pos} {o o2 : Option Int} (C : Ctx X N sc fs k) (hg : glbB sc "list" = true) (hm : X.mg "list" = none) (hg2 : glbB sc "range" = true) (hm2 : X.mg "range" = none) (h : ED X G e o) (h' : ED X G e2 o2)
    (hs : starEach [e, e2] X.env = (false, eval e X.env) :: starEach [e2] X.env := by rfl) (hs1 : starEach [e2] X.env = (false, eval e2 X.env) :: starEach [] X.env := by rfl) (hp : (backTo pos2 (starEach [e2] X.env)).any (·.1) = false := by rfl)
    (hs2 : starEach [.Call (.Name "range" p2) [e, e2] [] pos2] X.env = (false, eval (.Call (.Name "range" p2) [e, e2] [] pos2) X.env) :: starEach [] X.env := by rfl) :
    EO X G (.Call (.Name "list" p) [.Call (.Name "range" p2) [e, e2] [] pos2] [] pos) (bind2 rng2 o o2) := fun l hl => by
  obtain ⟨i, j, h1, h2, h3⟩ := bind2_get hl
  obtain ⟨hc, h3⟩ := ite_get h3
  subst h3
  refine (pe_listRg C.calm (glbB_gl C.s hg).1 hm (prg_2 (glbB_gl C.s hg2).1 hm2 (h i h1) (h' j h2) hs hs1 hp) hs2).imp fun σ H Q ⟨F, I, ps, R, q⟩ => ⟨F, I, ps, R, fun v H1 I1 g1 R1 d => ⟨F, I1, ps, R1, fun v2 H2 I2 g2 R2 d2 => ?_⟩⟩
  cases d; cases d2
  have l24 : (sizeLine : Int) = 16777216 := by rw [sizeLine_eq]; rfl
  refine ⟨i, j, rfl, rfl, ⟨by omega, by omega, by omega, by omega, by omega⟩, fun p hp => q p _ _ I2 (g1.trans g2) (R2.newOwn hp) (R2.si.free hp) (R2.sf.free hp) (fun i c => by obtain ⟨_, _, _, z⟩ := R2.own_at c; rw [hp] at z; cases z) upd_same ?_⟩
  rw [show rgV i j = (rngL i (j - i).toNat).map V.int by unfold rgV rngL; rw [List.map_map]; rfl]
  exact of_ints _
end

/-! ### stores to an own list -/
section
variable {X : Cx} {G : List Sl} {S B R : Type} [Enc R] {P : S → List Sl} {PB : B → List Sl} {own : Bool} {rest : List Stmt} {N : List Str} {sc : Scope} {fs : Option Scope} {k i : Nat} {x : Str} {α : Type} [Enc α] {e b : Expr} {pos p p2 sp : Pos}
theorem sv_raise {exc : Option Expr} : SV X G (.Raise exc none pos :: rest) P PB own (none : Option (Out S B R)) := sv_none
def appG {α : Type} (l : List α) (x : α) : Option (List α) := if l.length < sizeLine then some (l ++ [x]) else none
theorem own_slot {K : PySem.W.Frag} {F H I : Hp} {σ : L2.St} {ps : Nat → Option Addr} (R : RS K F G σ H I ps) {ds : List PyData} (hs : slAt G i = .own ds) : ∃ a xs, ps i = some a ∧ σ[i]? = some (some (.ref a)) ∧ H a = some (.lst xs) ∧ DqAll I xs ds := by
  have hi : i < G.length := by
    by_cases c : i < G.length
    · exact c
    · rw [slAt_out (by omega)] at hs; cases hs
  obtain ⟨w, k1, k2⟩ := R.sl i hi
  rw [hs] at k2
  obtain ⟨a, xs, e1, e2, n, hH, d⟩ := k2
  subst e2
  exact ⟨a, xs, e1, k1, hH, d⟩
theorem pe_name (C : Ctx X N sc fs k) (hv : visB N sc i x = true) : PE X (.Name x p) (tVar i) := by
  unfold visB at hv
  simp only [Bool.and_eq_true, decide_eq_true_eq, Bool.not_eq_true'] at hv
  obtain ⟨⟨⟨h1, hv⟩, hd⟩, hcd⟩ := hv
  exact pe_var (by rw [C.n]; exact h1) (by rw [C.s]; unfold Vis; split at hv <;> simp_all) hd hcd
/-- x.append(e) -/
theorem sv_app {l : List α} {oe : Option α} {kk : List α → Option (Out S B R)} {ap cp : Pos} (C : Ctx X N sc fs k) (hv : visB N sc i x = true) (hsl : slAt G i = .own (l.map enc)) (he : ED X G e oe) (hk : ∀ v : List α, SV X (G.set i (.own (v.map enc))) rest P PB own (kk v))
    (hfew : ((backTo cp (starEach [e] X.env)).all (fun x => !x.1) && (backToKw cp (keywordEach [] X.env)).all (fun x => x.1.isSome) && decide (([e] : List Expr).length + ([] : List Keyword).length + (if ([] : List Keyword).isEmpty then 0 else 1) < 30)) = true := by rfl) (hline : (ap.endLine == cp.line) = true := by rfl)
    (hs : starEach [e] X.env = (false, eval e X.env) :: starEach [] X.env := by rfl) : SV X G (.Expr (.Call (.Attribute (.Name x p) "append" ap) [e] [] cp) sp :: rest) P PB own ((oe.bind (appG l)).bind kk) := fun y hy => by
  obtain ⟨l', h1, h2⟩ := bind_get hy
  obtain ⟨v, h3, h4⟩ := bind_get h1
  obtain ⟨hc, h5⟩ := ite_get h4
  subst h5
  refine (pss_cons (ps_expr (pe_bm PySem.F.plainAttrs_list PySem.F.slot_list_append PySem.F.type_list_append mt_append (pe_name C hv) (pa_cons (he v h3) pa_nil hs) rfl hfew hline hs)) (hk _ y h2)).imp fun D σ H ⟨F, I, ps, Rr, q⟩ => ?_
  obtain ⟨a, xs, e1, e2, hH, d⟩ := own_slot Rr hsl
  refine ⟨_, e2, .inl ⟨rfl, _, .inl (.inl hH)⟩, F, I, ps, Rr, fun w H1 I1 g1 R1 d1 => ?_⟩
  obtain ⟨a', xs', f1, _, hH1, d'⟩ := own_slot R1 hsl
  rw [e1] at f1; cases f1
  refine ⟨a, xs', w, rfl, rfl, hH1, by rw [d'.len, List.length_map]; exact hc, tS_after (H := H) (ps := ps) (σ := σ) g1 (R1.wrOwn (es := (l ++ [v]).map enc) e1 ?_) q⟩
  rw [List.map_append]; exact d'.app (.cons d1 .nil)
/-- x[j] = e -/
def setG {α : Type} (l : List α) (i : Int) (x : α) : Option (List α) := (ixN l.length i).bind fun j => some (l.set j x)
theorem sv_sti {l : List α} {oe : Option α} {oi : Option Int} {kk : List α → Option (Out S B R)} {tp : Pos} (C : Ctx X N sc fs k) (hv : visB N sc i x = true) (hsl : slAt G i = .own (l.map enc)) (he : ED X G e oe) (hi : ED X G b oi) (hk : ∀ v : List α, SV X (G.set i (.own (v.map enc))) rest P PB own (kk v))
    (hs : swapsWithSole [.Subscript (.Name x p) b tp] e sp.line X.env = pure false := by rfl) (hw : swappedStores [.Subscript (.Name x p) b tp] e X.env = pure none := by rfl) (h1 : (assignEach [.Subscript (.Name x p) b tp] X.env).map (·.2) = [assign (.Subscript (.Name x p) b tp) X.env] := by rfl)
    (ha : ∀ v, assign (.Subscript (.Name x p) b tp) X.env v = (do
      let ov ← holding [v] (eval (.Name x p) X.env)
      let iv ← holding [v, ov] (eval b X.env)
      standAt tp
      holding [v, ov, iv] (setItem ov iv v)
      release [v, ov, iv] []) := by intro _; rfl) :
    SV X G (.Assign [.Subscript (.Name x p) b tp] e sp :: rest) P PB own ((bind2 (fun v j => setG l j v) oe oi).bind kk) := fun y hy => by
  obtain ⟨l', h2, h3⟩ := bind_get hy
  obtain ⟨v, j, h4, h5, h6⟩ := bind2_get h2
  obtain ⟨jj, h7, h8⟩ := bind_get h6
  cases h8
  refine (pss_cons (ps_asg (he v h4) (pg_sub (pe_name C hv) (hi j h5) set_list ha) hs hw h1) (hk _ y h3)).imp fun D σ H ⟨F, I, ps, Rr, q⟩ => ⟨F, I, ps, Rr, fun w H1 I1 g1 R1 d1 => ?_⟩
  obtain ⟨a, xs, e1, e2, hH, d⟩ := own_slot R1 hsl
  refine ⟨_, e2, F, I1, ps, R1, fun u H2 I2 g2 R2 d2 => ?_⟩
  cases d2
  obtain ⟨a', xs', f1, _, hH2, d'⟩ := own_slot R2 hsl
  rw [e1] at f1; cases f1
  refine ⟨a, xs', j, jj, rfl, rfl, hH2, by rw [d'.len, List.length_map]; exact h7, tS_after (H := H) (ps := ps) (σ := σ) (g1.trans g2) (R2.wrOwn (es := (l.set jj v).map enc) e1 ?_) q⟩
  rw [List.map_set]; exact d'.set jj (Dq_mono g2.same _ _ d1)
/-- x.extend(a new list) -/
theorem sv_ext {l : List α} {oe : Option (List α)} {kk : List α → Option (Out S B R)} {ap cp : Pos} (C : Ctx X N sc fs k) (hv : visB N sc i x = true) (hsl : slAt G i = .own (l.map enc)) (he : EO X G e oe) (hk : ∀ v : List α, SV X (G.set i (.own (v.map enc))) rest P PB own (kk v))
    (hfew : ((backTo cp (starEach [e] X.env)).all (fun x => !x.1) && (backToKw cp (keywordEach [] X.env)).all (fun x => x.1.isSome) && decide (([e] : List Expr).length + ([] : List Keyword).length + (if ([] : List Keyword).isEmpty then 0 else 1) < 30)) = true := by rfl) (hline : (ap.endLine == cp.line) = true := by rfl)
    (hs : starEach [e] X.env = (false, eval e X.env) :: starEach [] X.env := by rfl) : SV X G (.Expr (.Call (.Attribute (.Name x p) "extend" ap) [e] [] cp) sp :: rest) P PB own ((oe.bind (catG l)).bind kk) := fun y hy => by
  obtain ⟨l', h1, h2⟩ := bind_get hy
  obtain ⟨v, h3, h4⟩ := bind_get h1
  obtain ⟨hc, h5⟩ := ite_get h4
  subst h5
  refine (pss_cons (ps_expr (pe_bm PySem.F.plainAttrs_list PySem.F.slot_list_extend PySem.F.type_list_extend mt_extend (pe_name C hv) (pa_cons (he v h3) pa_nil hs) rfl hfew hline hs)) (hk _ y h2)).imp fun D σ H ⟨F, I, ps, Rr, q⟩ => ?_
  obtain ⟨a, xs, e1, e2, hH, d⟩ := own_slot Rr hsl
  refine ⟨_, e2, .inl ⟨rfl, _, .inl (.inl hH)⟩, F, I, ps, Rr, fun pa ys H1 I1 g1 R1 n1 n2 n3 hHp d1 => ?_⟩
  obtain ⟨a', xs', f1, _, hH1, d'⟩ := own_slot R1 hsl
  rw [e1] at f1; cases f1
  refine ⟨a, pa, xs', ys, rfl, rfl, hH1, hHp, by rw [d'.len, d1.len, List.length_map, List.length_map]; exact hc, tS_after (H := H) (ps := ps) (σ := σ) g1 (R1.wrOwn (es := (l ++ v).map enc) e1 ?_) q⟩
  rw [List.map_append]; exact d'.app d1
end
end Lay

set_option Elab.async false
set_option linter.all false
set_option maxRecDepth 100000
/-! Lay9: the script, a def's body as a promise, constants of the module, the law's end. -/
namespace Lay
open PySem PySem.Spec PyProof.Rows L2
open Lay.Enc (enc)

section
variable {X : Cx} {G : List Sl} {α β : Type} [Enc α] [Enc β] {a b e : Expr} {pos p : Pos} {N : List Str} {sc : Scope} {fs : Option Scope} {k i : Nat} {x : Str}
/-! ### a list that is only read (the script) -/
theorem rd_slot {K : PySem.W.Frag} {F H I : Hp} {σ : L2.St} {ps : Nat → Option Addr} (R : RS K F G σ H I ps) {ds : List PyData} (hs : slAt G i = .rd ds) : ∃ a xs, σ[i]? = some (some (.ref a)) ∧ SqL K I a xs ∧ DqAll I xs ds := by
  have hi : i < G.length := by
    by_cases c : i < G.length
    · exact c
    · rw [slAt_out (by omega)] at hs; cases hs
  obtain ⟨w, k1, k2⟩ := R.sl i hi
  rw [hs] at k2
  obtain ⟨e1, a, xs, e2, q, d⟩ := k2
  subst e2
  exact ⟨a, xs, k1, q, d⟩
theorem er_rd {l : List α} (C : Ctx X N sc fs k) (hv : visB N sc i x = true) (hs : slAt G i = .rd (l.map enc)) : ER X G (.Name x pos) (some l) := fun y hy => by
  cases hy
  refine (pe_name C hv).imp fun σ H Q ⟨F, I, ps, R, q⟩ => ?_
  obtain ⟨a, xs, e, s, d⟩ := rd_slot R hs
  exact ⟨_, e, q a xs H I Grow.refl R (Same.seq R.si s) d⟩
theorem ed_ixR {l : List α} {oi : Option Int} (C : Ctx X N sc fs k) (hv : visB N sc i x = true) (hsl : slAt G i = .rd (l.map enc)) (hb : ED X G b oi) (hs : PlainIx b := by intro _ _; rfl) :
    ED X G (.Subscript (.Name x p) b pos) (oi.bind fun j => atI l j) := fun z hz => by
  obtain ⟨j, h2, h3⟩ := bind_get hz
  refine (pe_ix ix_list (pe_name C hv) (hb j h2) hs).imp fun σ H Q ⟨F, I, ps, R, q⟩ => ?_
  obtain ⟨a, xs, e, s, d⟩ := rd_slot R hsl
  refine ⟨_, e, F, I, ps, R, fun w H1 I1 g1 R1 dw => ?_⟩
  cases dw
  obtain ⟨u, hu, du⟩ := d.atI (atI_map h3)
  exact ⟨_, _, j, u, rfl, rfl, Same.seq (g1.same.trans R1.si) s, hu, q u H1 I1 g1 R1 (Dq_mono g1.same _ _ du)⟩
/-- a def of the script alone -/
def spR (K : PySem.W.Frag) (own : Bool) {α ρ : Type} [Enc α] [Enc ρ] (m : List α → Option ρ) : Sp := fun vs H Q _ =>
  ∃ a xs l r I, vs = [.ref a] ∧ m l = some r ∧ Same I H ∧ SqL K I a xs ∧ DqAll I xs (l.map enc) ∧ ∀ v H' I', Same H H' → Grow H I I' → Same I' H' → RetR K own H I' H' v (enc r) → Q v H'
theorem ed_callR {β ρ : Type} [Enc β] [Enc ρ] {m : List β → Option ρ} {l : List β} {f : Str} {prm : List Str} {j : Nat} {p1 : Pos} (C : Ctx X N sc fs k) (c : Cal X.prog X.w X.K X.mg X.base CX0 j f prm (spR X.K false m)) (hj : j ≤ k) (hg : glbB sc f = true) (hv : visB N sc i x = true) (hsl : slAt G i = .rd (l.map enc))
    (he : starEach [.Name x p1] X.env = (false, eval (.Name x p1) X.env) :: starEach [] X.env := by rfl) : ED X G (.Call (.Name f p) [.Name x p1] [] pos) (m l) := fun r hr => by
  refine (pe_callG (c.up hj) C.gd C.rm C.s hg (pass0 (X := X)) (pa_cons (pe_name C hv) pa_nil he) he rfl).imp fun σ H Q ⟨F, I, ps, R, q⟩ => ?_
  obtain ⟨a, xs, e, s, d⟩ := rd_slot R hsl
  refine ⟨_, e, a, xs, l, r, I, rfl, hr, R.si, s, d, fun v H' I' s' g' si rr => ?_⟩
  obtain ⟨g2, R2⟩ := R.called s' g' si
  exact q v H' I' g2 R2 rr
/-! ### a constant of the module -/
theorem ed_glb {n : Int} (C : Ctx X N sc fs k) (hg : glbB sc x = true) (h : ∃ t, X.mg x = some (.int n t)) : ED X G (.Name x pos) (some n) := fun y hy => by
  cases hy
  obtain ⟨t, ht⟩ := h
  obtain ⟨gl, db⟩ := glbB_gl C.s hg
  exact (pe_glob gl ht (v := .int n) ⟨t, rfl⟩ db).imp (tC_ed fun _ => .int _)
end

/-! ### a, b = x, y (plain local names) -/
section
variable {X : Cx} {G : List Sl} {S B R : Type} [Enc R] {P : S → List Sl} {PB : B → List Sl} {own : Bool} {rest : List Stmt} {N : List Str} {sc : Scope} {fs : Option Scope} {k i j : Nat} {x y : Str} {α β : Type} [Enc α] [Enc β] {a b : Expr} {px py pt pt2 sp : Pos} {kt k2 : Nat}
def lclB (N : List Str) (sc : Scope) (i : Nat) (x : Str) : Bool := decide (N[i]? = some x) && (match sc.names.lookup x with | some .local => true | _ => false)
theorem lclB_ok (C : Ctx X N sc fs k) (h : lclB N sc i x = true) : X.N[i]? = some x ∧ X.env.scope.names.lookup x = some .local := by
  unfold lclB at h
  simp only [Bool.and_eq_true, decide_eq_true_eq] at h
  rw [C.n, C.s]
  refine ⟨h.1, ?_⟩
  have h2 := h.2
  split at h2
  · assumption
  · cases h2
theorem sv_par {oa : Option α} {ob : Option β} {kk : α → β → Option (Out S B R)} (C : Ctx X N sc fs k) (h1 : lclB N sc i x = true) (h2 : lclB N sc j y = true) (hij : i ≠ j) (hne : (x == y) = false) (hl : (px.line == py.line) = true) (ha : ED X G a oa) (hb : ED X G b ob)
    (hk : ∀ v w, SV X ((G.set i (.dat (enc v))).set j (.dat (enc w))) rest P PB own (kk v w)) (hf : ([a, b].any fun | .Starred .. => true | _ => false) = false := by rfl) (hc : ([a, b].all (foldedForSure 8)) = false := by rfl) (hc2 : ([a, b].all (constantsAlone 8)) = false := by rfl)
    (s1 : starEach [a, b] X.env = (false, eval a X.env) :: starEach [b] X.env := by rfl) (s2 : starEach [b] X.env = (false, eval b X.env) :: starEach [] X.env := by rfl)
    (hsw : swapsWithSole [.Tuple [.Name x px, .Name y py] kt pt] (.Tuple [a, b] k2 pt2) sp.line X.env = pure false := by rfl) :
    SV X G (.Assign [.Tuple [.Name x px, .Name y py] kt pt] (.Tuple [a, b] k2 pt2) sp :: rest) P PB own (oa.bind fun v => ob.bind fun w => kk v w) := fun z hz => by
  obtain ⟨v, e1, hz⟩ := bind_get hz
  obtain ⟨w, e2, hz⟩ := bind_get hz
  obtain ⟨i1, i2⟩ := lclB_ok C h1
  obtain ⟨j1, j2⟩ := lclB_ok C h2
  have hw : swappedStores [.Tuple [.Name x px, .Name y py] kt pt] (.Tuple [a, b] k2 pt2) X.env = pure (some [x, y]) := by
    have kx : X.env.kindOf x = some .local := i2
    have ky : X.env.kindOf y = some .local := j2
    have bk : X.env.blockKind = .function := by unfold Env.blockKind; rw [C.s, C.fk]; rfl
    unfold swappedStores
    have l2 : (py.line == px.line) = true := by rw [beq_iff_eq] at hl ⊢; exact hl.symm
    simp only [List.length_cons, List.length_nil, bk, hf, hc, hc2, List.head?_cons, Option.map_some, Expr.pos, Option.getD_some, List.filterMap_cons, kx, ky, l2, List.filterMap_nil]
    rw [if_neg (by decide), if_neg (by rw [Bool.not_eq_true]; exact hf)]
    have e1 : (some NameKind.local == some NameKind.local) = true := by decide
    have e3 : (y == x) = false := by rw [beq_eq_false_iff_ne] at hne ⊢; exact fun c => hne c.symm
    simp [e1, List.eraseDups, List.eraseDupsBy, List.eraseDupsBy.loop, e3, hne]
  refine (pss_cons (ps_par C.calm (by rw [C.n]; exact C.nd) i1 j1 hij i2 j2 (pa_cons (ha v e1) (pa_cons (hb w e2) pa_nil s2) s1) hw hsw) (hk v w z hz)).imp fun D σ H ⟨F, I, ps, Rr, q⟩ => ?_
  refine ⟨F, I, ps, Rr, fun v1 H1 I1 g1 R1 d1 => ⟨F, I1, ps, R1, fun w1 H2 I2 g2 R2 d2 => ⟨_, _, rfl, ?_⟩⟩⟩
  exact tS_after (H := H) (ps := ps) (σ := σ) (g1.trans g2) ((R2.setDat (Dq_mono g2.same _ _ d1)).setDat d2) q
end

/-! ### a def's body kept as a promise -/
def finO {R : Type} (d : Option R) (o : Option (Out Unit Unit R)) : Option R := o.bind fun x => match x with
  | .nx _ => d
  | .rt r => some r
  | _ => none
@[simp] theorem finO_nx {R : Type} (d : Option R) : finO d (some (.nx ())) = d := rfl
@[simp] theorem finO_rt {R : Type} (d : Option R) (r : R) : finO d (some (.rt r)) = some r := rfl
@[simp] theorem finO_none {R : Type} (d : Option R) : finO d none = none := rfl
theorem slAt_get : ∀ {G : List Sl} {i : Nat} {s : Sl}, G[i]? = some s → slAt G i = s
  | [], _, _, h => by simp at h
  | s :: r, 0, _, h => Option.some.inj h
  | s :: r, i + 1, _, h => slAt_get (G := r) (i := i) h
theorem slAt_rep : ∀ n i, slAt (List.replicate n Sl.un) i = .un
  | 0, _ => rfl
  | n + 1, 0 => rfl
  | n + 1, i + 1 => slAt_rep n i
theorem wkR_all {G : List Sl} {n : Nat} (h : G.length = n) : WkR G (List.replicate n .un) := fun K F σ H I ps R => by
  subst h
  have at_ : ∀ n i, slAt (List.replicate n Sl.un) i = .un := slAt_rep
  refine ⟨I, fun _ => none, Grow.refl, ⟨R.si, R.sf, fun i a h => (nomatch h), by rw [List.length_replicate]; exact R.len, fun i hi => ?_, fun _ _ => rfl, fun i j a h => (nomatch h)⟩⟩
  rw [List.length_replicate] at hi
  obtain ⟨v, h1, h2⟩ := R.sl i hi
  refine ⟨v, h1, ?_⟩
  rw [at_]
  rfl
def dats (n : Nat) (ds : List PyData) : List Sl := ds.map .dat ++ List.replicate (n - ds.length) .un
def tBody (K : PySem.W.Frag) (G : List Sl) (own : Bool) (r : PyData) : TS := fun D σ H =>
  ∃ F I ps, RS K F G σ H I ps ∧ ∀ v H' I', Grow F I I' → Same F H' → Same I' H' → RetR K own F I' H' v r → (v = .non → ∀ σ', D.nx σ' H') ∧ D.rt v H'
theorem body_of {X : Cx} {G : List Sl} {R : Type} [Enc R] {P : Unit → List Sl} {PB : Unit → List Sl} {own : Bool} {body : List Stmt} {d : Option R} {o : Option (Out Unit Unit R)} {r : R} (h : SV X G body P PB own o) (hr : finO d o = some r) (hd : ∀ x, d = some x → own = false ∧ enc x = .none) :
    PSs X body (tBody X.K G own (enc r)) := by
  obtain ⟨x, h1, h2⟩ := bind_get hr
  refine (h x h1).imp fun D σ H ⟨F, I, ps, Rr, q⟩ => ⟨F, I, ps, Rr, ?_⟩
  cases x with
  | nx s =>
    have h2 : d = some r := h2
    obtain ⟨e1, e2⟩ := hd r h2
    subst e1
    exact fun σ' H' I' ps' g R' => (q .non H' I' g R'.sf R'.si (by rw [e2]; exact Dq.non)).1 rfl σ'
  | rt s =>
    have e : s = r := Option.some.inj h2
    subst e
    exact fun v H' I' g s1 s2 rr => (q v H' I' g s1 s2 rr).2
  | bk s => cases h2
  | ct s => cases h2
section
variable {P : Program} {w : World} {K : PySem.W.Frag} {mg : Str → Option Value} {base : Heap} {x : Str} {st : Stmt} {f : Addr} {fd : FuncData} {N prm : List Str} {k : Nat} {own : Bool}
theorem start_rs {n : Nat} {vs : List V} {ds : List PyData} {H I : Hp} (hN : N.length = n) (hl : ds.length ≤ n) (hi : Same I H) (d : DqAll I vs ds) : RS K H (dats n ds) (start N vs) H I (fun _ => none) := by
  subst hN
  have ln := d.len
  refine ⟨hi, Same.refl _, fun i a h => (nomatch h), ?_, fun i h => ?_, fun _ _ => rfl, fun i j a h => (nomatch h)⟩
  · unfold dats L2.start
    simp only [List.length_append, List.length_map, List.length_replicate]; omega
  · unfold dats L2.start
    by_cases c : i < ds.length
    · have c2 : i < vs.length := by omega
      refine ⟨some vs[i], ?_, ?_⟩
      · rw [List.getElem?_append_left (by rw [List.length_map]; exact c2), List.getElem?_map, List.getElem?_eq_getElem c2]; rfl
      · have e : slAt (ds.map Sl.dat ++ List.replicate (N.length - ds.length) .un) i = .dat ds[i] := slAt_get (by
          rw [List.getElem?_append_left (by rw [List.length_map]; exact c), List.getElem?_map, List.getElem?_eq_getElem c]; rfl)
        rw [e]
        obtain ⟨v, hv, hd⟩ := d.at (List.getElem?_eq_getElem c)
        rw [List.getElem?_eq_getElem c2] at hv
        cases hv
        exact ⟨rfl, _, rfl, hd⟩
    · have h2 : i < N.length := by
        unfold dats at h
        simp only [List.length_append, List.length_map, List.length_replicate] at h; omega
      refine ⟨none, ?_, ?_⟩
      · rw [List.getElem?_append_right (by rw [List.length_map]; omega), List.length_map, List.getElem?_replicate, if_pos (by omega)]
      · have e : slAt (ds.map Sl.dat ++ List.replicate (N.length - ds.length) .un) i = .un := slAt_get (by
          rw [List.getElem?_append_right (by rw [List.length_map]; omega), List.length_map, List.getElem?_replicate, if_pos (by omega)])
        rw [e]; rfl
theorem ctx_of {qual : Str} {sc : Scope} {f : Addr} {cd : Value} {A : Around} {out : List Env} {s : Shared} {H : Hp} {E : XK} (S : FnScope N prm sc) (gd : A.guards = some []) (rm : Room k (A.deeper (envOfC qual sc s.heap.objs.size f cd))) : Ctx (cxOf CX0 P w K mg base N qual sc f cd A out s H E) N sc none k :=
  ⟨rfl, rfl, S.kind, rfl, S.nd, gd, rm, PassesOwn.leaving, rfl⟩
/-- what a body's text must give, in any context of the def -/
abbrev AnyX (P : Program) (w : World) (K : PySem.W.Frag) (mg : Str → Option Value) (base : Heap) (N : List Str) (sc : Scope) (k : Nat) (g : Cx → Prop) : Prop :=
  ∀ X : Cx, X.prog = P → X.w = w → X.K = K → X.mg = mg → X.base = base → Ctx X N sc none k → g X
theorem ok_def {g : List PyData → PyData → Prop} {qual : Str} (F : Fun K x qual st f fd) (S : FnScope N prm (defScope st)) (ar : ∀ ds r, g ds r → ds.length = prm.length) (n : Nat) (hN : N.length = n) (hp : prm.length ≤ n)
    (body : AnyX P w K mg base N (defScope st) k fun X => ∀ ds r, g ds r → PSs X (defBody st) (tBody X.K (dats n ds) own r)) : FnG P w K mg base CX0 (k + 1) f fd prm (spD K own g) := by
  refine fnG F S (fun vs H Q E ⟨ds, r, I, h1, _, h2, _⟩ => by rw [← ar ds r h1]; exact h2.len) fun cd A out s H vs Q E gd rm ⟨ds, r, I, h1, hi, h2, q⟩ => ?_
  refine ⟨_, body _ rfl rfl rfl rfl rfl (ctx_of S gd rm) ds r h1, H, I, _, start_rs hN (by rw [ar ds r h1]; exact hp) hi h2, fun v H' I' g s1 s2 rr => ⟨fun e σ' => ?_, q v H' I' s1 g s2 rr⟩⟩
  subst e
  exact q .non H' I' s1 g s2 rr
theorem ok_rd {α ρ : Type} [Enc α] [Enc ρ] {m : List α → Option ρ} {qual : Str} {y : Str} (F : Fun K x qual st f fd) (S : FnScope N [y] (defScope st)) (n : Nat) (hN : N.length = n) (hp : 1 ≤ n)
    (body : AnyX P w K mg base N (defScope st) k fun X => ∀ l r, m l = some r → PSs X (defBody st) (tBody X.K (.rd (l.map enc) :: List.replicate (n - 1) .un) own (enc r))) : FnG P w K mg base CX0 (k + 1) f fd [y] (spR K own m) := by
  refine fnG F S (fun vs H Q E ⟨a, xs, l, r, I, h1, _⟩ => by rw [h1]; rfl) fun cd A out s H vs Q E gd rm ⟨a, xs, l, r, I, h1, hr, hi, hs, hd, q⟩ => ?_
  subst h1
  have R0 : RS K H (.rd (l.map enc) :: List.replicate (n - 1) .un) (start N [.ref a]) H I (fun _ => none) := by
    have R1 := start_rs (K := K) (N := N) (n := n) (H := H) (I := I) (vs := [.int 0]) (ds := [.int 0]) hN hp hi (.cons (.int 0) .nil)
    refine ⟨R1.si, R1.sf, R1.fo, ?_, fun i h => ?_, fun _ _ => rfl, R1.dis⟩
    · exact R1.len
    · cases i with
      | zero => exact ⟨_, rfl, rfl, a, xs, rfl, hs, hd⟩
      | succ i => exact R1.sl (i + 1) h
  refine ⟨_, body _ rfl rfl rfl rfl rfl (ctx_of S gd rm) l r hr, H, I, _, R0, fun v H' I' g s1 s2 rr => ⟨fun e σ' => ?_, q v H' I' s1 g s2 rr⟩⟩
  subst e
  exact q .non H' I' s1 g s2 rr
theorem cal_of {f : Addr} {qual : Str} {sp : Sp} (G : FnG P w K mg base CX0 k f fd prm sp) (F : Fun K x qual st f fd) (hm : mg x = some (.ref f)) (b : Binds K fd prm []) : Cal P w K mg base CX0 k x prm sp := ⟨f, fd, G, hm, F.kp, b⟩
theorem dq_ints {H : Hp} : ∀ ns : List Int, DqAll H (ns.map V.int) (ns.map enc)
  | [] => .nil
  | n :: r => .cons (.int n) (dq_ints r)
theorem law_sp {m : List Int → Option Bool} {n : Nat} (h : ∀ ns : List Int, ns.length ≤ n → m ns = some true) (K : PySem.W.Frag) (H : Hp) (a : Addr) (ns : List Int) (hl : ns.length ≤ n) (_ : Only H) (hS : SqL K H a (ns.map V.int)) : spR K false m [.ref a] H (fun v _ => v = .bl true) fun _ _ _ => False :=
  ⟨a, _, ns, true, H, rfl, h ns hl, Same.refl _, hS, dq_ints ns, fun v H' I' _ _ _ rr => by cases rr; rfl⟩
end
end Lay

set_option Elab.async false
set_option linter.all false
set_option maxRecDepth 100000
/-! LayA: own lists lent to an expression with a flat answer; sorted of any data. -/
namespace Lay
open PySem PySem.Spec PyProof.Rows L2
open Lay.Enc (enc)
def frzAll (G : List Sl) : List Sl := G.map frzS
theorem slAt_map : ∀ {G : List Sl} {i : Nat}, slAt (G.map frzS) i = frzS (slAt G i)
  | [], _ => rfl
  | _ :: _, 0 => rfl
  | _ :: r, i + 1 => slAt_map (G := r) (i := i)
class Flat (α : Type) [Enc α] : Prop where
  fl : ∀ (x : α) (H H' : Hp) (v : V), Dq H v (enc x) → Dq H' v (enc x)
instance : Flat Int := ⟨fun x H H' v d => by cases d; exact .int _⟩
instance : Flat Bool := ⟨fun x H H' v d => by cases d; exact .bl _⟩
instance : Flat Str := ⟨fun x H H' v d => by cases d; exact .str _⟩
instance : Flat Unit := ⟨fun x H H' v d => by cases d; exact .non⟩
instance {α : Type} [Enc α] [S : Flat α] : Flat (Option α) := ⟨fun x H H' v d => by
  cases x with
  | none => cases d; exact .non
  | some x => exact S.fl x H H' v d⟩
theorem flatAll {α : Type} [Enc α] [S : Flat α] {H H' : Hp} : ∀ {xs : List V} {l : List α}, DqAll H xs (l.map enc) → DqAll H' xs (l.map enc)
  | [], [], _ => .nil
  | _ :: _, _ :: _, .cons d r => .cons (S.fl _ _ _ _ d) (flatAll r)
open Classical in
theorem lend_rs {K : PySem.W.Frag} {F H I : Hp} {G : List Sl} {σ : L2.St} {ps : Nat → Option Addr} (R : RS K F G σ H I ps) : ∃ I2, Grow F I I2 ∧ RS K F (frzAll G) σ H I2 (fun _ => none) ∧ (∀ i a, ps i = some a → I2 a ≠ none) ∧
    ∀ H' I', Same I2 I' → RS K F (frzAll G) σ H' I' (fun _ => none) → RS K F G σ H' I ps := by
  let I2 : Hp := fun a => if ∃ i, ps i = some a then H a else I a
  have own : ∀ {i a}, ps i = some a → I2 a = H a := fun {i a} h => if_pos ⟨i, h⟩
  have s1 : Same I I2 := fun b u e => by
    by_cases c : ∃ i, ps i = some b
    · obtain ⟨i, h⟩ := c
      rw [(R.own_at h).1] at e; cases e
    · show (if _ then _ else _) = _
      rw [if_neg c]; exact e
  have s2 : Same I2 H := fun b u e => by
    by_cases c : ∃ i, ps i = some b
    · obtain ⟨i, h⟩ := c
      rw [own h] at e; exact e
    · have e2 : (if ∃ i, ps i = some b then H b else I b) = some u := e
      rw [if_neg c] at e2; exact R.si _ _ e2
  refine ⟨I2, ⟨s1, fun a h => ?_⟩, ⟨s2, R.sf, fun i a h => (nomatch h), by unfold frzAll; rw [List.length_map]; exact R.len, fun i hi => ?_, fun _ _ => rfl, fun i j a h => (nomatch h)⟩, fun i a h => ?_, fun H' I' s3 R' => ⟨(s1.trans s3).trans R'.si, R'.sf, R.fo, R.len, fun i hi => ?_, R.out, R.dis⟩⟩
  · by_cases c : ∃ i, ps i = some a
    · obtain ⟨i, hh⟩ := c; exact .inr (R.fo _ _ hh)
    · have e2 : I2 a = I a := if_neg c
      rw [e2] at h; exact .inl h
  · unfold frzAll at hi
    rw [List.length_map] at hi
    obtain ⟨v, k1, k2⟩ := R.sl i hi
    refine ⟨v, k1, ?_⟩
    unfold frzAll
    rw [slAt_map]
    cases e : slAt G i with
    | un => rfl
    | dat d => rw [e] at k2; obtain ⟨_, x, h1, h2⟩ := k2; exact ⟨rfl, x, h1, Dq_mono s1 _ _ h2⟩
    | rd ds => rw [e] at k2; obtain ⟨_, a, xs, h1, h2, h3⟩ := k2; exact ⟨rfl, a, xs, h1, Same.seq s1 h2, DqAll_mono s1 _ _ h3⟩
    | own ds =>
      rw [e] at k2
      obtain ⟨a, xs, h1, h2, h3, h4, h5⟩ := k2
      exact ⟨rfl, _, h2, .lst (.inl ((own h1).trans h4)) (DqAll_mono s1 _ _ h5)⟩
  · obtain ⟨_, _, xs, e⟩ := R.own_at h
    rw [own h, e]; simp
  · obtain ⟨v, k1, k2⟩ := R.sl i hi
    refine ⟨v, k1, ?_⟩
    cases e : slAt G i with
    | un => rw [e] at k2; exact k2
    | dat d => rw [e] at k2; exact k2
    | rd ds => rw [e] at k2; exact k2
    | own ds =>
      rw [e] at k2
      obtain ⟨a, xs, h1, h2, h3, h4, h5⟩ := k2
      exact ⟨a, xs, h1, h2, h3, R'.si _ _ (s3 _ _ ((own h1).trans h4)), h5⟩
section
variable {X : Cx} {G : List Sl} {α : Type} [Enc α] {e : Expr}
theorem ed_lend [S : Flat α] {o : Option α} (h : ED X (frzAll G) e o) : ED X G e o := fun x hx => (h x hx).imp fun σ H Q ⟨F, I, ps, R, q⟩ => by
  obtain ⟨I2, g, R2, _, back⟩ := lend_rs R
  exact ⟨F, I2, _, R2, fun v H' I' g' R' d => q v H' I Grow.refl (back H' I' g'.same R') (S.fl x _ _ _ d)⟩
theorem eb_lend {o : Option Bool} (h : EB X (frzAll G) e o) : EB X G e o := fun x hx => (h x hx).imp fun σ H Q ⟨F, I, ps, R, q⟩ => by
  obtain ⟨I2, g, R2, _, back⟩ := lend_rs R
  exact ⟨F, I2, _, R2, fun H' I' g' R' => q H' I Grow.refl (back H' I' g'.same R')⟩
theorem tO_lend [S : Flat α] {K : PySem.W.Frag} {l : List α} {σ : L2.St} {H : Hp} {Q : VK} (h : tO K G (l.map enc) σ H Q) : tO K (frzAll G) (l.map enc) σ H Q := by
  obtain ⟨F, I, ps, R, q⟩ := h
  obtain ⟨I2, g, R2, n2, back⟩ := lend_rs R
  refine ⟨F, I2, _, R2, fun p xs H' I' g' R' n hF hp hH d => q p xs H' I Grow.refl (back H' I' g'.same R') (g.same.free (g'.same.free n)) hF (fun i z => n2 i p z (g'.same.free n)) hH (flatAll d)⟩
theorem eo_lend [S : Flat α] {o : Option (List α)} (h : EO X (frzAll G) e o) : EO X G e o := fun x hx => (h x hx).imp fun σ H Q t => tO_lend t
theorem lc_lend [S : Flat α] {o : Option (List α)} (h : LC X (frzAll G) e o) : LC X G e o := fun l hl => by
  obtain ⟨t, h1, h2, h3⟩ := h l hl
  exact ⟨t, h1, h2, fun σ H Q w => h3 σ H Q (tO_lend w)⟩
end
/-! ### sorted of any data -/
/-- what sorted may be asked: items of one kind; tuples with an item -/
class SortT (α : Type) [Enc α] where
  ok : List α → Bool
  one : ∀ x y : α, PySem.W.alike (enc x) (enc y) = true
  srt : ∀ l, ok l = true → PySem.W.Sortable (l.map (enc : α → PyData))
theorem alikeAll_of {α : Type} [Enc α] (h : ∀ x y : α, PySem.W.alike (enc x) (enc y) = true) : ∀ l m : List α, PySem.W.alikeAll (l.map enc) (m.map enc) = true
  | [], _ => by simp [PySem.W.alikeAll]
  | _ :: _, [] => by simp [PySem.W.alikeAll]
  | x :: xs, y :: ys => by
    show PySem.W.alikeAll (enc x :: xs.map enc) (enc y :: ys.map enc) = true
    rw [PySem.W.alikeAll, alikeAll_of h xs ys, h x y]; rfl
instance : SortT Int := ⟨fun _ => true, fun x y => by simp [enc, PySem.W.alike], fun l _ => PySem.W.Sortable.others fun b => ⟨(nomatch ·), fun _ => (nomatch ·)⟩⟩
instance : SortT Bool := ⟨fun _ => true, fun x y => by simp [enc, PySem.W.alike], fun l _ => PySem.W.Sortable.others fun b => ⟨(nomatch ·), fun _ => (nomatch ·)⟩⟩
instance {α : Type} [Enc α] [S : SortT α] : SortT (List α) := ⟨fun _ => true, fun x y => by
  show PySem.W.alike (.list (x.map enc)) (.list (y.map enc)) = true
  rw [PySem.W.alike]; exact alikeAll_of S.one x y, fun l _ => PySem.W.Sortable.others fun b => ⟨(nomatch ·), fun _ => (nomatch ·)⟩⟩
instance {α : Type} [Enc α] [S : SortT α] : SortT (Tup α) := ⟨fun l => l.all fun t => !t.l.isEmpty, fun x y => by
  show PySem.W.alike (.tuple (x.l.map enc)) (.tuple (y.l.map enc)) = true
  rw [PySem.W.alike]; exact alikeAll_of S.one x.l y.l, fun l h => .inl fun d hd => by
    obtain ⟨t, ht, rfl⟩ := List.mem_map.mp hd
    have q := List.all_eq_true.mp h t ht
    cases e : t.l with
    | nil => rw [e] at q; cases q
    | cons x r => exact ⟨enc x, r.map enc, by show PyData.tuple (t.l.map enc) = _; rw [e]; rfl⟩⟩
instance {α β : Type} [Enc α] [Enc β] [S : SortT α] [T : SortT β] : SortT (T2 α β) := ⟨fun _ => true, fun x y => by
  show PySem.W.alike (.tuple [enc x.a, enc x.b]) (.tuple [enc y.a, enc y.b]) = true
  rw [PySem.W.alike, PySem.W.alikeAll, PySem.W.alikeAll, PySem.W.alikeAll, S.one, T.one]; rfl, fun l _ => PySem.W.Sortable.tuples fun b => ⟨_, _, rfl⟩⟩
instance {α β γ : Type} [Enc α] [Enc β] [Enc γ] [S : SortT α] [T : SortT β] [U : SortT γ] : SortT (T3 α β γ) := ⟨fun _ => true, fun x y => by
  show PySem.W.alike (.tuple [enc x.a, enc x.b, enc x.c]) (.tuple [enc y.a, enc y.b, enc y.c]) = true
  rw [PySem.W.alike, PySem.W.alikeAll, PySem.W.alikeAll, PySem.W.alikeAll, PySem.W.alikeAll, S.one, T.one, U.one]; rfl, fun l _ => PySem.W.Sortable.tuples fun b => ⟨_, _, rfl⟩⟩
def leD {α : Type} [Enc α] : α → α → Bool := PySem.W.dataLe false (enc : α → PyData)
def sortD {α : Type} [Enc α] [S : SortT α] (l : List α) : Option (List α) := if S.ok l = true ∧ l.length ≤ sizeLine then some (l.mergeSort leD) else none
def rSortedD (α : Type) [Enc α] [S : SortT α] (K : PySem.W.Frag) : List V → Hp → VK → Prop := fun vs H Q => ∃ (a : Addr) (xs : List V) (l : List α), vs = [.ref a] ∧ SqL K H a xs ∧ DpAll K H xs (l.map enc) ∧ S.ok l = true ∧ l.length ≤ sizeLine ∧
  ∀ (zs : List (V × α)) (p : Addr), zs.Perm (xs.zip l) → zs.map Prod.snd = l.mergeSort leD → H p = none → Q (.ref p) (upd H p (.lst (zs.map Prod.fst)))
section
variable {X : Cx} {α : Type} [Enc α] [S : SortT α] [T : Sh α]
theorem each_vals : ∀ {zs : List (V × α)} {us : List Value}, PySem.W.EachIs (fun u (z : V × α) => RelV z.1 u) us zs → Vals (zs.map Prod.fst) us
  | [], _, h => by cases h; exact .nil
  | z :: zs, _, h => by
    cases h with
    | cons h1 h2 => exact .cons h1 (each_vals h2)
theorem vals_each : ∀ {xs : List V} {l : List α} {us : List Value}, xs.length = l.length → Vals xs us → PySem.W.EachIs (fun u (z : V × α) => RelV z.1 u) us (xs.zip l)
  | [], [], _, _, h => by cases h; exact .nil
  | x :: xs, y :: l, _, e, h => by
    cases h with
    | cons h1 h2 => exact .cons h1 (vals_each (by simpa using e) h2)
theorem dpAll_len {K : PySem.W.Frag} {H : Hp} : ∀ {xs : List V} {ds : List PyData}, DpAll K H xs ds → xs.length = ds.length
  | _, _, .nil => rfl
  | _, _, .cons _ h => by simp [dpAll_len h]
theorem cr_sortedD (hu : X.A.units + 64 < cLine) (hd : T.dp ≤ 60) : CallR X (.builtin "sorted") (rSortedD α X.K) := by
  intro pins s σ H vs us Q I r h
  obtain ⟨a, xs, l, rfl, hs, hdp, hok, hL, q⟩ := h
  obtain ⟨its, rv, hl, hz⟩ := I.list hs
  rw [Vals.ref1 r]
  have el : xs.length = l.length := by rw [dpAll_len hdp, List.length_map]
  obtain ⟨as, rd⟩ := Dp.readsAll I _ _ _ hdp rv
  have e2 : (xs.zip l).map (fun z => (enc z.2 : PyData)) = l.map enc := by
    rw [show (fun z : V × α => (enc z.2 : PyData)) = enc ∘ Prod.snd from rfl, ← List.map_map, List.map_snd_zip (Nat.le_of_eq el.symm)]
  have lz : (xs.zip l).length = l.length := by rw [List.length_zip]; omega
  refine PySem.W.sorted_data (bs := xs.zip l) (enc := fun z => enc z.2) (R := fun u z => RelV z.1 u) hl.isList (vals_each el rv) (PySem.W.readsAll_each _ (by rw [e2]; exact rd)) (by
      rw [e2]; exact PySem.W.AllAlike.of S.one) (by rw [e2]; exact S.srt l hok) (by rw [lz]; exact hL) (fun b _ => ?_) fun out h1 h2 => ?_
  · have := T.dep b.2
    omega
  · have pm := List.mergeSort_perm (xs.zip l) (PySem.W.dataLe false fun z : V × α => (enc z.2 : PyData))
    have sn : ((xs.zip l).mergeSort (PySem.W.dataLe false fun z : V × α => (enc z.2 : PyData))).map Prod.snd = l.mergeSort leD := by
      have q := PySem.W.sort_maps (r := PySem.W.dataLe false fun z : V × α => (enc z.2 : PyData)) (s := leD) Prod.snd (l := xs.zip l) (fun a _ b _ => rfl)
      rw [List.map_snd_zip (Nat.le_of_eq el.symm)] at q
      exact q
    obtain ⟨ep, he'⟩ := PyProof.Rows.sortedAll_at s.heap its out.toArray
    have hlen : (((xs.zip l).mergeSort (PySem.W.dataLe false fun z : V × α => (enc z.2 : PyData))).map Prod.fst).length ≤ sizeLine := by
      rw [List.length_map, pm.length_eq, lz]; exact hL
    exact ⟨.ref _, upd H (s.heap.objs.size + 1) (.lst _), I.laid (t' := s.toks) (fun _ _ => PyProof.Rows.sortedAll_old) (Nat.le_succ _) ⟨hlen, out, ep, each_vals h2, he'⟩, rfl, q _ _ pm sn (I.hok.fresh (Nat.le_succ _))⟩
end
section
variable {X : Cx} {G : List Sl} {α : Type} [Enc α] [S : SortT α] [T : Sh α] {e : Expr} {pos p : Pos} {N : List Str} {sc : Scope} {fs : Option Scope} {k : Nat}
theorem dq_zip {I : Hp} : ∀ {xs : List V} {l : List α}, DqAll I xs (l.map enc) → ∀ z ∈ xs.zip l, Dq I z.1 (enc z.2)
  | [], [], _, z, h => by simp at h
  | x :: xs, y :: l, .cons d r, z, h => by
    rw [List.zip_cons_cons, List.mem_cons] at h
    rcases h with h | h
    · subst h; exact d
    · exact dq_zip r z h
theorem dq_of {I : Hp} : ∀ {zs : List (V × α)}, (∀ z ∈ zs, Dq I z.1 (enc z.2)) → DqAll I (zs.map Prod.fst) ((zs.map Prod.snd).map enc)
  | [], _ => .nil
  | z :: zs, h => .cons (h z (by simp)) (dq_of fun y hy => h y (by simp [hy]))
theorem eo_sortedD {ol : Option (List α)} (C : Ctx X N sc fs k) (hg : glbB sc "sorted" = true) (hm : X.mg "sorted" = none) (h : ER X G e ol) (hs : starEach [e] X.env = (false, eval e X.env) :: starEach [] X.env := by rfl) (hd : T.dp ≤ 60 := by decide) : EO X G (.Call (.Name "sorted" p) [e] [] pos) (ol.bind sortD) := fun z hz => by
  obtain ⟨l, h1, h2⟩ := bind_get hz
  obtain ⟨⟨hok, hL⟩, e1⟩ := ite_get h2
  refine (b1 (id := "sorted") C hg hm (by decide +kernel) (cr_sortedD (α := α) C.rm.units hd) (h l h1) (by decide) hs).imp (tR_bO fun F G σ H I ps ad xs Q R s d q => ?_)
  refine ⟨ad, xs, l, rfl, s, DqAll_dp _ _ (DqAll_mono R.si _ _ d), hok, hL, fun zs p hp hs hn => ?_⟩
  have dz := dq_of (fun z hz => dq_zip d z (hp.mem_iff.mp hz))
  rw [hs, e1] at dz
  exact q p _ hn dz
end
end Lay

set_option Elab.async false
set_option linter.all false
set_option maxRecDepth 100000
/-! LayM: plain facts of the mirrors' words. -/
namespace Lay
open PySem PySem.Spec PyProof.Rows L2
open Lay.Enc (enc)
@[simp] theorem lift1_none {α β : Type} (f : α → β) : lift1 f none = none := rfl
theorem sizeLine_val : sizeLine = 16777216 := by decide
/-! ### guards -/
theorem log2_lt64 {n : Nat} (h : n < 2 ^ 64) : n.log2 < 64 := by
  by_cases e : n = 0
  · subst e; decide
  · exact (Nat.log2_lt e).mpr h
theorem mulG_of {i j : Int} (hi : i.natAbs < 2 ^ 64) (hj : j.natAbs < 2 ^ 64) : mulG i j = some (i * j) := by
  have h1 := log2_lt64 hi
  have h2 := log2_lt64 hj
  exact if_pos (by omega)
theorem divG_of {i j : Int} (h : 0 < j) (h2 : j.natAbs < 2 ^ 64) : divG i j = some (i / j) := by
  have := log2_lt64 h2
  exact if_pos ⟨h, by omega⟩
theorem modG_of {i j : Int} (h : 0 < j) : modG i j = some (i % j) := if_pos h
theorem appG_of {α : Type} {l : List α} {x : α} (h : l.length < 16777216) : appG l x = some (l ++ [x]) := if_pos (by rw [sizeLine_val]; exact h)
theorem catG_of {α : Type} {l m : List α} (h : l.length + m.length ≤ 16777216) : catG l m = some (l ++ m) := if_pos (by rw [sizeLine_val]; exact h)
theorem szG_of {α : Type} {l : List α} (h : l.length ≤ 16777216) : szG l = some l := if_pos (by rw [sizeLine_val]; exact h)
theorem repG_of {α : Type} {x : α} {k : Int} (h : 0 ≤ k) (h2 : k ≤ 262144) : repG [x] k = some (List.replicate k.toNat x) := by
  unfold repG
  rw [if_pos ⟨⟨by simp, h2⟩, by omega⟩]
  congr 1
  generalize k.toNat = n
  induction n with
  | zero => rfl
  | succ n ih => rw [List.replicate_succ, List.flatten_cons, ih]; rfl
theorem rng1_of {j : Int} (h : 0 ≤ j) (h2 : j ≤ 16777216) : rng1 j = some (rngL 0 j.toNat) := if_pos (by rw [sizeLine_val]; omega)
theorem rng2_of {i j : Int} (h : 0 ≤ i) (hj : 0 ≤ j) (h1 : i ≤ 16777216) (h2 : j ≤ 16777216) : rng2 i j = some (rngL i (j - i).toNat) := if_pos (by rw [sizeLine_val]; omega)
theorem mem_rng {lo : Int} {n : Nat} {x : Int} : x ∈ rngL lo n ↔ lo ≤ x ∧ x < lo + n := by
  unfold rngL
  rw [List.mem_map]
  constructor
  · rintro ⟨i, hi, rfl⟩
    rw [List.mem_range] at hi
    omega
  · intro ⟨h1, h2⟩
    exact ⟨(x - lo).toNat, by rw [List.mem_range]; omega, by omega⟩
theorem rng_get {lo : Int} {n i : Nat} {x : Int} (h : (rngL lo n)[i]? = some x) : i < n ∧ x = lo + i := by
  unfold rngL at h
  rw [List.getElem?_map] at h
  by_cases c : i < n
  · rw [List.getElem?_range c] at h
    exact ⟨c, (Option.some.inj h).symm⟩
  · rw [List.getElem?_eq_none (by rw [List.length_range]; omega)] at h
    cases h
@[simp] theorem rng_len {lo : Int} {n : Nat} : (rngL lo n).length = n := by unfold rngL; simp
theorem atI_nat' {α : Type} {l : List α} {i : Int} (h : 0 ≤ i) (h2 : i < l.length) : ∃ x, atI l i = some x ∧ l[i.toNat]? = some x ∧ x ∈ l := by
  have h3 : i.toNat < l.length := by omega
  refine ⟨l[i.toNat], ?_, List.getElem?_eq_getElem h3, List.getElem_mem h3⟩
  unfold atI ixN
  rw [if_pos h, if_pos h2]
  exact List.getElem?_eq_getElem h3
theorem atI_eq {α : Type} {l : List α} {i : Int} (h : 0 ≤ i) (h2 : i < l.length) : atI l i = l[i.toNat]? := by
  unfold atI ixN
  rw [if_pos h, if_pos h2]; rfl
/-! ### loops -/
section
variable {S B R α β : Type}
theorem forL_inv {step : S → α → Option (Out S S R)} (I : S → Prop) : ∀ {l : List α} {s : S}, I s → (∀ s x, x ∈ l → I s → ∃ s', step s x = some (.nx s') ∧ I s') → ∃ s', forL (B := B) step s l = some (.nx s') ∧ I s'
  | [], s, h, _ => ⟨s, rfl, h⟩
  | x :: xs, s, h, hs => by
    obtain ⟨s1, e1, h1⟩ := hs s x (by simp) h
    obtain ⟨s2, e2, h2⟩ := forL_inv (l := xs) I h1 (fun s y hy => hs s y (by simp [hy]))
    exact ⟨s2, by unfold forL; rw [e1]; exact e2, h2⟩
theorem forL_invN {step : S → α → Option (Out S S R)} (I : Nat → S → Prop) : ∀ {l : List α} {s : S} {i : Nat}, I i s → (∀ i s x, x ∈ l → I i s → ∃ s', step s x = some (.nx s') ∧ I (i + 1) s') → ∃ s', forL (B := B) step s l = some (.nx s') ∧ I (i + l.length) s'
  | [], s, i, h, _ => ⟨s, rfl, h⟩
  | x :: xs, s, i, h, hs => by
    obtain ⟨s1, e1, h1⟩ := hs i s x (by simp) h
    obtain ⟨s2, e2, h2⟩ := forL_invN (l := xs) I h1 (fun i s y hy => hs i s y (by simp [hy]))
    refine ⟨s2, by unfold forL; rw [e1]; exact e2, ?_⟩
    rw [List.length_cons, Nat.add_comm xs.length, ← Nat.add_assoc]; exact h2
theorem forL_fold {step : S → α → Option (Out S S R)} (f : S → α → S) (I : S → Prop) : ∀ {l : List α} {s : S}, I s → (∀ s x, x ∈ l → I s → step s x = some (.nx (f s x)) ∧ I (f s x)) → forL (B := B) step s l = some (.nx (l.foldl f s)) ∧ I (l.foldl f s)
  | [], s, h, _ => ⟨rfl, h⟩
  | x :: xs, s, h, hs => by
    obtain ⟨e1, h1⟩ := hs s x (by simp) h
    obtain ⟨e2, h2⟩ := forL_fold (l := xs) f I h1 (fun s y hy => hs s y (by simp [hy]))
    exact ⟨by unfold forL; rw [e1]; exact e2, h2⟩
theorem forL_unit {step : Unit → α → Option (Out Unit Unit R)} : ∀ {l : List α}, (∀ x, x ∈ l → step () x = some (.nx ())) → forL (B := B) step () l = some (.nx ())
  | [], _ => rfl
  | x :: xs, hs => by
    unfold forL
    rw [hs x (by simp)]
    exact forL_unit fun y hy => hs y (by simp [hy])
theorem lcL_eq {c : α → Option Bool} {e : α → Option β} {p : α → Bool} {f : α → β} : ∀ {l : List α}, (∀ x, x ∈ l → c x = some (p x)) → (∀ x, x ∈ l → p x = true → e x = some (f x)) → lcL c e l = some ((l.filter p).map f)
  | [], _, _ => rfl
  | x :: xs, hc, he => by
    have ih := lcL_eq (l := xs) (fun y hy => hc y (by simp [hy])) (fun y hy => he y (by simp [hy]))
    unfold lcL
    rw [hc x (by simp), Option.bind_some, ih]
    cases q : p x with
    | true => rw [cond_true, he x (by simp) q, List.filter_cons_of_pos q]; rfl
    | false => rw [cond_false, List.filter_cons_of_neg (by rw [q]; simp)]
theorem lcL_map {e : α → Option β} {f : α → β} {l : List α} (he : ∀ x, x ∈ l → e x = some (f x)) : lcL (fun _ => some true) e l = some (l.map f) := by
  rw [lcL_eq (p := fun _ => true) (fun _ _ => rfl) fun x hx _ => he x hx, List.filter_eq_self.mpr fun _ _ => rfl]
theorem lcL_filter {c : α → Option Bool} {p : α → Bool} {l : List α} (hc : ∀ x, x ∈ l → c x = some (p x)) : lcL c (fun x => some x) l = some (l.filter p) := by
  have h := lcL_eq (f := id) hc (fun x hx _ => rfl : ∀ x, x ∈ l → p x = true → (fun x => some x) x = some (id x))
  rw [List.map_id] at h
  exact h
/-- two comprehensions that agree item by item -/
theorem lcL_congr {c c' : α → Option Bool} {e e' : α → Option β} : ∀ {l : List α}, (∀ x, x ∈ l → c x = c' x) → (∀ x, x ∈ l → e x = e' x) → lcL c e l = lcL c' e' l
  | [], _, _ => rfl
  | x :: xs, hc, he => by
    unfold lcL
    rw [hc x (by simp), he x (by simp), lcL_congr (fun y hy => hc y (by simp [hy])) (fun y hy => he y (by simp [hy]))]
theorem forL_congr {step step' : S → α → Option (Out S S R)} : ∀ {l : List α} {s : S}, (∀ s x, x ∈ l → step s x = step' s x) → forL (B := B) step s l = forL step' s l
  | [], _, _ => rfl
  | x :: xs, s, h => by
    unfold forL
    rw [h s x (by simp)]
    congr 1
    funext o
    cases o with
    | nx s' => exact forL_congr fun s y hy => h s y (by simp [hy])
    | ct s' => exact forL_congr fun s y hy => h s y (by simp [hy])
    | bk s' => rfl
    | rt r => rfl
end
/-! ### repr -/
class Rp (α : Type) [Enc α] where
  len : α → Nat
  sm : α → Prop
  ok : ∀ x, sm x → (enc x : PyData).showable = true ∧ (enc x : PyData).shown.length ≤ len x
theorem shown_int {i : Int} (h : i.natAbs < 10 ^ 18) : (PyData.shown (.int i)).length ≤ 19 := by
  have := int_text_length_le10 (k := 18) (by decide) h
  simp only [PyData.shown]
  show (Str.ofString (toString i)).length ≤ 19
  have e : (Str.ofString (toString i)).length = (toString i).length := PySem.ofString_length _
  omega
instance : Rp Int := ⟨fun _ => 19, fun i => i.natAbs < 10 ^ 18, fun i h => ⟨by
  show decide (i.natAbs.log2 < 1920) = true
  have := log2_lt64 (n := i.natAbs) (by have : (10 : Nat) ^ 18 < 2 ^ 64 := by decide
                                        omega)
  exact decide_eq_true (by omega), shown_int h⟩⟩
instance : Rp Bool := ⟨fun _ => 5, fun _ => True, fun b _ => by cases b <;> exact ⟨rfl, by decide⟩⟩
theorem rp_all {α : Type} [Enc α] [S : Rp α] : ∀ l : List α, (∀ x, x ∈ l → S.sm x) → PyData.showableAll (l.map enc) = true ∧ ((PyData.shownAll (l.map enc)).map (·.length)).sum + 2 * (PyData.shownAll (l.map enc)).length ≤ (l.map fun x => S.len x + 2).sum
  | [], _ => ⟨rfl, Nat.le_refl _⟩
  | x :: xs, h => by
    obtain ⟨h1, h2⟩ := rp_all xs fun y hy => h y (by simp [hy])
    obtain ⟨h3, h4⟩ := S.ok x (h x (by simp))
    refine ⟨?_, ?_⟩
    · show ((enc x : PyData).showable && PyData.showableAll (xs.map enc)) = true
      rw [h3, h1]; rfl
    · show ((((enc x : PyData).shown :: PyData.shownAll (xs.map enc)).map (·.length)).sum + 2 * ((enc x : PyData).shown :: PyData.shownAll (xs.map enc)).length) ≤ ((x :: xs).map fun x => S.len x + 2).sum
      simp only [List.map_cons, List.sum_cons, List.length_cons]
      omega
instance {α : Type} [Enc α] [S : Rp α] : Rp (List α) := ⟨fun l => (l.map fun x => S.len x + 2).sum + 3, fun l => ∀ x, x ∈ l → S.sm x, fun l h => by
  obtain ⟨h1, h2⟩ := rp_all l h
  refine ⟨h1, ?_⟩
  have := listText_len_le (PyData.shownAll (l.map enc))
  show (listText (PyData.shownAll (l.map enc))).length ≤ _
  omega⟩
instance {α : Type} [Enc α] [S : Rp α] : Rp (Tup α) := ⟨fun l => (l.l.map fun x => S.len x + 2).sum + 3, fun l => ∀ x, x ∈ l.l → S.sm x, fun l h => by
  obtain ⟨h1, h2⟩ := rp_all l.l h
  refine ⟨h1, ?_⟩
  have := tupleText_len_le (PyData.shownAll (l.l.map enc))
  show (tupleText (PyData.shownAll (l.l.map enc))).length ≤ _
  omega⟩
instance {α β : Type} [Enc α] [Enc β] [S : Rp α] [T : Rp β] : Rp (T2 α β) := ⟨fun t => S.len t.a + T.len t.b + 7, fun t => S.sm t.a ∧ T.sm t.b, fun t h => by
  obtain ⟨h1, h2⟩ := S.ok t.a h.1
  obtain ⟨h3, h4⟩ := T.ok t.b h.2
  refine ⟨?_, ?_⟩
  · show ((enc t.a : PyData).showable && ((enc t.b : PyData).showable && true)) = true
    rw [h1, h3]; rfl
  · have := tupleText_len_le [(enc t.a : PyData).shown, (enc t.b : PyData).shown]
    show (tupleText [(enc t.a : PyData).shown, (enc t.b : PyData).shown]).length ≤ _
    simp only [List.map_cons, List.map_nil, List.sum_cons, List.sum_nil, List.length_cons, List.length_nil] at this
    omega⟩
instance {α : Type} [Enc α] [S : Rp α] : Rp (Option α) := ⟨fun o => match o with | none => 4 | some x => S.len x, fun o => ∀ x, o = some x → S.sm x, fun o h => by
  cases o with
  | none => exact ⟨rfl, show 4 ≤ 4 from Nat.le_refl _⟩
  | some x => exact S.ok x (h x rfl)⟩
theorem repr_ok {α : Type} [Enc α] [S : Rp α] {x : α} (h : S.sm x) (h2 : S.len x ≤ 16777216) : reprD (enc x) = some (enc x : PyData).shown := by
  obtain ⟨h3, h4⟩ := S.ok x h
  exact if_pos ⟨h3, by rw [sizeLine_val]; omega⟩
theorem len_list {α : Type} [Enc α] [S : Rp α] (c : Nat) : ∀ (l : List α), (∀ x, x ∈ l → S.len x ≤ c) → Rp.len l ≤ l.length * (c + 2) + 3 := by
  intro l h
  show (l.map fun x => S.len x + 2).sum + 3 ≤ _
  have : (l.map fun x => S.len x + 2).sum ≤ l.length * (c + 2) := by
    induction l with
    | nil => simp
    | cons x xs ih =>
      have h1 := ih fun y hy => h y (by simp [hy])
      have h2 := h x (by simp)
      simp only [List.map_cons, List.sum_cons, List.length_cons, Nat.add_mul, Nat.one_mul]
      omega
  omega
/-! ### a mirror that ends well -/
def Ok {α : Type} (o : Option α) (P : α → Prop) : Prop := ∃ x, o = some x ∧ P x
section
variable {α β γ δ ε S S' B R : Type}
theorem ok_mono {o : Option α} {P Q : α → Prop} (h : Ok o P) (w : ∀ x, P x → Q x) : Ok o Q := let ⟨x, e, p⟩ := h; ⟨x, e, w x p⟩
theorem ok_some {x : α} {P : α → Prop} : Ok (some x) P ↔ P x := ⟨fun ⟨_, e, p⟩ => by cases e; exact p, fun p => ⟨x, rfl, p⟩⟩
theorem ok_none {P : α → Prop} : Ok (none : Option α) P ↔ False := ⟨fun ⟨_, e, _⟩ => (nomatch e), False.elim⟩
theorem ok_bind {o : Option α} {k : α → Option β} {P : β → Prop} : Ok (o.bind k) P ↔ Ok o fun x => Ok (k x) P :=
  ⟨fun ⟨y, e, p⟩ => let ⟨x, h1, h2⟩ := bind_get e; ⟨x, h1, y, h2, p⟩, fun ⟨x, h1, y, h2, p⟩ => ⟨y, by rw [h1]; exact h2, p⟩⟩
theorem ok_lift1 {f : α → β} {o : Option α} {P : β → Prop} : Ok (lift1 f o) P ↔ Ok o fun x => P (f x) := by unfold lift1; rw [ok_bind]; simp only [ok_some]
theorem ok_lift2 {f : α → β → γ} {a : Option α} {b : Option β} {P : γ → Prop} : Ok (lift2 f a b) P ↔ Ok a fun x => Ok b fun y => P (f x y) := by unfold lift2; simp only [ok_bind, ok_some]
theorem ok_lift3 {f : α → β → γ → δ} {a : Option α} {b : Option β} {c : Option γ} {P : δ → Prop} : Ok (lift3 f a b c) P ↔ Ok a fun x => Ok b fun y => Ok c fun z => P (f x y z) := by unfold lift3; simp only [ok_bind, ok_some]
theorem ok_lift4 {f : α → β → γ → δ → ε} {a : Option α} {b : Option β} {c : Option γ} {d : Option δ} {P : ε → Prop} : Ok (lift4 f a b c d) P ↔ Ok a fun x => Ok b fun y => Ok c fun z => Ok d fun w => P (f x y z w) := by unfold lift4; simp only [ok_bind, ok_some]
theorem ok_bind2 {f : α → β → Option γ} {a : Option α} {b : Option β} {P : γ → Prop} : Ok (bind2 f a b) P ↔ Ok a fun x => Ok b fun y => Ok (f x y) P := by unfold bind2; simp only [ok_bind]
theorem ok_app1 {m : α → Option β} {a : Option α} {P : β → Prop} : Ok (app1 m a) P ↔ Ok a fun x => Ok (m x) P := by unfold app1; simp only [ok_bind]
theorem ok_app2 {m : α → β → Option γ} {a : Option α} {b : Option β} {P : γ → Prop} : Ok (app2 m a b) P ↔ Ok a fun x => Ok b fun y => Ok (m x y) P := by unfold app2; simp only [ok_bind]
theorem ok_app3 {m : α → β → γ → Option δ} {a : Option α} {b : Option β} {c : Option γ} {P : δ → Prop} : Ok (app3 m a b c) P ↔ Ok a fun x => Ok b fun y => Ok c fun z => Ok (m x y z) P := by unfold app3; simp only [ok_bind]
theorem ok_app4 {m : α → β → γ → δ → Option ε} {a : Option α} {b : Option β} {c : Option γ} {d : Option δ} {P : ε → Prop} : Ok (app4 m a b c d) P ↔ Ok a fun x => Ok b fun y => Ok c fun z => Ok d fun w => Ok (m x y z w) P := by unfold app4; simp only [ok_bind]
theorem ok_bif {t : Bool} {a b : Option α} {P : α → Prop} : Ok (bif t then a else b) P ↔ (t = true → Ok a P) ∧ (t = false → Ok b P) := by cases t <;> simp
theorem ok_andG {a b : Option Bool} {P : Bool → Prop} : Ok (andG a b) P ↔ Ok a fun x => (x = true → Ok b P) ∧ (x = false → P false) := by unfold andG; simp only [ok_bind, ok_bif, ok_some]
theorem ok_orG {a b : Option Bool} {P : Bool → Prop} : Ok (orG a b) P ↔ Ok a fun x => (x = true → P true) ∧ (x = false → Ok b P) := by unfold orG; simp only [ok_bind, ok_bif, ok_some]
theorem ok_chain {f g : Int → Int → Bool} {a b c : Option Int} {P : Bool → Prop} : Ok (chainG f g a b c) P ↔ Ok a fun x => Ok b fun y => (f x y = true → Ok c fun z => P (g y z)) ∧ (f x y = false → P false) := by unfold chainG; simp only [ok_bind, ok_bif, ok_some]
/-- what follows a block -/
def BO (k : S → Option (Out S' B R)) (P : Out S' B R → Prop) : Out S B R → Prop
  | .nx s => Ok (k s) P
  | .bk b => P (.bk b)
  | .ct b => P (.ct b)
  | .rt r => P (.rt r)
theorem ok_bindOut {o : Option (Out S B R)} {k : S → Option (Out S' B R)} {P : Out S' B R → Prop} : Ok (bindOut o k) P ↔ Ok o (BO k P) := by
  unfold bindOut
  rw [ok_bind]
  constructor
  · rintro ⟨x, h, q⟩
    refine ⟨x, h, ?_⟩
    cases x with
    | nx s => exact q
    | bk s => exact (ok_some (x := Out.bk s) (P := P)).mp q
    | ct s => exact (ok_some (x := Out.ct s) (P := P)).mp q
    | rt s => exact (ok_some (x := Out.rt s) (P := P)).mp q
  · rintro ⟨x, h, q⟩
    refine ⟨x, h, ?_⟩
    cases x with
    | nx s => exact q
    | bk s => exact ok_some.mpr q
    | ct s => exact ok_some.mpr q
    | rt s => exact ok_some.mpr q
theorem bo_nx {k : S → Option (Out S' B R)} {P : Out S' B R → Prop} {s : S} : BO k P (.nx s) ↔ Ok (k s) P := Iff.rfl
theorem bo_rt {k : S → Option (Out S' B R)} {P : Out S' B R → Prop} {s : R} : BO k P (.rt s : Out S B R) ↔ P (.rt s) := Iff.rfl
theorem bo_bk {k : S → Option (Out S' B R)} {P : Out S' B R → Prop} {s : B} : BO k P (.bk s : Out S B R) ↔ P (.bk s) := Iff.rfl
theorem bo_ct {k : S → Option (Out S' B R)} {P : Out S' B R → Prop} {s : B} : BO k P (.ct s : Out S B R) ↔ P (.ct s) := Iff.rfl
def FO (d : Option R) (P : R → Prop) : Out Unit Unit R → Prop
  | .nx _ => Ok d P
  | .rt r => P r
  | _ => False
theorem ok_finO {d : Option R} {o : Option (Out Unit Unit R)} {P : R → Prop} : Ok (finO d o) P ↔ Ok o (FO d P) := by
  unfold finO
  rw [ok_bind]
  constructor
  · rintro ⟨x, h, q⟩
    refine ⟨x, h, ?_⟩
    cases x with
    | nx s => exact q
    | bk s => exact (ok_none (P := P)).mp q
    | ct s => exact (ok_none (P := P)).mp q
    | rt s => exact (ok_some (x := s) (P := P)).mp q
  · rintro ⟨x, h, q⟩
    refine ⟨x, h, ?_⟩
    cases x with
    | nx s => exact q
    | bk s => exact ok_none.mpr q
    | ct s => exact ok_none.mpr q
    | rt s => exact ok_some.mpr q
theorem fo_nx {d : Option R} {P : R → Prop} {s : Unit} : FO d P (.nx s) ↔ Ok d P := Iff.rfl
theorem fo_rt {d : Option R} {P : R → Prop} {s : R} : FO d P (.rt s) ↔ P s := Iff.rfl
/-- the block falls through with I -/
def Nx (I : S → Prop) : Out S B R → Prop
  | .nx s => I s
  | _ => False
theorem nx_nx {I : S → Prop} {s : S} : Nx I (.nx s : Out S B R) ↔ I s := Iff.rfl
theorem nx_rt {I : S → Prop} {s : R} : Nx I (.rt s : Out S B R) ↔ False := Iff.rfl
theorem ok_for {step : S → α → Option (Out S S R)} {P : Out S B R → Prop} (I : Nat → S → Prop) {l : List α} {s : S} (h0 : I 0 s) (hs : ∀ i s x, l[i]? = some x → I i s → Ok (step s x) (Nx (I (i + 1)))) (hk : ∀ s, I l.length s → P (.nx s)) : Ok (forL step s l) P := by
  have key : ∀ (m : List α) (i : Nat) (s : S), l.drop i = m → I i s → ∃ s', forL (B := B) step s m = some (.nx s') ∧ I (i + m.length) s' := by
    intro m
    induction m with
    | nil => exact fun i s _ h => ⟨s, rfl, h⟩
    | cons x m ih =>
      intro i s hm h
      have hx : l[i]? = some x := by
        rw [← List.head?_drop, hm]; rfl
      obtain ⟨o, e1, h1⟩ := hs i s x hx h
      cases o with
      | nx s1 =>
        obtain ⟨s2, e2, h2⟩ := ih (i + 1) s1 (by rw [← List.tail_drop, hm]; rfl) h1
        exact ⟨s2, by unfold forL; rw [e1]; exact e2, by rw [List.length_cons, Nat.add_comm m.length, ← Nat.add_assoc]; exact h2⟩
      | bk b => exact False.elim h1
      | ct b => exact False.elim h1
      | rt b => exact False.elim h1
  obtain ⟨s', e, h⟩ := key l 0 s rfl h0
  exact ⟨_, e, hk s' (by rw [Nat.zero_add] at h; exact h)⟩
theorem ok_while {c : S → Option Bool} {b : S → Option (Out S S R)} {P : Out S B R → Prop} (I : S → Prop) (μ : S → Nat) (hs : ∀ s, I s → Ok (c s) fun t => (t = true → Ok (b s) (Nx fun s' => I s' ∧ μ s' < μ s)) ∧ (t = false → P (.nx s))) :
    ∀ (n : Nat) (s : S), I s → μ s < n → Ok (whileF c b n s) P
  | 0, _, _, h => absurd h (Nat.not_lt_zero _)
  | n + 1, s, hI, hn => by
    unfold whileF
    rw [ok_bind]
    refine ok_mono (hs s hI) fun t ⟨h1, h2⟩ => ?_
    rw [ok_bif]
    refine ⟨fun e => ?_, fun e => ok_some.mpr (h2 e)⟩
    rw [ok_bind]
    refine ok_mono (h1 e) fun o ho => ?_
    cases o with
    | nx s' => exact ok_while I μ hs n s' ho.1 (by have := ho.2; omega)
    | bk b => exact False.elim ho
    | ct b => exact False.elim ho
    | rt b => exact False.elim ho
theorem ok_lc {c : α → Option Bool} {e : α → Option β} {P : List β → Prop} (p : α → Bool) (f : α → β) {l : List α} (hc : ∀ x, x ∈ l → c x = some (p x)) (he : ∀ x, x ∈ l → p x = true → e x = some (f x)) (h : P ((l.filter p).map f)) : Ok (lcL c e l) P := ⟨_, lcL_eq hc he, h⟩
theorem ok_map {e : α → Option β} {P : List β → Prop} (f : α → β) {l : List α} (he : ∀ x, x ∈ l → e x = some (f x)) (h : P (l.map f)) : Ok (lcL (fun _ => some true) e l) P := ⟨_, lcL_map he, h⟩
theorem ok_filter {c : α → Option Bool} {P : List α → Prop} (p : α → Bool) {l : List α} (hc : ∀ x, x ∈ l → c x = some (p x)) (h : P (l.filter p)) : Ok (lcL c (fun x => some x) l) P := ⟨_, lcL_filter hc, h⟩
theorem ok_iff {o : Option α} {v : α} : o = some v ↔ Ok o fun x => x = v := ⟨fun h => ⟨v, h, rfl⟩, fun ⟨_, e, h⟩ => h ▸ e⟩
theorem ok_of {o : Option α} {v : α} {P : α → Prop} (h : o = some v) (p : P v) : Ok o P := ⟨v, h, p⟩
/-- every item has a good value: then the list -/
theorem ok_all {e : α → Option β} {P : List β → Prop} (Q : α → β → Prop) : ∀ {l : List α}, (∀ x, x ∈ l → Ok (e x) (Q x)) → (∀ m : List β, m.length = l.length → (∀ (i : Nat) x y, l[i]? = some x → m[i]? = some y → Q x y) → P m) → Ok (lcL (fun _ => some true) e l) P := by
  intro l
  induction l generalizing P with
  | nil => exact fun _ h => ⟨[], rfl, h [] rfl fun i x y h => by simp at h⟩
  | cons x xs ih =>
    intro he h
    obtain ⟨y, e1, q1⟩ := he x (by simp)
    obtain ⟨m, e2, p⟩ := ih (P := fun m => P (y :: m)) (fun z hz => he z (by simp [hz])) fun m hm hq => h (y :: m) (by simp [hm]) fun i a b ha hb => by
      cases i with
      | zero => simp at ha hb; subst ha hb; exact q1
      | succ i => exact hq i a b (by simpa using ha) (by simpa using hb)
    refine ⟨y :: m, ?_, p⟩
    unfold lcL
    rw [Option.bind_some, cond_true, e1, Option.bind_some, e2]; rfl
def MulOk (i j : Int) : Prop := i.natAbs.log2 + j.natAbs.log2 < 1000000
theorem ok_mul {i j : Int} {P : Int → Prop} : Ok (mulG i j) P ↔ MulOk i j ∧ P (i * j) := by
  unfold mulG MulOk
  split <;> rename_i h
  · rw [ok_some]; simp [h]
  · rw [ok_none]; simp [h]
theorem mulOk {i j : Int} (hi : i.natAbs < 2 ^ 64) (hj : j.natAbs < 2 ^ 64) : MulOk i j := by
  have h1 := log2_lt64 hi
  have h2 := log2_lt64 hj
  unfold MulOk; omega
theorem ok_mod {i j : Int} {P : Int → Prop} : Ok (modG i j) P ↔ 0 < j ∧ P (i % j) := by
  unfold modG
  split <;> rename_i h
  · rw [ok_some]; simp [h]
  · rw [ok_none]; simp [h]
def DivOk (j : Int) : Prop := 0 < j ∧ j.natAbs.log2 < 9000
theorem divOk {j : Int} (h : 0 < j) (h2 : j.natAbs < 2 ^ 64) : DivOk j := ⟨h, by have := log2_lt64 h2; omega⟩
theorem ok_div {i j : Int} {P : Int → Prop} : Ok (divG i j) P ↔ DivOk j ∧ P (i / j) := by
  unfold divG DivOk
  split <;> rename_i h
  · rw [ok_some]; simp [h]
  · rw [ok_none]; simp [h]
theorem ok_appG {l : List α} {x : α} {P : List α → Prop} : Ok (appG l x) P ↔ l.length < 16777216 ∧ P (l ++ [x]) := by
  unfold appG
  rw [sizeLine_val]
  split <;> rename_i h
  · rw [ok_some]; simp [h]
  · rw [ok_none]; simp [h]
theorem ok_szG {l : List α} {P : List α → Prop} : Ok (szG l) P ↔ l.length ≤ 16777216 ∧ P l := by
  unfold szG
  rw [sizeLine_val]
  split <;> rename_i h
  · rw [ok_some]; simp [h]
  · rw [ok_none]; simp [h]
theorem ok_catG {l m : List α} {P : List α → Prop} : Ok (catG l m) P ↔ l.length + m.length ≤ 16777216 ∧ P (l ++ m) := by
  unfold catG
  rw [sizeLine_val]
  split <;> rename_i h
  · rw [ok_some]; simp [h]
  · rw [ok_none]; simp [h]
theorem ok_rng1 {j : Int} {P : List Int → Prop} (h : 0 ≤ j) (h2 : j ≤ 16777216) (p : P (rngL 0 j.toNat)) : Ok (rng1 j) P := ⟨_, rng1_of h h2, p⟩
theorem ok_atI {l : List α} {i : Int} {P : α → Prop} (h : 0 ≤ i) (h2 : i < l.length) (p : ∀ x, l[i.toNat]? = some x → x ∈ l → P x) : Ok (atI l i) P := by
  obtain ⟨x, h1, h3, h4⟩ := atI_nat' h h2
  exact ⟨x, h1, p x h3 h4⟩
end

section
variable {α β : Type}
theorem ok_allP {e : α → Option β} {P : List β → Prop} {l : List α} (Q : β → Prop) (he : ∀ x, x ∈ l → Ok (e x) Q) (h : ∀ m : List β, m.length = l.length → (∀ y, y ∈ m → Q y) → P m) : Ok (lcL (fun _ => some true) e l) P :=
  ok_all (fun _ y => Q y) he fun m hm hq => h m hm fun y hy => by
    obtain ⟨i, hi, e⟩ := List.mem_iff_getElem.mp hy
    exact hq i _ y (List.getElem?_eq_getElem (by omega)) (by rw [List.getElem?_eq_getElem hi, e])
theorem sum_bound {a b : Int} : ∀ {l : List Int}, (∀ w, w ∈ l → a ≤ w ∧ w ≤ b) → a * l.length ≤ l.sum ∧ l.sum ≤ b * l.length
  | [], _ => by simp
  | x :: xs, h => by
    obtain ⟨h1, h2⟩ := sum_bound (l := xs) fun w hw => h w (by simp [hw])
    obtain ⟨h3, h4⟩ := h x (by simp)
    simp only [List.sum_cons, List.length_cons, Int.natCast_add, Int.mul_add, Int.natCast_one, Int.mul_one]
    omega
theorem enumL_eq {l : List Int} : enumL l = (rngL 0 l.length).map fun k => T2.mk k (l.getD k.toNat 0) := by
  apply List.ext_getElem?
  intro i
  unfold enumL rngL
  rw [List.getElem?_zipWith, List.map_map, List.getElem?_map]
  by_cases c : i < l.length
  · rw [List.getElem?_range c, List.getElem?_eq_getElem c]
    simp [List.getElem?_eq_getElem c]
  · rw [List.getElem?_eq_none (by rw [List.length_range]; omega)]
    rfl
theorem maxL_ok {l : List Int} {P : Int → Prop} (h : l ≠ []) (hp : ∀ m, m ∈ l → (∀ x, x ∈ l → x ≤ m) → P m) : Ok (maxL l) P := by
  cases l with
  | nil => exact absurd rfl h
  | cons x xs =>
    have key : ∀ (ys : List Int) (m : Int), (ys.foldl (fun m y => if y > m then y else m) m = m ∨ ys.foldl (fun m y => if y > m then y else m) m ∈ ys) ∧ m ≤ ys.foldl (fun m y => if y > m then y else m) m ∧ ∀ y, y ∈ ys → y ≤ ys.foldl (fun m y => if y > m then y else m) m := by
      intro ys
      induction ys with
      | nil => exact fun m => ⟨.inl rfl, Int.le_refl _, fun y h => by simp at h⟩
      | cons y ys ih =>
        intro m
        obtain ⟨h1, h2, h3⟩ := ih (if y > m then y else m)
        rw [List.foldl_cons]
        refine ⟨?_, ?_, ?_⟩
        · rcases h1 with h1 | h1
          · rw [h1]
            split
            · exact .inr (by simp)
            · exact .inl rfl
          · exact .inr (by simp [h1])
        · have : m ≤ (if y > m then y else m) := by split <;> omega
          omega
        · intro z hz
          rw [List.mem_cons] at hz
          rcases hz with hz | hz
          · subst hz
            have : z ≤ (if z > m then z else m) := by split <;> omega
            omega
          · exact h3 z hz
    obtain ⟨h1, h2, h3⟩ := key xs x
    refine ⟨_, rfl, hp _ ?_ ?_⟩
    · rcases h1 with h1 | h1
      · rw [h1]; simp
      · simp [h1]
    · intro z hz
      rw [List.mem_cons] at hz
      rcases hz with hz | hz
      · subst hz; exact h2
      · exact h3 z hz
theorem ok_sortD [Enc α] [S : SortT α] {l : List α} {P : List α → Prop} (h : S.ok l = true) (h2 : l.length ≤ 16777216) (p : P (l.mergeSort leD)) : Ok (sortD l) P := ⟨_, if_pos ⟨h, by rw [sizeLine_val]; exact h2⟩, p⟩
theorem filter_sub [DecidableEq α] {l t : List α} (hn : l.Nodup) (h : t.Sublist l) : l.filter (fun x => decide (x ∈ t)) = t := by
  induction h with
  | slnil => rfl
  | @cons t l x h ih =>
    have hx := (List.nodup_cons.mp hn).1
    rw [List.filter_cons_of_neg (by simp; exact fun c => hx (h.subset c))]
    exact ih (List.nodup_cons.mp hn).2
  | @cons_cons t l x h ih =>
    have hx := (List.nodup_cons.mp hn).1
    rw [List.filter_cons_of_pos (by simp)]
    congr 1
    refine Eq.trans ?_ (ih (List.nodup_cons.mp hn).2)
    apply List.filter_congr
    intro y hy
    have : y ≠ x := fun c => hx (c ▸ hy)
    simp [this]
theorem rng_nodup {lo : Int} {n : Nat} : (rngL lo n).Nodup := by
  unfold rngL
  exact List.Pairwise.map _ (fun a b h c => h (by omega)) List.nodup_range
end
end Lay

set_option Elab.async false
set_option linter.all false
set_option maxRecDepth 100000
namespace Lay.K46
open PySem PySem.Spec PyProof.Rows L2 Lay
open Lay.Enc (enc)
def b__law_draws (a_script : (List Int)) : Option (Out Unit Unit (List Int)) := (Option.bind (Option.bind (some ([] : List Int)) szG) fun (v_draws_1 : (List Int)) => (Option.bind (Option.bind (lift2 (fun i j => if j < i then j else i) (some (63 : Int)) (lift1 (fun l => (l.length : Int)) (some a_script))) rng1) fun l => bindOut (forL (fun (s2 : (List Int)) (y3 : Int) => (Option.bind (lift1 (fun i => if i < 0 then -i else i) (Option.bind (some y3) fun j => atI a_script j)) fun (v_rest_4 : Int) => (Option.bind (lift2 (fun i j => decide (j ≤ i)) (some v_rest_4) (bind2 powG (some (10 : Int)) (some (18 : Int)))) fun t => bindOut (bif t then (Option.bind (Option.bind (some (60 : Int)) rng1) fun l => bindOut (forL (fun (s6 : ((List Int) × Int)) (y7 : Int) => (Option.bind (lift2 (fun i j => decide (j < i)) (some s6.2) (some (0 : Int))) fun t => bindOut (bif t then (Option.bind (Option.bind (bind2 modG (some s6.2) (some (65536 : Int))) (appG s6.1)) fun (v9 : (List Int)) => (Option.bind (bind2 divG (some s6.2) (some (65536 : Int))) fun (v_rest_10 : Int) => (some (Out.nx (v9, v_rest_10))))) else (some (Out.nx (s6.1, s6.2)))) fun (s8 : ((List Int) × Int)) => (some (Out.nx (s8.1, s8.2))))) (s2, v_rest_4) l) fun (s6 : ((List Int) × Int)) => (some (Out.nx s6.1))) else (Option.bind (bind2 modG (lift2 (· + ·) (bind2 mulG (some v_rest_4) (some (48271 : Int))) (bind2 mulG (lift2 (· + ·) (some y3) (some (1 : Int))) (some (69621 : Int)))) (some (2147483647 : Int))) fun (v_mixed_11 : Int) => (Option.bind (bind2 modG (lift2 (· + ·) (lift2 (· + ·) (bind2 mulG (some v_mixed_11) (some (16807 : Int))) (bind2 mulG (some (11 : Int)) (some y3))) (some (5 : Int))) (some (2147483629 : Int))) fun (v_mixed_12 : Int) => (Option.bind (Option.bind (bind2 modG (some v_mixed_12) (some (65536 : Int))) (appG s2)) fun (v13 : (List Int)) => (Option.bind (Option.bind (bind2 modG (bind2 divG (some v_mixed_12) (some (65536 : Int))) (some (32768 : Int))) (appG v13)) fun (v14 : (List Int)) => (some (Out.nx v14))))))) fun (s5 : (List Int)) => (some (Out.nx s5))))) v_draws_1 l) fun (s2 : (List Int)) => (Option.bind (some s2) fun r => some (Out.rt r))))
def m__law_draws (a_script : (List Int)) : Option (List Int) := finO none (b__law_draws a_script)
def b__law_mix (a_draws : (List Int)) (a_k : Int) (a_many : Int) : Option (Out Unit Unit Int) := (Option.bind (some (0 : Int)) fun (v_cell_1 : Int) => (Option.bind (lift2 (fun i j => decide (j < i)) (lift1 (fun l => (l.length : Int)) (some a_draws)) (some (0 : Int))) fun t => bindOut (bif t then (Option.bind (bind2 atI (some a_draws) (bind2 modG (some a_k) (lift1 (fun l => (l.length : Int)) (some a_draws)))) fun (v_cell_3 : Int) => (some (Out.nx v_cell_3))) else (some (Out.nx v_cell_1))) fun (s2 : Int) => (Option.bind (lift2 (fun i j => decide (i < j)) (some a_k) (lift1 (fun l => (l.length : Int)) (some a_draws))) fun t => bindOut (bif t then (Option.bind (bind2 modG (some s2) (some a_many)) fun r => some (Out.rt r)) else (some (Out.nx ()))) fun (s4 : Unit) => (Option.bind (bind2 modG (bind2 divG (lift2 (· + ·) (bind2 mulG (some s2) (some (7919 : Int))) (bind2 mulG (some a_k) (some (104729 : Int)))) (some (3 : Int))) (some a_many)) fun r => some (Out.rt r)))))
def m__law_mix (a_draws : (List Int)) (a_k : Int) (a_many : Int) : Option Int := finO none (b__law_mix a_draws a_k a_many)
def b__law_sack (a_draws : (List Int)) (a_first : Int) (a_most : Int) : Option (Out Unit Unit (T2 (List Int) Int)) := (Option.bind (lift2 (· + ·) (some (1 : Int)) (app3 m__law_mix (some a_draws) (some a_first) (some a_most))) fun (v_many_1 : Int) => (Option.bind (bind2 atI (Option.bind (lift2 List.cons (some (6 : Int)) (lift2 List.cons (some (50 : Int)) (some ([] : List Int)))) szG) (app3 m__law_mix (some a_draws) (lift2 (· + ·) (some a_first) (some (1 : Int))) (some (2 : Int)))) fun (v_top_2 : Int) => (Option.bind (Option.bind (Option.bind (some v_many_1) rng1) (lcL (fun (x4 : Int) => (some true)) (fun (x4 : Int) => (lift2 (· + ·) (some (1 : Int)) (app3 m__law_mix (some a_draws) (lift2 (· + ·) (lift2 (· + ·) (some a_first) (some (3 : Int))) (some x4)) (some v_top_2)))))) fun (v_weights_3 : (List Int)) => (Option.bind (lift2 (fun i j => if j > i then j else i) (some (1 : Int)) (bind2 divG (bind2 mulG (lift1 List.sum (some v_weights_3)) (lift2 (· + ·) (some (1 : Int)) (app3 m__law_mix (some a_draws) (lift2 (· + ·) (some a_first) (some (2 : Int))) (some (7 : Int))))) (some (8 : Int)))) fun (v_room_5 : Int) => (Option.bind (lift2 T2.mk (some v_weights_3) (lift2 (fun i j => if j < i then j else i) (some v_room_5) (some (300 : Int)))) fun r => some (Out.rt r))))))
def m__law_sack (a_draws : (List Int)) (a_first : Int) (a_most : Int) : Option (T2 (List Int) Int) := finO none (b__law_sack a_draws a_first a_most)
def b__law_sets (a_things : (List Int)) : Option (Out Unit Unit (List (List Int))) := (Option.bind (Option.bind (lift2 List.cons (Option.bind (some ([] : List Int)) szG) (some ([] : List (List Int)))) szG) fun (v_found_1 : (List (List Int))) => (Option.bind (some a_things) fun l => bindOut (forL (fun (s2 : (List (List Int))) (y3 : Int) => (Option.bind (bind2 catG (some s2) (Option.bind (some s2) (lcL (fun (x5 : (List Int)) => (some true)) (fun (x5 : (List Int)) => (bind2 catG (some x5) (Option.bind (lift2 List.cons (some y3) (some ([] : List Int))) szG)))))) fun (v_found_4 : (List (List Int))) => (some (Out.nx v_found_4)))) v_found_1 l) fun (s2 : (List (List Int))) => (Option.bind (Option.bind (some s2) sortD) fun r => some (Out.rt r))))
def m__law_sets (a_things : (List Int)) : Option (List (List Int)) := finO none (b__law_sets a_things)
def b__law_fits (a_sack : (T2 (List Int) Int)) : Option (Out Unit Unit (List Int)) := (Option.bind (Option.bind (Option.bind (lift1 (fun l => (l.length : Int)) (lift1 T2.a (some a_sack))) rng1) (lcL (fun (x1 : Int) => (lift2 (fun i j => decide (i ≤ j)) (bind2 atI (lift1 T2.a (some a_sack)) (some x1)) (lift1 T2.b (some a_sack)))) (fun (x1 : Int) => (some x1)))) fun r => some (Out.rt r))
def m__law_fits (a_sack : (T2 (List Int) Int)) : Option (List Int) := finO none (b__law_fits a_sack)
def b__law_weight (a_sack : (T2 (List Int) Int)) (a_told : (List Int)) : Option (Out Unit Unit Int) := (Option.bind (lift1 List.sum (Option.bind (some a_told) (lcL (fun (x1 : Int) => (some true)) (fun (x1 : Int) => (bind2 atI (lift1 T2.a (some a_sack)) (some x1)))))) fun r => some (Out.rt r))
def m__law_weight (a_sack : (T2 (List Int) Int)) (a_told : (List Int)) : Option Int := finO none (b__law_weight a_sack a_told)
def b__law_packings (a_sack : (T2 (List Int) Int)) : Option (Out Unit Unit (List (List Int))) := (Option.bind (Option.bind (app1 m__law_sets (app1 m__law_fits (some a_sack))) (lcL (fun (x1 : (List Int)) => (lift2 (fun i j => decide (i ≤ j)) (app2 m__law_weight (some a_sack) (some x1)) (lift1 T2.b (some a_sack)))) (fun (x1 : (List Int)) => (some x1)))) fun r => some (Out.rt r))
def m__law_packings (a_sack : (T2 (List Int) Int)) : Option (List (List Int)) := finO none (b__law_packings a_sack)
def b_check_sack (a_sack : (T2 (List Int) Int)) : Option (Out Unit Unit Unit) := (Option.bind (some a_sack) fun (u1 : (T2 (List Int) Int)) => (Option.bind (lift1 (fun x => !x) (chainG cLe cLe (some (1 : Int)) (lift1 (fun l => (l.length : Int)) (some u1.a)) (some (7 : Int)))) fun t => bindOut (bif t then none else (some (Out.nx ()))) fun (s2 : Unit) => (Option.bind (lift1 enumL (some u1.a)) fun l => bindOut (forL (fun (s3 : Unit) (y4 : (T2 Int Int)) => (Option.bind (lift1 (fun x => !x) (chainG cLe cLe (some (1 : Int)) (some y4.b) (some (50 : Int)))) fun t => bindOut (bif t then none else (some (Out.nx ()))) fun (s5 : Unit) => (some (Out.nx ())))) () l) fun (s3 : Unit) => (Option.bind (lift1 (fun x => !x) (chainG cLe cLe (some (1 : Int)) (some u1.b) (some (300 : Int)))) fun t => bindOut (bif t then none else (some (Out.nx ()))) fun (s6 : Unit) => (some (Out.nx ()))))))
def m_check_sack (a_sack : (T2 (List Int) Int)) : Option Unit := finO (some ()) (b_check_sack a_sack)
def b_sets_of (a_things : (List Int)) : Option (Out Unit Unit (List (List Int))) := (Option.bind (Option.bind (lift2 List.cons (Option.bind (some ([] : List Int)) szG) (some ([] : List (List Int)))) szG) fun (v_found_1 : (List (List Int))) => (Option.bind (some a_things) fun l => bindOut (forL (fun (s2 : (List (List Int))) (y3 : Int) => (Option.bind (bind2 catG (some s2) (Option.bind (some s2) (lcL (fun (x5 : (List Int)) => (some true)) (fun (x5 : (List Int)) => (Option.bind (lift2 (· ++ ·) (some x5) (lift2 List.cons (some y3) (some ([] : List Int)))) szG))))) fun (v_found_4 : (List (List Int))) => (some (Out.nx v_found_4)))) v_found_1 l) fun (s2 : (List (List Int))) => (Option.bind (Option.bind (some s2) sortD) fun r => some (Out.rt r))))
def m_sets_of (a_things : (List Int)) : Option (List (List Int)) := finO none (b_sets_of a_things)
def b_fitting (a_sack : (T2 (List Int) Int)) : Option (Out Unit Unit (List Int)) := (Option.bind (Option.bind (lift1 enumL (lift1 T2.a (some a_sack))) (lcL (fun (x1 : (T2 Int Int)) => (lift2 (fun i j => decide (i ≤ j)) (some x1.b) (lift1 T2.b (some a_sack)))) (fun (x1 : (T2 Int Int)) => (some x1.a)))) fun r => some (Out.rt r))
def m_fitting (a_sack : (T2 (List Int) Int)) : Option (List Int) := finO none (b_fitting a_sack)
def b_weight_of (a_sack : (T2 (List Int) Int)) (a_told : (List Int)) : Option (Out Unit Unit Int) := (Option.bind (lift1 List.sum (Option.bind (some a_told) (lcL (fun (x1 : Int) => (some true)) (fun (x1 : Int) => (bind2 atI (lift1 T2.a (some a_sack)) (some x1)))))) fun r => some (Out.rt r))
def m_weight_of (a_sack : (T2 (List Int) Int)) (a_told : (List Int)) : Option Int := finO none (b_weight_of a_sack a_told)
def b_packings_of (a_sack : (T2 (List Int) Int)) : Option (Out Unit Unit (List (List Int))) := (Option.bind (Option.bind (app1 m_sets_of (app1 m_fitting (some a_sack))) (lcL (fun (x1 : (List Int)) => (lift2 (fun i j => decide (i ≤ j)) (app2 m_weight_of (some a_sack) (some x1)) (lift1 T2.b (some a_sack)))) (fun (x1 : (List Int)) => (some x1)))) fun r => some (Out.rt r))
def m_packings_of (a_sack : (T2 (List Int) Int)) : Option (List (List Int)) := finO none (b_packings_of a_sack)
def b_packings (a_sack : (T2 (List Int) Int)) : Option (Out Unit Unit (List (List Int))) := (Option.bind (app1 m_check_sack (some a_sack)) fun _ => (Option.bind (app1 m_packings_of (some a_sack)) fun r => some (Out.rt r)))
def m_packings (a_sack : (T2 (List Int) Int)) : Option (List (List Int)) := finO none (b_packings a_sack)
def b_is_cover (a_sack : (T2 (List Int) Int)) (a_told : (List Int)) : Option (Out Unit Unit Bool) := (Option.bind (lift2 (fun x y => !decide (x = y)) (some a_told) (Option.bind (app1 m_fitting (some a_sack)) (lcL (fun (x1 : Int) => (lift2 (fun x l => decide (x ∈ l)) (some x1) (some a_told))) (fun (x1 : Int) => (some x1))))) fun t => bindOut (bif t then (Option.bind (some false) fun r => some (Out.rt r)) else (some (Out.nx ()))) fun (s2 : Unit) => (Option.bind (lift2 (fun i j => decide (j < i)) (app2 m_weight_of (some a_sack) (some a_told)) (lift1 T2.b (some a_sack))) fun r => some (Out.rt r)))
def m_is_cover (a_sack : (T2 (List Int) Int)) (a_told : (List Int)) : Option Bool := finO none (b_is_cover a_sack a_told)
def b_is_least (a_sack : (T2 (List Int) Int)) (a_told : (List Int)) : Option (Out Unit Unit Bool) := (Option.bind (lift1 (fun x => !x) (app2 m_is_cover (some a_sack) (some a_told))) fun t => bindOut (bif t then (Option.bind (some false) fun r => some (Out.rt r)) else (some (Out.nx ()))) fun (s1 : Unit) => (Option.bind (app2 m_weight_of (some a_sack) (some a_told)) fun (v_whole_2 : Int) => (Option.bind (lift1 (fun l => l.all id) (Option.bind (some a_told) (lcL (fun (x3 : Int) => (some true)) (fun (x3 : Int) => (lift2 (fun i j => decide (i ≤ j)) (lift2 (· - ·) (some v_whole_2) (bind2 atI (lift1 T2.a (some a_sack)) (some x3))) (lift1 T2.b (some a_sack))))))) fun r => some (Out.rt r))))
def m_is_least (a_sack : (T2 (List Int) Int)) (a_told : (List Int)) : Option Bool := finO none (b_is_least a_sack a_told)
def b_least_covers (a_sack : (T2 (List Int) Int)) : Option (Out Unit Unit (List (List Int))) := (Option.bind (app1 m_check_sack (some a_sack)) fun _ => (Option.bind (Option.bind (app1 m_sets_of (app1 m_fitting (some a_sack))) (lcL (fun (x1 : (List Int)) => (app2 m_is_least (some a_sack) (some x1))) (fun (x1 : (List Int)) => (some x1)))) fun r => some (Out.rt r)))
def m_least_covers (a_sack : (T2 (List Int) Int)) : Option (List (List Int)) := finO none (b_least_covers a_sack)
def b__law_fraction (a_n : Int) (a_d : Int) : Option (Out Unit Unit (T2 Int Int)) := (Option.bind (lift1 (fun i => if i < 0 then -i else i) (some a_n)) fun (v_one_1 : Int) => Option.bind (lift1 (fun i => if i < 0 then -i else i) (some a_d)) fun (v_two_2 : Int) => (bindOut (whileF (fun (s3 : (Int × Int)) => (lift2 (fun i j => !decide (i = j)) (some s3.2) (some (0 : Int)))) (fun (s3 : (Int × Int)) => (Option.bind (some s3.2) fun (v_one_4 : Int) => Option.bind (bind2 modG (some s3.1) (some s3.2)) fun (v_two_5 : Int) => (some (Out.nx (v_one_4, v_two_5))))) (v_one_1.natAbs + v_two_2.natAbs + 2) (v_one_1, v_two_2)) fun (s3 : (Int × Int)) => (Option.bind (lift2 (fun i j => decide (i < j)) (some a_d) (some (0 : Int))) fun t => bindOut (bif t then (Option.bind (lift2 T2.mk (bind2 divG (lift1 (fun i => -i) (some a_n)) (some s3.1)) (bind2 divG (lift1 (fun i => -i) (some a_d)) (some s3.1))) fun r => some (Out.rt r)) else (some (Out.nx ()))) fun (s6 : Unit) => (Option.bind (lift2 T2.mk (bind2 divG (some a_n) (some s3.1)) (bind2 divG (some a_d) (some s3.1))) fun r => some (Out.rt r)))))
def m__law_fraction (a_n : Int) (a_d : Int) : Option (T2 Int Int) := finO none (b__law_fraction a_n a_d)
def b__law_points (a_draws : (List Int)) (a_first : Int) (a_sack : (T2 (List Int) Int)) : Option (Out Unit Unit (List (List (T2 Int Int)))) := (Option.bind (lift1 (fun l => (l.length : Int)) (lift1 T2.a (some a_sack))) fun (v_many_1 : Int) => (Option.bind (Option.bind (lift2 List.cons (Option.bind (Option.bind (some v_many_1) rng1) (lcL (fun (x3 : Int) => (some true)) (fun (x3 : Int) => (app2 m__law_fraction (app3 m__law_mix (some a_draws) (lift2 (· + ·) (some a_first) (some x3)) (some (7 : Int))) (some (6 : Int)))))) (lift2 List.cons (bind2 repG (Option.bind (lift2 List.cons (lift2 T2.mk (some (1 : Int)) (some (2 : Int))) (some ([] : List (T2 Int Int)))) szG) (some v_many_1)) (some ([] : List (List (T2 Int Int)))))) szG) fun (v_found_2 : (List (List (T2 Int Int)))) => (Option.bind (app1 m__law_packings (some a_sack)) fun (v_every_4 : (List (List Int))) => (Option.bind (Option.bind (Option.bind (some (3 : Int)) rng1) (lcL (fun (x6 : Int) => (some true)) (fun (x6 : Int) => (bind2 atI (some v_every_4) (app3 m__law_mix (some a_draws) (lift2 (· + ·) (lift2 (· + ·) (some a_first) (some (20 : Int))) (some x6)) (lift1 (fun l => (l.length : Int)) (some v_every_4))))))) fun (v_some_5 : (List (List Int))) => (Option.bind (Option.bind (Option.bind (Option.bind (some v_many_1) rng1) (lcL (fun (x7 : Int) => (some true)) (fun (x7 : Int) => (app2 m__law_fraction (lift1 (fun l => (l.length : Int)) (Option.bind (some v_some_5) (lcL (fun (x8 : (List Int)) => (lift2 (fun x l => decide (x ∈ l)) (some x7) (some x8))) (fun (x8 : (List Int)) => (some x8))))) (some (3 : Int)))))) (appG v_found_2)) fun (v9 : (List (List (T2 Int Int)))) => (Option.bind (some v9) fun r => some (Out.rt r)))))))
def m__law_points (a_draws : (List Int)) (a_first : Int) (a_sack : (T2 (List Int) Int)) : Option (List (List (T2 Int Int))) := finO none (b__law_points a_draws a_first a_sack)
def b_check_cover (a_sack : (T2 (List Int) Int)) (a_cover : (List Int)) : Option (Out Unit Unit Unit) := (Option.bind (app1 m_check_sack (some a_sack)) fun _ => (Option.bind (lift1 (fun x => !x) (app2 m_is_cover (some a_sack) (some a_cover))) fun t => bindOut (bif t then none else (some (Out.nx ()))) fun (s1 : Unit) => (some (Out.nx ()))))
def m_check_cover (a_sack : (T2 (List Int) Int)) (a_cover : (List Int)) : Option Unit := finO (some ()) (b_check_cover a_sack a_cover)
def b_cover_row (a_sack : (T2 (List Int) Int)) (a_cover : (List Int)) : Option (Out Unit Unit (T2 (List Int) Int)) := (Option.bind (app2 m_check_cover (some a_sack) (some a_cover)) fun _ => (Option.bind (lift2 T2.mk (Option.bind (Option.bind (lift1 (fun l => (l.length : Int)) (lift1 T2.a (some a_sack))) rng1) (lcL (fun (x1 : Int) => (some true)) (fun (x1 : Int) => (lift1 (fun b => if b = true then (1 : Int) else 0) (lift2 (fun x l => decide (x ∈ l)) (some x1) (some a_cover)))))) (lift2 (· - ·) (lift1 (fun l => (l.length : Int)) (some a_cover)) (some (1 : Int)))) fun r => some (Out.rt r)))
def m_cover_row (a_sack : (T2 (List Int) Int)) (a_cover : (List Int)) : Option (T2 (List Int) Int) := finO none (b_cover_row a_sack a_cover)
def b_wide_row (a_sack : (T2 (List Int) Int)) (a_cover : (List Int)) : Option (Out Unit Unit (T2 (List Int) Int)) := (Option.bind (app2 m_check_cover (some a_sack) (some a_cover)) fun _ => (Option.bind (Option.bind (Option.bind (some a_cover) (lcL (fun (x2 : Int) => (some true)) (fun (x2 : Int) => (bind2 atI (lift1 T2.a (some a_sack)) (some x2))))) maxL) fun (v_heaviest_1 : Int) => (Option.bind (Option.bind (app1 m_fitting (some a_sack)) (lcL (fun (x4 : Int) => (orG (lift2 (fun x l => decide (x ∈ l)) (some x4) (some a_cover)) (lift2 (fun i j => decide (j ≤ i)) (bind2 atI (lift1 T2.a (some a_sack)) (some x4)) (some v_heaviest_1)))) (fun (x4 : Int) => (some x4)))) fun (v_wide_3 : (List Int)) => (Option.bind (lift2 T2.mk (Option.bind (Option.bind (lift1 (fun l => (l.length : Int)) (lift1 T2.a (some a_sack))) rng1) (lcL (fun (x5 : Int) => (some true)) (fun (x5 : Int) => (lift1 (fun b => if b = true then (1 : Int) else 0) (lift2 (fun x l => decide (x ∈ l)) (some x5) (some v_wide_3)))))) (lift2 (· - ·) (lift1 (fun l => (l.length : Int)) (some a_cover)) (some (1 : Int)))) fun r => some (Out.rt r)))))
def m_wide_row (a_sack : (T2 (List Int) Int)) (a_cover : (List Int)) : Option (T2 (List Int) Int) := finO none (b_wide_row a_sack a_cover)
def b__law_plus (a_one : (T2 Int Int)) (a_two : (T2 Int Int)) : Option (Out Unit Unit (T2 Int Int)) := (Option.bind (app2 m__law_fraction (lift2 (· + ·) (bind2 mulG (lift1 T2.a (some a_one)) (lift1 T2.b (some a_two))) (bind2 mulG (lift1 T2.a (some a_two)) (lift1 T2.b (some a_one)))) (bind2 mulG (lift1 T2.b (some a_one)) (lift1 T2.b (some a_two)))) fun r => some (Out.rt r))
def m__law_plus (a_one : (T2 Int Int)) (a_two : (T2 Int Int)) : Option (T2 Int Int) := finO none (b__law_plus a_one a_two)
def b__law_added (a_told : (List (T2 Int Int))) : Option (Out Unit Unit (T2 Int Int)) := (Option.bind (lift2 T2.mk (some (0 : Int)) (some (1 : Int))) fun (v_found_1 : (T2 Int Int)) => (Option.bind (some a_told) fun l => bindOut (forL (fun (s2 : (T2 Int Int)) (y3 : (T2 Int Int)) => (Option.bind (app2 m__law_plus (some s2) (some y3)) fun (v_found_4 : (T2 Int Int)) => (some (Out.nx v_found_4)))) v_found_1 l) fun (s2 : (T2 Int Int)) => (Option.bind (some s2) fun r => some (Out.rt r))))
def m__law_added (a_told : (List (T2 Int Int))) : Option (T2 Int Int) := finO none (b__law_added a_told)
def b__law_less (a_one : (T2 Int Int)) (a_two : (T2 Int Int)) : Option (Out Unit Unit Bool) := (Option.bind (lift2 (fun i j => decide (i < j)) (bind2 mulG (lift1 T2.a (some a_one)) (lift1 T2.b (some a_two))) (bind2 mulG (lift1 T2.a (some a_two)) (lift1 T2.b (some a_one)))) fun r => some (Out.rt r))
def m__law_less (a_one : (T2 Int Int)) (a_two : (T2 Int Int)) : Option Bool := finO none (b__law_less a_one a_two)
def b__law_by (a_numbers : (List Int)) (a_told : (List Int)) : Option (Out Unit Unit Int) := (Option.bind (lift1 List.sum (Option.bind (some a_told) (lcL (fun (x1 : Int) => (some true)) (fun (x1 : Int) => (bind2 atI (some a_numbers) (some x1)))))) fun r => some (Out.rt r))
def m__law_by (a_numbers : (List Int)) (a_told : (List Int)) : Option Int := finO none (b__law_by a_numbers a_told)
def b__law_minus (a_one : (T2 Int Int)) (a_two : (T2 Int Int)) : Option (Out Unit Unit (T2 Int Int)) := (Option.bind (app2 m__law_plus (some a_one) (lift2 T2.mk (lift1 (fun i => -i) (lift1 T2.a (some a_two))) (lift1 T2.b (some a_two)))) fun r => some (Out.rt r))
def m__law_minus (a_one : (T2 Int Int)) (a_two : (T2 Int Int)) : Option (T2 Int Int) := finO none (b__law_minus a_one a_two)
def b_is_fraction (a_told : (T2 Int Int)) : Option (Out Unit Unit Bool) := (Option.bind (andG (lift2 (fun i j => decide (j < i)) (lift1 T2.b (some a_told)) (some (0 : Int))) (lift2 (fun i j => decide (i = j)) (lift2 gcdI (lift1 T2.a (some a_told)) (lift1 T2.b (some a_told))) (some (1 : Int)))) fun r => some (Out.rt r))
def m_is_fraction (a_told : (T2 Int Int)) : Option Bool := finO none (b_is_fraction a_told)
def b_check_point (a_sack : (T2 (List Int) Int)) (a_point : (List (T2 Int Int))) : Option (Out Unit Unit Unit) := (Option.bind (app1 m_check_sack (some a_sack)) fun _ => (Option.bind (lift2 (fun i j => !decide (i = j)) (lift1 (fun l => (l.length : Int)) (some a_point)) (lift1 (fun l => (l.length : Int)) (lift1 T2.a (some a_sack)))) fun t => bindOut (bif t then none else (some (Out.nx ()))) fun (s1 : Unit) => (Option.bind (lift1 enumL (some a_point)) fun l => bindOut (forL (fun (s2 : Unit) (y3 : (T2 Int (T2 Int Int))) => (Option.bind (orG (lift1 (fun x => !x) (app1 m_is_fraction (some y3.b))) (lift1 (fun x => !x) (chainG cLe cLe (some (0 : Int)) (lift1 T2.a (some y3.b)) (lift1 T2.b (some y3.b))))) fun t => bindOut (bif t then none else (some (Out.nx ()))) fun (s4 : Unit) => (some (Out.nx ())))) () l) fun (s2 : Unit) => (some (Out.nx ())))))
def m_check_point (a_sack : (T2 (List Int) Int)) (a_point : (List (T2 Int Int))) : Option Unit := finO (some ()) (b_check_point a_sack a_point)
def b_fraction (a_number : Int) (a_by : Int) : Option (Out Unit Unit (T2 Int Int)) := (Option.bind (lift2 (fun i j => decide (i < j)) (some a_by) (some (0 : Int))) fun t => bindOut (bif t then (Option.bind (lift1 (fun i => -i) (some a_number)) fun (v_number_2 : Int) => Option.bind (lift1 (fun i => -i) (some a_by)) fun (v_by_3 : Int) => (some (Out.nx (v_number_2, v_by_3)))) else (some (Out.nx (a_number, a_by)))) fun (s1 : (Int × Int)) => (Option.bind (lift2 gcdI (some s1.1) (some s1.2)) fun (v_common_4 : Int) => (Option.bind (lift2 T2.mk (bind2 divG (some s1.1) (some v_common_4)) (bind2 divG (some s1.2) (some v_common_4))) fun r => some (Out.rt r))))
def m_fraction (a_number : Int) (a_by : Int) : Option (T2 Int Int) := finO none (b_fraction a_number a_by)
def b_plus (a_one : (T2 Int Int)) (a_two : (T2 Int Int)) : Option (Out Unit Unit (T2 Int Int)) := (Option.bind (app2 m_fraction (lift2 (· + ·) (bind2 mulG (lift1 T2.a (some a_one)) (lift1 T2.b (some a_two))) (bind2 mulG (lift1 T2.a (some a_two)) (lift1 T2.b (some a_one)))) (bind2 mulG (lift1 T2.b (some a_one)) (lift1 T2.b (some a_two)))) fun r => some (Out.rt r))
def m_plus (a_one : (T2 Int Int)) (a_two : (T2 Int Int)) : Option (T2 Int Int) := finO none (b_plus a_one a_two)
def b_total (a_told : (List (T2 Int Int))) : Option (Out Unit Unit (T2 Int Int)) := (Option.bind (lift2 T2.mk (some (0 : Int)) (some (1 : Int))) fun (v_found_1 : (T2 Int Int)) => (Option.bind (some a_told) fun l => bindOut (forL (fun (s2 : (T2 Int Int)) (y3 : (T2 Int Int)) => (Option.bind (app2 m_plus (some s2) (some y3)) fun (v_found_4 : (T2 Int Int)) => (some (Out.nx v_found_4)))) v_found_1 l) fun (s2 : (T2 Int Int)) => (Option.bind (some s2) fun r => some (Out.rt r))))
def m_total (a_told : (List (T2 Int Int))) : Option (T2 Int Int) := finO none (b_total a_told)
def b_is_less (a_one : (T2 Int Int)) (a_two : (T2 Int Int)) : Option (Out Unit Unit Bool) := (Option.bind (lift2 (fun i j => decide (i < j)) (bind2 mulG (lift1 T2.a (some a_one)) (lift1 T2.b (some a_two))) (bind2 mulG (lift1 T2.a (some a_two)) (lift1 T2.b (some a_one)))) fun r => some (Out.rt r))
def m_is_less (a_one : (T2 Int Int)) (a_two : (T2 Int Int)) : Option Bool := finO none (b_is_less a_one a_two)
def b_minus (a_one : (T2 Int Int)) (a_two : (T2 Int Int)) : Option (Out Unit Unit (T2 Int Int)) := (Option.bind (app2 m_fraction (lift2 (· - ·) (bind2 mulG (lift1 T2.a (some a_one)) (lift1 T2.b (some a_two))) (bind2 mulG (lift1 T2.a (some a_two)) (lift1 T2.b (some a_one)))) (bind2 mulG (lift1 T2.b (some a_one)) (lift1 T2.b (some a_two)))) fun r => some (Out.rt r))
def m_minus (a_one : (T2 Int Int)) (a_two : (T2 Int Int)) : Option (T2 Int Int) := finO none (b_minus a_one a_two)
def b_worst_cover (a_sack : (T2 (List Int) Int)) (a_point : (List (T2 Int Int))) : Option (Out Unit Unit (Option (T2 (T2 Int Int) (List Int)))) := (Option.bind (app2 m_check_point (some a_sack) (some a_point)) fun _ => (Option.bind (some (none : (Option (T2 (T2 Int Int) (List Int))))) fun (v_best_1 : (Option (T2 (T2 Int Int) (List Int)))) => (Option.bind (app1 m_sets_of (app1 m_fitting (some a_sack))) fun l => bindOut (forL (fun (s2 : (Option (T2 (T2 Int Int) (List Int)))) (y3 : (List Int)) => (Option.bind (app2 m_is_cover (some a_sack) (some y3)) fun t => bindOut (bif t then (Option.bind (app1 m_total (Option.bind (some y3) (lcL (fun (x6 : Int) => (some true)) (fun (x6 : Int) => (app2 m_minus (lift2 T2.mk (some (1 : Int)) (some (1 : Int))) (bind2 atI (some a_point) (some x6))))))) fun (v_here_5 : (T2 Int Int)) => (Option.bind (orG (lift1 Option.isNone (some s2)) (app2 m_is_less (some v_here_5) (lift1 T2.a (Option.bind (some s2) id)))) fun t => bindOut (bif t then (Option.bind (lift1 (some : (T2 (T2 Int Int) (List Int)) → Option (T2 (T2 Int Int) (List Int))) (lift2 T2.mk (some v_here_5) (some y3))) fun (v_best_8 : (Option (T2 (T2 Int Int) (List Int)))) => (some (Out.nx v_best_8))) else (some (Out.nx s2))) fun (s7 : (Option (T2 (T2 Int Int) (List Int)))) => (some (Out.nx s7)))) else (some (Out.nx s2))) fun (s4 : (Option (T2 (T2 Int Int) (List Int)))) => (some (Out.nx s4)))) v_best_1 l) fun (s2 : (Option (T2 (T2 Int Int) (List Int)))) => (Option.bind (some s2) fun r => some (Out.rt r)))))
def m_worst_cover (a_sack : (T2 (List Int) Int)) (a_point : (List (T2 Int Int))) : Option (Option (T2 (T2 Int Int) (List Int))) := finO none (b_worst_cover a_sack a_point)
def b__law_is_least (a_sack : (T2 (List Int) Int)) (a_told : (List Int)) : Option (Out Unit Unit Bool) := (Option.bind (app2 m__law_weight (some a_sack) (some a_told)) fun (v_whole_1 : Int) => (Option.bind (andG (lift2 (fun i j => decide (j < i)) (some v_whole_1) (lift1 T2.b (some a_sack))) (lift2 (fun x y => decide (x = y)) (Option.bind (some a_told) (lcL (fun (x2 : Int) => (lift2 (fun i j => decide (j < i)) (lift2 (· - ·) (some v_whole_1) (bind2 atI (lift1 T2.a (some a_sack)) (some x2))) (lift1 T2.b (some a_sack)))) (fun (x2 : Int) => (some x2)))) (Option.bind (some ([] : List Int)) szG))) fun r => some (Out.rt r)))
def m__law_is_least (a_sack : (T2 (List Int) Int)) (a_told : (List Int)) : Option Bool := finO none (b__law_is_least a_sack a_told)
def b_law (a_script : (List Int)) : Option (Out Unit Unit Bool) := (Option.bind (m__law_draws a_script) fun (v_draws_1 : (List Int)) => (Option.bind (Option.bind (some (2 : Int)) rng1) fun l => bindOut (forL (fun (s2 : Unit) (y3 : Int) => (Option.bind (app3 m__law_sack (some v_draws_1) (lift2 (· + ·) (some (10 : Int)) (bind2 mulG (some (20 : Int)) (some y3))) (bind2 atI (Option.bind (lift2 List.cons (some (6 : Int)) (lift2 List.cons (bind2 atI (Option.bind (lift2 List.cons (some (5 : Int)) (lift2 List.cons (some (7 : Int)) (some ([] : List Int)))) szG) (lift1 (fun b => if b = true then (1 : Int) else 0) (lift2 (fun i j => decide (i = j)) (app3 m__law_mix (some v_draws_1) (some (0 : Int)) (some (4 : Int))) (some (0 : Int))))) (some ([] : List Int)))) szG) (some y3))) fun (v_sack_4 : (T2 (List Int) Int)) => (Option.bind (some v_sack_4) fun (u5 : (T2 (List Int) Int)) => (Option.bind (lift1 (fun l => (l.length : Int)) (some u5.a)) fun (v_many_6 : Int) => (Option.bind (Option.bind (some v_sack_4) fun x => reprD (enc x)) fun (v_kept_7 : Str) => (Option.bind (app1 m__law_packings (some v_sack_4)) fun (v_every_8 : (List (List Int))) => (Option.bind (Option.bind (app1 m__law_sets (app1 m__law_fits (some v_sack_4))) (lcL (fun (x10 : (List Int)) => (lift2 (fun i j => decide (j < i)) (app2 m__law_weight (some v_sack_4) (some x10)) (some u5.b))) (fun (x10 : (List Int)) => (some x10)))) fun (v_covers_9 : (List (List Int))) => (Option.bind (app1 m_packings (some v_sack_4)) fun (v_told_11 : (List (List Int))) => (Option.bind (app1 m_least_covers (some v_sack_4)) fun (v_least_12 : (List (List Int))) => (Option.bind (orG (lift2 (fun i j => !decide (i = j)) (Option.bind (some v_told_11) fun x => reprD (enc x)) (Option.bind (some v_every_8) fun x => reprD (enc x))) (lift2 (fun i j => !decide (i = j)) (Option.bind (some v_least_12) fun x => reprD (enc x)) (Option.bind (Option.bind (some v_covers_9) (lcL (fun (x13 : (List Int)) => (app2 m__law_is_least (some v_sack_4) (some x13))) (fun (x13 : (List Int)) => (some x13)))) fun x => reprD (enc x)))) fun t => bindOut (bif t then (Option.bind (some false) fun r => some (Out.rt r)) else (some (Out.nx ()))) fun (s14 : Unit) => (Option.bind (Option.bind (Option.bind (lift2 List.cons (lift1 (fun i => -i) (some (1 : Int))) (some ([] : List Int))) szG) (appG v_told_11)) fun (v15 : (List (List Int))) => (Option.bind (Option.bind (Option.bind (lift2 List.cons (lift1 (fun i => -i) (some (1 : Int))) (some ([] : List Int))) szG) (appG v_least_12)) fun (v16 : (List (List Int))) => (Option.bind (lift3 cutL (some v_covers_9) (some none) (lift1 some (some (20 : Int)))) fun l => bindOut (forL (fun (s17 : Unit) (y18 : (List Int)) => (Option.bind (app2 m_cover_row (some v_sack_4) (some y18)) fun (v_row_19 : (T2 (List Int) Int)) => (Option.bind (app2 m_wide_row (some v_sack_4) (some y18)) fun (v_wide_20 : (T2 (List Int) Int)) => (Option.bind (Option.bind (Option.bind (some y18) (lcL (fun (x22 : Int) => (some true)) (fun (x22 : Int) => (bind2 atI (some u5.a) (some x22))))) maxL) fun (v_top_21 : Int) => (Option.bind (Option.bind (Option.bind (some v_many_6) rng1) (lcL (fun (x24 : Int) => (some true)) (fun (x24 : Int) => (lift1 (fun b => if b = true then (1 : Int) else 0) (orG (lift2 (fun x l => decide (x ∈ l)) (some x24) (some y18)) (chainG cLe cLe (some v_top_21) (bind2 atI (some u5.a) (some x24)) (some u5.b))))))) fun (v_due_23 : (List Int)) => (Option.bind (orG (lift2 (fun x y => !decide (x = y)) (some v_row_19) (lift2 T2.mk (Option.bind (Option.bind (some v_many_6) rng1) (lcL (fun (x25 : Int) => (some true)) (fun (x25 : Int) => (lift1 (fun b => if b = true then (1 : Int) else 0) (lift2 (fun x l => decide (x ∈ l)) (some x25) (some y18)))))) (lift2 (· - ·) (lift1 (fun l => (l.length : Int)) (some y18)) (some (1 : Int))))) (lift2 (fun x y => !decide (x = y)) (some v_wide_20) (lift2 T2.mk (some v_due_23) (lift2 (· - ·) (lift1 (fun l => (l.length : Int)) (some y18)) (some (1 : Int)))))) fun t => bindOut (bif t then (Option.bind (some false) fun r => some (Out.rt r)) else (some (Out.nx ()))) fun (s26 : Unit) => (Option.bind (some v_every_8) fun l => bindOut (forL (fun (s27 : Unit) (y28 : (List Int)) => (Option.bind (orG (lift2 (fun i j => decide (j < i)) (app2 m__law_by (lift1 T2.a (some v_row_19)) (some y28)) (lift1 T2.b (some v_row_19))) (lift2 (fun i j => decide (j < i)) (app2 m__law_by (lift1 T2.a (some v_wide_20)) (some y28)) (lift1 T2.b (some v_wide_20)))) fun t => bindOut (bif t then (Option.bind (some false) fun r => some (Out.rt r)) else (some (Out.nx ()))) fun (s29 : Unit) => (some (Out.nx ())))) () l) fun (s27 : Unit) => (some (Out.nx ()))))))))) () l) fun (s17 : Unit) => (Option.bind (app3 m__law_points (some v_draws_1) (lift2 (· + ·) (some (60 : Int)) (bind2 mulG (some (40 : Int)) (some y3))) (some v_sack_4)) fun (v_points_30 : (List (List (T2 Int Int)))) => (Option.bind (Option.bind (some (3 : Int)) rng1) fun l => bindOut (forL (fun (s31 : Unit) (y32 : Int) => (Option.bind (bind2 atI (some v_points_30) (some y32)) fun (v_point_33 : (List (T2 Int Int))) => (Option.bind (Option.bind (some v_point_33) fun x => reprD (enc x)) fun (v_before_34 : Str) => (Option.bind (Option.bind (some v_covers_9) (lcL (fun (x36 : (List Int)) => (some true)) (fun (x36 : (List Int)) => (app1 m__law_added (Option.bind (some x36) (lcL (fun (x37 : Int) => (some true)) (fun (x37 : Int) => (app2 m__law_minus (lift2 T2.mk (some (1 : Int)) (some (1 : Int))) (bind2 atI (some v_point_33) (some x37)))))))))) fun (v_sums_35 : (List (T2 Int Int))) => (Option.bind (some (none : (Option (T2 (T2 Int Int) (List Int))))) fun (v_best_38 : (Option (T2 (T2 Int Int) (List Int)))) => (Option.bind (Option.bind (lift1 (fun l => (l.length : Int)) (some v_covers_9)) rng1) fun l => bindOut (forL (fun (s39 : (Option (T2 (T2 Int Int) (List Int)))) (y40 : Int) => (Option.bind (orG (lift1 Option.isNone (some s39)) (app2 m__law_less (bind2 atI (some v_sums_35) (some y40)) (lift1 T2.a (Option.bind (some s39) id)))) fun t => bindOut (bif t then (Option.bind (lift1 (some : (T2 (T2 Int Int) (List Int)) → Option (T2 (T2 Int Int) (List Int))) (lift2 T2.mk (bind2 atI (some v_sums_35) (some y40)) (bind2 atI (some v_covers_9) (some y40)))) fun (v_best_42 : (Option (T2 (T2 Int Int) (List Int)))) => (some (Out.nx v_best_42))) else (some (Out.nx s39))) fun (s41 : (Option (T2 (T2 Int Int) (List Int)))) => (some (Out.nx s41)))) v_best_38 l) fun (s39 : (Option (T2 (T2 Int Int) (List Int)))) => (Option.bind (orG (lift2 (fun i j => !decide (i = j)) (Option.bind (app2 m_worst_cover (some v_sack_4) (some v_point_33)) fun x => reprD (enc x)) (Option.bind (some s39) fun x => reprD (enc x))) (lift2 (fun i j => !decide (i = j)) (Option.bind (some v_point_33) fun x => reprD (enc x)) (some v_before_34))) fun t => bindOut (bif t then (Option.bind (some false) fun r => some (Out.rt r)) else (some (Out.nx ()))) fun (s43 : Unit) => (Option.bind (lift2 (fun x y => !decide (x = y)) (Option.bind (some v_covers_9) (lcL (fun (x45 : (List Int)) => (app2 m__law_less (lift2 T2.mk (lift2 (· - ·) (lift1 (fun l => (l.length : Int)) (some x45)) (some (1 : Int))) (some (1 : Int))) (app1 m__law_added (Option.bind (some x45) (lcL (fun (x46 : Int) => (some true)) (fun (x46 : Int) => (bind2 atI (some v_point_33) (some x46)))))))) (fun (x45 : (List Int)) => (some x45)))) (Option.bind (some ([] : List (List Int))) szG)) fun (v_parted_44 : Bool) => (Option.bind (orG (lift2 (fun i j => i != j) (some v_parted_44) (andG (lift1 Option.isSome (some s39)) (app2 m__law_less (lift1 T2.a (Option.bind (some s39) id)) (lift2 T2.mk (some (1 : Int)) (some (1 : Int)))))) (andG (lift2 (fun i j => decide (i = j)) (some y32) (some (2 : Int))) (some v_parted_44))) fun t => bindOut (bif t then (Option.bind (some false) fun r => some (Out.rt r)) else (some (Out.nx ()))) fun (s47 : Unit) => (some (Out.nx ()))))))))))) () l) fun (s31 : Unit) => (Option.bind (orG (lift2 (fun i j => !decide (i = j)) (Option.bind (app1 m_packings (some v_sack_4)) fun x => reprD (enc x)) (Option.bind (some v_every_8) fun x => reprD (enc x))) (lift2 (fun i j => !decide (i = j)) (Option.bind (some v_sack_4) fun x => reprD (enc x)) (some v_kept_7))) fun t => bindOut (bif t then (Option.bind (some false) fun r => some (Out.rt r)) else (some (Out.nx ()))) fun (s48 : Unit) => (some (Out.nx ())))))))))))))))))) () l) fun (s2 : Unit) => (Option.bind (some true) fun r => some (Out.rt r))))
def m_law (a_script : (List Int)) : Option Bool := finO none (b_law a_script)
end Lay.K46

set_option Elab.async false
set_option linter.all false
set_option maxRecDepth 100000
namespace Lay.K46
open PySem PySem.Spec PyProof.Rows L2 Lay
open Lay.Enc (enc)
def topS (i : Nat) : Stmt := PySem.Challenge.pw_wholebest_k46_covers_and_the_worst_one.main.body.getD i (.Pass ⟨0, 0, 0, 0⟩)
abbrev st__law_draws : Stmt := topS 34
abbrev N__law_draws : List Str := ["script", "draws", "k", "rest", "turn", "mixed"]
theorem fs__law_draws : FnScope N__law_draws ["script"] (defScope st__law_draws) := ⟨rfl, rfl, rfl, by decide +kernel, rfl, by decide +kernel, by decide +kernel⟩
abbrev st__law_mix : Stmt := topS 35
abbrev N__law_mix : List Str := ["draws", "k", "many", "cell"]
theorem fs__law_mix : FnScope N__law_mix ["draws", "k", "many"] (defScope st__law_mix) := ⟨rfl, rfl, rfl, by decide +kernel, rfl, by decide +kernel, by decide +kernel⟩
abbrev st__law_sack : Stmt := topS 41
abbrev N__law_sack : List Str := ["draws", "first", "most", "many", "top", "weights", "room", "k"]
theorem fs__law_sack : FnScope N__law_sack ["draws", "first", "most"] (defScope st__law_sack) := ⟨rfl, rfl, rfl, by decide +kernel, rfl, by decide +kernel, by decide +kernel⟩
abbrev st__law_sets : Stmt := topS 42
abbrev N__law_sets : List Str := ["things", "found", "k", "told"]
theorem fs__law_sets : FnScope N__law_sets ["things"] (defScope st__law_sets) := ⟨rfl, rfl, rfl, by decide +kernel, rfl, by decide +kernel, by decide +kernel⟩
abbrev st__law_fits : Stmt := topS 43
abbrev N__law_fits : List Str := ["sack", "k"]
theorem fs__law_fits : FnScope N__law_fits ["sack"] (defScope st__law_fits) := ⟨rfl, rfl, rfl, by decide +kernel, rfl, by decide +kernel, by decide +kernel⟩
abbrev st__law_weight : Stmt := topS 44
abbrev N__law_weight : List Str := ["sack", "told", "k"]
theorem fs__law_weight : FnScope N__law_weight ["sack", "told"] (defScope st__law_weight) := ⟨rfl, rfl, rfl, by decide +kernel, rfl, by decide +kernel, by decide +kernel⟩
abbrev st__law_packings : Stmt := topS 45
abbrev N__law_packings : List Str := ["sack", "told"]
theorem fs__law_packings : FnScope N__law_packings ["sack"] (defScope st__law_packings) := ⟨rfl, rfl, rfl, by decide +kernel, rfl, by decide +kernel, by decide +kernel⟩
abbrev st_check_sack : Stmt := topS 19
abbrev N_check_sack : List Str := ["sack", "weights", "room", "k", "weight"]
theorem fs_check_sack : FnScope N_check_sack ["sack"] (defScope st_check_sack) := ⟨rfl, rfl, rfl, by decide +kernel, rfl, by decide +kernel, by decide +kernel⟩
abbrev st_sets_of : Stmt := topS 22
abbrev N_sets_of : List Str := ["things", "found", "k", "told"]
theorem fs_sets_of : FnScope N_sets_of ["things"] (defScope st_sets_of) := ⟨rfl, rfl, rfl, by decide +kernel, rfl, by decide +kernel, by decide +kernel⟩
abbrev st_fitting : Stmt := topS 21
abbrev N_fitting : List Str := ["sack", "k", "weight"]
theorem fs_fitting : FnScope N_fitting ["sack"] (defScope st_fitting) := ⟨rfl, rfl, rfl, by decide +kernel, rfl, by decide +kernel, by decide +kernel⟩
abbrev st_weight_of : Stmt := topS 20
abbrev N_weight_of : List Str := ["sack", "told", "k"]
theorem fs_weight_of : FnScope N_weight_of ["sack", "told"] (defScope st_weight_of) := ⟨rfl, rfl, rfl, by decide +kernel, rfl, by decide +kernel, by decide +kernel⟩
abbrev st_packings_of : Stmt := topS 23
abbrev N_packings_of : List Str := ["sack", "told"]
theorem fs_packings_of : FnScope N_packings_of ["sack"] (defScope st_packings_of) := ⟨rfl, rfl, rfl, by decide +kernel, rfl, by decide +kernel, by decide +kernel⟩
abbrev st_packings : Stmt := topS 24
abbrev N_packings : List Str := ["sack"]
theorem fs_packings : FnScope N_packings ["sack"] (defScope st_packings) := ⟨rfl, rfl, rfl, by decide +kernel, rfl, by decide +kernel, by decide +kernel⟩
abbrev st_is_cover : Stmt := topS 25
abbrev N_is_cover : List Str := ["sack", "told", "k"]
theorem fs_is_cover : FnScope N_is_cover ["sack", "told"] (defScope st_is_cover) := ⟨rfl, rfl, rfl, by decide +kernel, rfl, by decide +kernel, by decide +kernel⟩
abbrev st_is_least : Stmt := topS 26
abbrev N_is_least : List Str := ["sack", "told", "whole", "k"]
theorem fs_is_least : FnScope N_is_least ["sack", "told"] (defScope st_is_least) := ⟨rfl, rfl, rfl, by decide +kernel, rfl, by decide +kernel, by decide +kernel⟩
abbrev st_least_covers : Stmt := topS 27
abbrev N_least_covers : List Str := ["sack", "told"]
theorem fs_least_covers : FnScope N_least_covers ["sack"] (defScope st_least_covers) := ⟨rfl, rfl, rfl, by decide +kernel, rfl, by decide +kernel, by decide +kernel⟩
abbrev st__law_fraction : Stmt := topS 36
abbrev N__law_fraction : List Str := ["n", "d", "one", "two"]
theorem fs__law_fraction : FnScope N__law_fraction ["n", "d"] (defScope st__law_fraction) := ⟨rfl, rfl, rfl, by decide +kernel, rfl, by decide +kernel, by decide +kernel⟩
abbrev st__law_points : Stmt := topS 48
abbrev N__law_points : List Str := ["draws", "first", "sack", "many", "found", "every", "some", "t", "k", "told"]
theorem fs__law_points : FnScope N__law_points ["draws", "first", "sack"] (defScope st__law_points) := ⟨rfl, rfl, rfl, by decide +kernel, rfl, by decide +kernel, by decide +kernel⟩
abbrev st_check_cover : Stmt := topS 28
abbrev N_check_cover : List Str := ["sack", "cover"]
theorem fs_check_cover : FnScope N_check_cover ["sack", "cover"] (defScope st_check_cover) := ⟨rfl, rfl, rfl, by decide +kernel, rfl, by decide +kernel, by decide +kernel⟩
abbrev st_cover_row : Stmt := topS 29
abbrev N_cover_row : List Str := ["sack", "cover", "k"]
theorem fs_cover_row : FnScope N_cover_row ["sack", "cover"] (defScope st_cover_row) := ⟨rfl, rfl, rfl, by decide +kernel, rfl, by decide +kernel, by decide +kernel⟩
abbrev st_wide_row : Stmt := topS 30
abbrev N_wide_row : List Str := ["sack", "cover", "heaviest", "wide", "k"]
theorem fs_wide_row : FnScope N_wide_row ["sack", "cover"] (defScope st_wide_row) := ⟨rfl, rfl, rfl, by decide +kernel, rfl, by decide +kernel, by decide +kernel⟩
abbrev st__law_plus : Stmt := topS 37
abbrev N__law_plus : List Str := ["one", "two"]
theorem fs__law_plus : FnScope N__law_plus ["one", "two"] (defScope st__law_plus) := ⟨rfl, rfl, rfl, by decide +kernel, rfl, by decide +kernel, by decide +kernel⟩
abbrev st__law_added : Stmt := topS 39
abbrev N__law_added : List Str := ["told", "found", "one"]
theorem fs__law_added : FnScope N__law_added ["told"] (defScope st__law_added) := ⟨rfl, rfl, rfl, by decide +kernel, rfl, by decide +kernel, by decide +kernel⟩
abbrev st__law_less : Stmt := topS 38
abbrev N__law_less : List Str := ["one", "two"]
theorem fs__law_less : FnScope N__law_less ["one", "two"] (defScope st__law_less) := ⟨rfl, rfl, rfl, by decide +kernel, rfl, by decide +kernel, by decide +kernel⟩
abbrev st__law_by : Stmt := topS 47
abbrev N__law_by : List Str := ["numbers", "told", "k"]
theorem fs__law_by : FnScope N__law_by ["numbers", "told"] (defScope st__law_by) := ⟨rfl, rfl, rfl, by decide +kernel, rfl, by decide +kernel, by decide +kernel⟩
abbrev st__law_minus : Stmt := topS 40
abbrev N__law_minus : List Str := ["one", "two"]
theorem fs__law_minus : FnScope N__law_minus ["one", "two"] (defScope st__law_minus) := ⟨rfl, rfl, rfl, by decide +kernel, rfl, by decide +kernel, by decide +kernel⟩
abbrev st_is_fraction : Stmt := topS 9
abbrev N_is_fraction : List Str := ["told"]
theorem fs_is_fraction : FnScope N_is_fraction ["told"] (defScope st_is_fraction) := ⟨rfl, rfl, rfl, by decide +kernel, rfl, by decide +kernel, by decide +kernel⟩
abbrev st_check_point : Stmt := topS 31
abbrev N_check_point : List Str := ["sack", "point", "k", "one"]
theorem fs_check_point : FnScope N_check_point ["sack", "point"] (defScope st_check_point) := ⟨rfl, rfl, rfl, by decide +kernel, rfl, by decide +kernel, by decide +kernel⟩
abbrev st_fraction : Stmt := topS 10
abbrev N_fraction : List Str := ["number", "by", "common"]
theorem fs_fraction : FnScope N_fraction ["number", "by"] (defScope st_fraction) := ⟨rfl, rfl, rfl, by decide +kernel, rfl, by decide +kernel, by decide +kernel⟩
abbrev st_plus : Stmt := topS 11
abbrev N_plus : List Str := ["one", "two"]
theorem fs_plus : FnScope N_plus ["one", "two"] (defScope st_plus) := ⟨rfl, rfl, rfl, by decide +kernel, rfl, by decide +kernel, by decide +kernel⟩
abbrev st_total : Stmt := topS 14
abbrev N_total : List Str := ["told", "found", "one"]
theorem fs_total : FnScope N_total ["told"] (defScope st_total) := ⟨rfl, rfl, rfl, by decide +kernel, rfl, by decide +kernel, by decide +kernel⟩
abbrev st_is_less : Stmt := topS 13
abbrev N_is_less : List Str := ["one", "two"]
theorem fs_is_less : FnScope N_is_less ["one", "two"] (defScope st_is_less) := ⟨rfl, rfl, rfl, by decide +kernel, rfl, by decide +kernel, by decide +kernel⟩
abbrev st_minus : Stmt := topS 12
abbrev N_minus : List Str := ["one", "two"]
theorem fs_minus : FnScope N_minus ["one", "two"] (defScope st_minus) := ⟨rfl, rfl, rfl, by decide +kernel, rfl, by decide +kernel, by decide +kernel⟩
abbrev st_worst_cover : Stmt := topS 32
abbrev N_worst_cover : List Str := ["sack", "point", "best", "told", "here", "k"]
theorem fs_worst_cover : FnScope N_worst_cover ["sack", "point"] (defScope st_worst_cover) := ⟨rfl, rfl, rfl, by decide +kernel, rfl, by decide +kernel, by decide +kernel⟩
abbrev st__law_is_least : Stmt := topS 46
abbrev N__law_is_least : List Str := ["sack", "told", "whole", "k"]
theorem fs__law_is_least : FnScope N__law_is_least ["sack", "told"] (defScope st__law_is_least) := ⟨rfl, rfl, rfl, by decide +kernel, rfl, by decide +kernel, by decide +kernel⟩
abbrev st_law : Stmt := topS 49
abbrev N_law : List Str := ["script", "draws", "turn", "sack", "many", "kept", "every", "covers", "told", "least", "cover", "points", "t", "weights", "room", "row", "wide", "top", "due", "one", "point", "before", "sums", "best", "k", "parted"]
theorem fs_law : FnScope N_law ["script"] (defScope st_law) := ⟨rfl, rfl, rfl, by decide +kernel, rfl, by decide +kernel, by decide +kernel⟩
structure Facts (mg : Str → Option Value) : Prop where
  abs_ : mg "abs" = none
  all_ : mg "all" = none
  c_MOST_ROOM_ : ∃ t, mg "MOST_ROOM" = some (.int 300 t)
  c_MOST_THINGS_ : ∃ t, mg "MOST_THINGS" = some (.int 7 t)
  c_MOST_WEIGHT_ : ∃ t, mg "MOST_WEIGHT" = some (.int 50 t)
  enumerate_ : mg "enumerate" = none
  gcd_ : mg "gcd" = some (.builtin "math.gcd")
  int_ : mg "int" = none
  len_ : mg "len" = none
  max_ : mg "max" = none
  min_ : mg "min" = none
  range_ : mg "range" = none
  repr_ : mg "repr" = none
  sorted_ : mg "sorted" = none
  sum_ : mg "sum" = none
end Lay.K46

set_option Elab.async false
set_option linter.all false
set_option maxRecDepth 100000
namespace Lay.K46
open PySem PySem.Spec PyProof.Rows L2 Lay
open Lay.Enc (enc)
set_option maxHeartbeats 0
theorem bk__law_draws {X : Cx} (C : Ctx X N__law_draws (defScope st__law_draws) none 0) (hF : Facts X.mg)  (a_script : (List Int)) :
    SV X (.rd (a_script.map enc) :: List.replicate 5 .un) (defBody st__law_draws) (fun _ : Unit => List.replicate 6 .un) (fun _ : Unit => List.replicate 6 .un) false (b__law_draws a_script) := by
  unfold b__law_draws
  refine sv_setO (i := 1) C (by decide +kernel) (Nat.le_of_ble_eq_true rfl) (eo_list (al_nil (α := Int))) fun v_draws_1 => ?_
  refine sv_for (S1 := (List Int)) (P1 := fun s2 => [.rd (a_script.map enc), .own (s2.map enc), .un, .un, .un, .un]) (s0 := v_draws_1) C (it_rng1 C (by decide +kernel) hF.range_ (ed_min2 C (by decide +kernel) hF.min_ ed_num (ed_len C (by decide +kernel) hF.len_ (er_rd (i := 0) C (by decide +kernel) rfl)))) (pgN (i := 2) C (by decide +kernel)) (tgt_name (i := 2)) (fun s2 => rfl) (wk_ops [] rfl) (fun s2 y3 => ?_) (fun s2 => ?_)
  · refine sv_set (i := 3) C (by decide +kernel) (ed_abs C (by decide +kernel) hF.abs_ (ed_ixR (i := 0) C (by decide +kernel) rfl (ed_var (i := 2) C (by decide +kernel) rfl))) fun v_rest_4 => ?_
    refine sv_if (S' := (List Int)) (P' := fun s5 => [.rd (a_script.map enc), .own (s5.map enc), .dat (enc y3), .un, .un, .un]) (eb_cmp (ec_ge (ed_var (i := 3) C (by decide +kernel) rfl) (ed_pow ed_num ed_num))) ?_ ?_ fun s5 => ?_
    · refine sv_for (S1 := ((List Int) × Int)) (P1 := fun s6 => [.rd (a_script.map enc), .own (s6.1.map enc), .dat (enc y3), .dat (enc s6.2), .un, .un]) (s0 := (s2, v_rest_4)) C (it_rng1 C (by decide +kernel) hF.range_ ed_num) (pgN (i := 4) C (by decide +kernel)) (tgt_name (i := 4)) (fun s6 => rfl) (wk_ops [] rfl) (fun s6 y7 => ?_) (fun s6 => ?_)
      · refine sv_if (S' := ((List Int) × Int)) (P' := fun s8 => [.rd (a_script.map enc), .own (s8.1.map enc), .dat (enc y3), .dat (enc s8.2), .dat (enc y7), .un]) (eb_cmp (ec_gt (ed_var (i := 3) C (by decide +kernel) rfl) ed_num)) ?_ ?_ fun s8 => ?_
        · refine sv_app (i := 1) C (by decide +kernel) rfl (ed_mod (ed_int C (by decide +kernel) hF.int_ (ed_var (i := 3) C (by decide +kernel) rfl)) ed_num) fun v9 => ?_
          refine sv_set (i := 3) C (by decide +kernel) (ed_fdiv (ed_var (i := 3) C (by decide +kernel) rfl) ed_num) fun v_rest_10 => ?_
          exact sv_nil (wk_ops [] rfl)
        · exact sv_nil (wk_ops [] rfl)
        exact sv_nil (wk_ops [.un 4] rfl)
      exact sv_nil (wk_ops [.un 3] rfl)
    · refine sv_set (i := 5) C (by decide +kernel) (ed_mod (ed_int C (by decide +kernel) hF.int_ (ed_add (ed_mul (ed_var (i := 3) C (by decide +kernel) rfl) ed_num) (ed_mul (ed_add (ed_var (i := 2) C (by decide +kernel) rfl) ed_num) ed_num))) ed_num) fun v_mixed_11 => ?_
      refine sv_set (i := 5) C (by decide +kernel) (ed_mod (ed_int C (by decide +kernel) hF.int_ (ed_add (ed_add (ed_mul (ed_var (i := 5) C (by decide +kernel) rfl) ed_num) (ed_mul ed_num (ed_var (i := 2) C (by decide +kernel) rfl))) ed_num)) ed_num) fun v_mixed_12 => ?_
      refine sv_app (i := 1) C (by decide +kernel) rfl (ed_mod (ed_int C (by decide +kernel) hF.int_ (ed_var (i := 5) C (by decide +kernel) rfl)) ed_num) fun v13 => ?_
      refine sv_app (i := 1) C (by decide +kernel) rfl (ed_mod (ed_int C (by decide +kernel) hF.int_ (ed_fdiv (ed_var (i := 5) C (by decide +kernel) rfl) ed_num)) ed_num) fun v14 => ?_
      exact sv_nil (wk_ops [.un 3, .un 5] rfl)
    exact sv_nil (wk_ops [.un 2] rfl)
  refine sv_wk (wk_ops [.fz 1] rfl) ?_
  exact sv_ret (ed_var (i := 1) C (by decide +kernel) rfl)
theorem ok__law_draws {P : Program} {w : World} {K : PySem.W.Frag} {mg : Str → Option Value} {base : Heap} {f : Addr} {fd : FuncData} (F : Fun K "_law_draws" "_law_draws" st__law_draws f fd) (hF : Facts mg)  : FnG P w K mg base CX0 1 f fd ["script"] (spR K false m__law_draws) :=
  ok_rd F fs__law_draws 6 rfl (by decide) fun X h1 h2 h3 h4 h5 C l r hr => by subst h1 h2 h3 h4 h5; exact body_of (bk__law_draws C hF  l) hr (fun x h => nomatch h)
theorem bk__law_mix {X : Cx} (C : Ctx X N__law_mix (defScope st__law_mix) none 0) (hF : Facts X.mg)  (a_draws : (List Int)) (a_k : Int) (a_many : Int) :
    SV X (dats 4 [enc a_draws, enc a_k, enc a_many]) (defBody st__law_mix) (fun _ : Unit => List.replicate 4 .un) (fun _ : Unit => List.replicate 4 .un) false (b__law_mix a_draws a_k a_many) := by
  unfold b__law_mix
  refine sv_set (i := 3) C (by decide +kernel) ed_num fun v_cell_1 => ?_
  refine sv_if (S' := Int) (P' := fun s2 => [.dat (enc a_draws), .dat (enc a_k), .dat (enc a_many), .dat (enc s2)]) (eb_cmp (ec_gt (ed_len C (by decide +kernel) hF.len_ (er_of_ed (ed_var (i := 0) C (by decide +kernel) rfl))) ed_num)) ?_ ?_ fun s2 => ?_
  · refine sv_set (i := 3) C (by decide +kernel) (ed_ix (ed_var (i := 0) C (by decide +kernel) rfl) (ed_mod (ed_int C (by decide +kernel) hF.int_ (ed_var (i := 1) C (by decide +kernel) rfl)) (ed_len C (by decide +kernel) hF.len_ (er_of_ed (ed_var (i := 0) C (by decide +kernel) rfl))))) fun v_cell_3 => ?_
    exact sv_nil (wk_ops [] rfl)
  · exact sv_nil (wk_ops [] rfl)
  refine sv_if (S' := Unit) (P' := fun s4 => [.dat (enc a_draws), .dat (enc a_k), .dat (enc a_many), .dat (enc s2)]) (eb_cmp (ec_lt (ed_var (i := 1) C (by decide +kernel) rfl) (ed_len C (by decide +kernel) hF.len_ (er_of_ed (ed_var (i := 0) C (by decide +kernel) rfl))))) ?_ ?_ fun s4 => ?_
  · exact sv_ret (ed_mod (ed_int C (by decide +kernel) hF.int_ (ed_var (i := 3) C (by decide +kernel) rfl)) (ed_var (i := 2) C (by decide +kernel) rfl))
  · exact sv_nil (wk_ops [] rfl)
  exact sv_ret (ed_mod (ed_int C (by decide +kernel) hF.int_ (ed_fdiv (ed_int C (by decide +kernel) hF.int_ (ed_add (ed_mul (ed_var (i := 3) C (by decide +kernel) rfl) ed_num) (ed_mul (ed_var (i := 1) C (by decide +kernel) rfl) ed_num))) ed_num)) (ed_var (i := 2) C (by decide +kernel) rfl))
theorem ok__law_mix {P : Program} {w : World} {K : PySem.W.Frag} {mg : Str → Option Value} {base : Heap} {f : Addr} {fd : FuncData} (F : Fun K "_law_mix" "_law_mix" st__law_mix f fd) (hF : Facts mg)  : FnG P w K mg base CX0 1 f fd ["draws", "k", "many"] (spD K false (g3 m__law_mix)) :=
  ok_def F fs__law_mix (fun ds r h => by obtain ⟨x0, x1, x2, y, e, _, _⟩ := h; rw [e]; rfl) 4 rfl (by decide) fun X h1 h2 h3 h4 h5 C ds r h => by subst h1 h2 h3 h4 h5; obtain ⟨x0, x1, x2, y, e1, e2, e3⟩ := h; subst e1 e3; exact body_of (bk__law_mix C hF  x0 x1 x2) e2 (fun x h => nomatch h)
theorem bk__law_sack {X : Cx} (C : Ctx X N__law_sack (defScope st__law_sack) none 1) (hF : Facts X.mg) (hC__law_mix : Cal X.prog X.w X.K X.mg X.base CX0 1 "_law_mix" ["draws", "k", "many"] (spD X.K false (g3 m__law_mix))) (a_draws : (List Int)) (a_first : Int) (a_most : Int) :
    SV X (dats 8 [enc a_draws, enc a_first, enc a_most]) (defBody st__law_sack) (fun _ : Unit => List.replicate 8 .un) (fun _ : Unit => List.replicate 8 .un) false (b__law_sack a_draws a_first a_most) := by
  unfold b__law_sack
  refine sv_set (i := 3) C (by decide +kernel) (ed_add ed_num (ed_call C hC__law_mix (by decide) (by decide +kernel) (ad_cons (ed_var (i := 0) C (by decide +kernel) rfl) (ad_cons (ed_var (i := 1) C (by decide +kernel) rfl) (ad_cons (ed_var (i := 2) C (by decide +kernel) rfl) ad_nil))) go3)) fun v_many_1 => ?_
  refine sv_set (i := 4) C (by decide +kernel) (ed_ix (ed_of_eo (eo_list (al_cons ed_num (al_cons ed_num (al_nil (α := Int)))))) (ed_call C hC__law_mix (by decide) (by decide +kernel) (ad_cons (ed_var (i := 0) C (by decide +kernel) rfl) (ad_cons (ed_add (ed_var (i := 1) C (by decide +kernel) rfl) ed_num) (ad_cons ed_num ad_nil))) go3)) fun v_top_2 => ?_
  refine sv_setL (i := 5) C (by decide +kernel) (by decide +kernel) (lc_mk (own := [("k", 7)]) C (it_rng1 C (by decide +kernel) hF.range_ (ed_var (i := 3) C (by decide +kernel) rfl)) (by decide +kernel) (fun s4 H4 Ca4 cl4 fp4 => (pgN (i := 7) (Ctx.blk C s4 H4 _ Ca4 cl4 fp4 rfl) (by decide +kernel))) (tgt_name (i := 7)) (by decide) rfl (fun s4 H4 Ca4 cl4 fp4 x4 => ets_nil) (fun s4 H4 Ca4 cl4 fp4 x4 => (ed_add ed_num (ed_call (Ctx.blk C s4 H4 _ Ca4 cl4 fp4 rfl) hC__law_mix (by decide) (by decide +kernel) (ad_cons (ed_var (i := 0) (Ctx.blk C s4 H4 _ Ca4 cl4 fp4 rfl) (by decide +kernel) rfl) (ad_cons (ed_add (ed_add (ed_var (i := 1) (Ctx.blk C s4 H4 _ Ca4 cl4 fp4 rfl) (by decide +kernel) rfl) ed_num) (ed_var (i := 7) (Ctx.blk C s4 H4 _ Ca4 cl4 fp4 rfl) (by decide +kernel) rfl)) (ad_cons (ed_var (i := 4) (Ctx.blk C s4 H4 _ Ca4 cl4 fp4 rfl) (by decide +kernel) rfl) ad_nil))) go3)))) fun v_weights_3 => ?_
  refine sv_set (i := 6) C (by decide +kernel) (ed_max2 C (by decide +kernel) hF.max_ ed_num (ed_fdiv (ed_mul (ed_sum C (by decide +kernel) hF.sum_ (er_of_ed (ed_var (i := 5) C (by decide +kernel) rfl))) (ed_add ed_num (ed_call C hC__law_mix (by decide) (by decide +kernel) (ad_cons (ed_var (i := 0) C (by decide +kernel) rfl) (ad_cons (ed_add (ed_var (i := 1) C (by decide +kernel) rfl) ed_num) (ad_cons ed_num ad_nil))) go3))) ed_num)) fun v_room_5 => ?_
  exact sv_ret (ed_t2 (ed_var (i := 5) C (by decide +kernel) rfl) (ed_min2 C (by decide +kernel) hF.min_ (ed_var (i := 6) C (by decide +kernel) rfl) ed_num))
theorem ok__law_sack {P : Program} {w : World} {K : PySem.W.Frag} {mg : Str → Option Value} {base : Heap} {f : Addr} {fd : FuncData} (F : Fun K "_law_sack" "_law_sack" st__law_sack f fd) (hF : Facts mg) (hC__law_mix : Cal P w K mg base CX0 1 "_law_mix" ["draws", "k", "many"] (spD K false (g3 m__law_mix))) : FnG P w K mg base CX0 2 f fd ["draws", "first", "most"] (spD K false (g3 m__law_sack)) :=
  ok_def F fs__law_sack (fun ds r h => by obtain ⟨x0, x1, x2, y, e, _, _⟩ := h; rw [e]; rfl) 8 rfl (by decide) fun X h1 h2 h3 h4 h5 C ds r h => by subst h1 h2 h3 h4 h5; obtain ⟨x0, x1, x2, y, e1, e2, e3⟩ := h; subst e1 e3; exact body_of (bk__law_sack C hF hC__law_mix x0 x1 x2) e2 (fun x h => nomatch h)
theorem bk__law_sets {X : Cx} (C : Ctx X N__law_sets (defScope st__law_sets) none 0) (hF : Facts X.mg)  (a_things : (List Int)) :
    SV X (dats 4 [enc a_things]) (defBody st__law_sets) (fun _ : Unit => List.replicate 4 .un) (fun _ : Unit => List.replicate 4 .un) false (b__law_sets a_things) := by
  unfold b__law_sets
  refine sv_set (i := 1) C (by decide +kernel) (ed_of_eo (eo_list (al_cons (ed_of_eo (eo_list (al_nil (α := Int)))) (al_nil (α := (List Int)))))) fun v_found_1 => ?_
  refine sv_for (S1 := (List (List Int))) (P1 := fun s2 => [.dat (enc a_things), .dat (enc s2), .un, .un]) (s0 := v_found_1) C (it_list (ed_var (i := 0) C (by decide +kernel) rfl)) (pgN (i := 2) C (by decide +kernel)) (tgt_name (i := 2)) (fun s2 => rfl) (wk_ops [] rfl) (fun s2 y3 => ?_) (fun s2 => ?_)
  · refine sv_set (i := 1) C (by decide +kernel) (ed_of_eo (eo_cat (ed_var (i := 1) C (by decide +kernel) rfl) (ed_of_eo (eo_lc (lc_mk (own := [("told", 3)]) C (it_list (ed_var (i := 1) C (by decide +kernel) rfl)) (by decide +kernel) (fun s5 H5 Ca5 cl5 fp5 => (pgN (i := 3) (Ctx.blk C s5 H5 _ Ca5 cl5 fp5 rfl) (by decide +kernel))) (tgt_name (i := 3)) (by decide) rfl (fun s5 H5 Ca5 cl5 fp5 x5 => ets_nil) (fun s5 H5 Ca5 cl5 fp5 x5 => (ed_of_eo (eo_cat (ed_var (i := 3) (Ctx.blk C s5 H5 _ Ca5 cl5 fp5 rfl) (by decide +kernel) rfl) (ed_of_eo (eo_list (al_cons (ed_var (i := 2) (Ctx.blk C s5 H5 _ Ca5 cl5 fp5 rfl) (by decide +kernel) rfl) (al_nil (α := Int))))))))))))) fun v_found_4 => ?_
    exact sv_nil (wk_ops [.un 2] rfl)
  exact sv_ret (ed_of_eo (eo_sortedD C (by decide +kernel) hF.sorted_ (er_of_ed (ed_var (i := 1) C (by decide +kernel) rfl))))
theorem ok__law_sets {P : Program} {w : World} {K : PySem.W.Frag} {mg : Str → Option Value} {base : Heap} {f : Addr} {fd : FuncData} (F : Fun K "_law_sets" "_law_sets" st__law_sets f fd) (hF : Facts mg)  : FnG P w K mg base CX0 1 f fd ["things"] (spD K false (g1 m__law_sets)) :=
  ok_def F fs__law_sets (fun ds r h => by obtain ⟨x0, y, e, _, _⟩ := h; rw [e]; rfl) 4 rfl (by decide) fun X h1 h2 h3 h4 h5 C ds r h => by subst h1 h2 h3 h4 h5; obtain ⟨x0, y, e1, e2, e3⟩ := h; subst e1 e3; exact body_of (bk__law_sets C hF  x0) e2 (fun x h => nomatch h)
theorem bk__law_fits {X : Cx} (C : Ctx X N__law_fits (defScope st__law_fits) none 0) (hF : Facts X.mg)  (a_sack : (T2 (List Int) Int)) :
    SV X (dats 2 [enc a_sack]) (defBody st__law_fits) (fun _ : Unit => List.replicate 2 .un) (fun _ : Unit => List.replicate 2 .un) false (b__law_fits a_sack) := by
  unfold b__law_fits
  exact sv_ret (ed_of_eo (eo_lc (lc_mk (own := [("k", 1)]) C (it_rng1 C (by decide +kernel) hF.range_ (ed_len C (by decide +kernel) hF.len_ (er_of_ed (ed_20 (ed_var (i := 0) C (by decide +kernel) rfl))))) (by decide +kernel) (fun s1 H1 Ca1 cl1 fp1 => (pgN (i := 1) (Ctx.blk C s1 H1 _ Ca1 cl1 fp1 rfl) (by decide +kernel))) (tgt_name (i := 1)) (by decide) rfl (fun s1 H1 Ca1 cl1 fp1 x1 => (ets_one (eb_cmp (ec_le (ed_ix (ed_20 (ed_var (i := 0) (Ctx.blk C s1 H1 _ Ca1 cl1 fp1 rfl) (by decide +kernel) rfl)) (ed_var (i := 1) (Ctx.blk C s1 H1 _ Ca1 cl1 fp1 rfl) (by decide +kernel) rfl)) (ed_21 (ed_var (i := 0) (Ctx.blk C s1 H1 _ Ca1 cl1 fp1 rfl) (by decide +kernel) rfl)))))) (fun s1 H1 Ca1 cl1 fp1 x1 => (ed_var (i := 1) (Ctx.blk C s1 H1 _ Ca1 cl1 fp1 rfl) (by decide +kernel) rfl)))))
theorem ok__law_fits {P : Program} {w : World} {K : PySem.W.Frag} {mg : Str → Option Value} {base : Heap} {f : Addr} {fd : FuncData} (F : Fun K "_law_fits" "_law_fits" st__law_fits f fd) (hF : Facts mg)  : FnG P w K mg base CX0 1 f fd ["sack"] (spD K false (g1 m__law_fits)) :=
  ok_def F fs__law_fits (fun ds r h => by obtain ⟨x0, y, e, _, _⟩ := h; rw [e]; rfl) 2 rfl (by decide) fun X h1 h2 h3 h4 h5 C ds r h => by subst h1 h2 h3 h4 h5; obtain ⟨x0, y, e1, e2, e3⟩ := h; subst e1 e3; exact body_of (bk__law_fits C hF  x0) e2 (fun x h => nomatch h)
theorem bk__law_weight {X : Cx} (C : Ctx X N__law_weight (defScope st__law_weight) none 0) (hF : Facts X.mg)  (a_sack : (T2 (List Int) Int)) (a_told : (List Int)) :
    SV X (dats 3 [enc a_sack, enc a_told]) (defBody st__law_weight) (fun _ : Unit => List.replicate 3 .un) (fun _ : Unit => List.replicate 3 .un) false (b__law_weight a_sack a_told) := by
  unfold b__law_weight
  exact sv_ret (ed_sum C (by decide +kernel) hF.sum_ (er_of_eo (eo_lc (lc_mk (own := [("k", 2)]) C (it_list (ed_var (i := 1) C (by decide +kernel) rfl)) (by decide +kernel) (fun s1 H1 Ca1 cl1 fp1 => (pgN (i := 2) (Ctx.blk C s1 H1 _ Ca1 cl1 fp1 rfl) (by decide +kernel))) (tgt_name (i := 2)) (by decide) rfl (fun s1 H1 Ca1 cl1 fp1 x1 => ets_nil) (fun s1 H1 Ca1 cl1 fp1 x1 => (ed_ix (ed_20 (ed_var (i := 0) (Ctx.blk C s1 H1 _ Ca1 cl1 fp1 rfl) (by decide +kernel) rfl)) (ed_var (i := 2) (Ctx.blk C s1 H1 _ Ca1 cl1 fp1 rfl) (by decide +kernel) rfl)))))))
theorem ok__law_weight {P : Program} {w : World} {K : PySem.W.Frag} {mg : Str → Option Value} {base : Heap} {f : Addr} {fd : FuncData} (F : Fun K "_law_weight" "_law_weight" st__law_weight f fd) (hF : Facts mg)  : FnG P w K mg base CX0 1 f fd ["sack", "told"] (spD K false (g2 m__law_weight)) :=
  ok_def F fs__law_weight (fun ds r h => by obtain ⟨x0, x1, y, e, _, _⟩ := h; rw [e]; rfl) 3 rfl (by decide) fun X h1 h2 h3 h4 h5 C ds r h => by subst h1 h2 h3 h4 h5; obtain ⟨x0, x1, y, e1, e2, e3⟩ := h; subst e1 e3; exact body_of (bk__law_weight C hF  x0 x1) e2 (fun x h => nomatch h)
theorem bk__law_packings {X : Cx} (C : Ctx X N__law_packings (defScope st__law_packings) none 1) (hF : Facts X.mg) (hC__law_sets : Cal X.prog X.w X.K X.mg X.base CX0 1 "_law_sets" ["things"] (spD X.K false (g1 m__law_sets))) (hC__law_fits : Cal X.prog X.w X.K X.mg X.base CX0 1 "_law_fits" ["sack"] (spD X.K false (g1 m__law_fits))) (hC__law_weight : Cal X.prog X.w X.K X.mg X.base CX0 1 "_law_weight" ["sack", "told"] (spD X.K false (g2 m__law_weight))) (a_sack : (T2 (List Int) Int)) :
    SV X (dats 2 [enc a_sack]) (defBody st__law_packings) (fun _ : Unit => List.replicate 2 .un) (fun _ : Unit => List.replicate 2 .un) false (b__law_packings a_sack) := by
  unfold b__law_packings
  exact sv_ret (ed_of_eo (eo_lc (lc_mk (own := [("told", 1)]) C (it_list (ed_call C hC__law_sets (by decide) (by decide +kernel) (ad_cons (ed_call C hC__law_fits (by decide) (by decide +kernel) (ad_cons (ed_var (i := 0) C (by decide +kernel) rfl) ad_nil) go1) ad_nil) go1)) (by decide +kernel) (fun s1 H1 Ca1 cl1 fp1 => (pgN (i := 1) (Ctx.blk C s1 H1 _ Ca1 cl1 fp1 rfl) (by decide +kernel))) (tgt_name (i := 1)) (by decide) rfl (fun s1 H1 Ca1 cl1 fp1 x1 => (ets_one (eb_cmp (ec_le (ed_call (Ctx.blk C s1 H1 _ Ca1 cl1 fp1 rfl) hC__law_weight (by decide) (by decide +kernel) (ad_cons (ed_var (i := 0) (Ctx.blk C s1 H1 _ Ca1 cl1 fp1 rfl) (by decide +kernel) rfl) (ad_cons (ed_var (i := 1) (Ctx.blk C s1 H1 _ Ca1 cl1 fp1 rfl) (by decide +kernel) rfl) ad_nil)) go2) (ed_21 (ed_var (i := 0) (Ctx.blk C s1 H1 _ Ca1 cl1 fp1 rfl) (by decide +kernel) rfl)))))) (fun s1 H1 Ca1 cl1 fp1 x1 => (ed_var (i := 1) (Ctx.blk C s1 H1 _ Ca1 cl1 fp1 rfl) (by decide +kernel) rfl)))))
theorem ok__law_packings {P : Program} {w : World} {K : PySem.W.Frag} {mg : Str → Option Value} {base : Heap} {f : Addr} {fd : FuncData} (F : Fun K "_law_packings" "_law_packings" st__law_packings f fd) (hF : Facts mg) (hC__law_sets : Cal P w K mg base CX0 1 "_law_sets" ["things"] (spD K false (g1 m__law_sets))) (hC__law_fits : Cal P w K mg base CX0 1 "_law_fits" ["sack"] (spD K false (g1 m__law_fits))) (hC__law_weight : Cal P w K mg base CX0 1 "_law_weight" ["sack", "told"] (spD K false (g2 m__law_weight))) : FnG P w K mg base CX0 2 f fd ["sack"] (spD K false (g1 m__law_packings)) :=
  ok_def F fs__law_packings (fun ds r h => by obtain ⟨x0, y, e, _, _⟩ := h; rw [e]; rfl) 2 rfl (by decide) fun X h1 h2 h3 h4 h5 C ds r h => by subst h1 h2 h3 h4 h5; obtain ⟨x0, y, e1, e2, e3⟩ := h; subst e1 e3; exact body_of (bk__law_packings C hF hC__law_sets hC__law_fits hC__law_weight x0) e2 (fun x h => nomatch h)
theorem bk_check_sack {X : Cx} (C : Ctx X N_check_sack (defScope st_check_sack) none 0) (hF : Facts X.mg)  (a_sack : (T2 (List Int) Int)) :
    SV X (dats 5 [enc a_sack]) (defBody st_check_sack) (fun _ : Unit => List.replicate 5 .un) (fun _ : Unit => List.replicate 5 .un) false (b_check_sack a_sack) := by
  unfold b_check_sack
  refine sv_unpack (pg_tup (Ctx.calm C) (pgs_cons (pgN (i := 1) C (by decide +kernel)) (pgs_cons (pgN (i := 2) C (by decide +kernel)) pgs_nil))) (tgt_t2 (tgt_name (i := 1)) (tgt_name (i := 2))) rfl (ed_var (i := 0) C (by decide +kernel) rfl) fun u1 => ?_
  refine sv_if (S' := Unit) (P' := fun s2 => [.dat (enc a_sack), .dat (enc u1.a), .dat (enc u1.b), .un, .un]) (eb_not (eb_chLeLe rfl ed_num (ed_len C (by decide +kernel) hF.len_ (er_of_ed (ed_var (i := 1) C (by decide +kernel) rfl))) (ed_glb C (by decide +kernel) hF.c_MOST_THINGS_))) ?_ ?_ fun s2 => ?_
  · exact sv_raise
  · exact sv_nil (wk_ops [] rfl)
  refine sv_for (S1 := Unit) (P1 := fun s3 => [.dat (enc a_sack), .dat (enc u1.a), .dat (enc u1.b), .un, .un]) (s0 := ()) C (it_enum C (by decide +kernel) hF.enumerate_ (ed_var (i := 1) C (by decide +kernel) rfl)) (pg_tup (Ctx.calm C) (pgs_cons (pgN (i := 3) C (by decide +kernel)) (pgs_cons (pgN (i := 4) C (by decide +kernel)) pgs_nil))) (tgt_t2 (tgt_name (i := 3)) (tgt_name (i := 4))) (fun s3 => rfl) (wk_ops [] rfl) (fun s3 y4 => ?_) (fun s3 => ?_)
  · refine sv_if (S' := Unit) (P' := fun s5 => [.dat (enc a_sack), .dat (enc u1.a), .dat (enc u1.b), .dat (enc y4.a), .dat (enc y4.b)]) (eb_not (eb_chLeLe rfl ed_num (ed_var (i := 4) C (by decide +kernel) rfl) (ed_glb C (by decide +kernel) hF.c_MOST_WEIGHT_))) ?_ ?_ fun s5 => ?_
    · exact sv_raise
    · exact sv_nil (wk_ops [] rfl)
    exact sv_nil (wk_ops [.un 3, .un 4] rfl)
  refine sv_if (S' := Unit) (P' := fun s6 => [.dat (enc a_sack), .dat (enc u1.a), .dat (enc u1.b), .un, .un]) (eb_not (eb_chLeLe rfl ed_num (ed_var (i := 2) C (by decide +kernel) rfl) (ed_glb C (by decide +kernel) hF.c_MOST_ROOM_))) ?_ ?_ fun s6 => ?_
  · exact sv_raise
  · exact sv_nil (wk_ops [] rfl)
  exact sv_nil (wkR_all rfl)
theorem ok_check_sack {P : Program} {w : World} {K : PySem.W.Frag} {mg : Str → Option Value} {base : Heap} {f : Addr} {fd : FuncData} (F : Fun K "check_sack" "check_sack" st_check_sack f fd) (hF : Facts mg)  : FnG P w K mg base CX0 1 f fd ["sack"] (spD K false (g1 m_check_sack)) :=
  ok_def F fs_check_sack (fun ds r h => by obtain ⟨x0, y, e, _, _⟩ := h; rw [e]; rfl) 5 rfl (by decide) fun X h1 h2 h3 h4 h5 C ds r h => by subst h1 h2 h3 h4 h5; obtain ⟨x0, y, e1, e2, e3⟩ := h; subst e1 e3; exact body_of (bk_check_sack C hF  x0) e2 (fun x h => by cases h; exact ⟨rfl, rfl⟩)
theorem bk_sets_of {X : Cx} (C : Ctx X N_sets_of (defScope st_sets_of) none 0) (hF : Facts X.mg)  (a_things : (List Int)) :
    SV X (dats 4 [enc a_things]) (defBody st_sets_of) (fun _ : Unit => List.replicate 4 .un) (fun _ : Unit => List.replicate 4 .un) false (b_sets_of a_things) := by
  unfold b_sets_of
  refine sv_set (i := 1) C (by decide +kernel) (ed_of_eo (eo_list (al_cons (ed_of_eo (eo_list (al_nil (α := Int)))) (al_nil (α := (List Int)))))) fun v_found_1 => ?_
  refine sv_for (S1 := (List (List Int))) (P1 := fun s2 => [.dat (enc a_things), .dat (enc s2), .un, .un]) (s0 := v_found_1) C (it_list (ed_var (i := 0) C (by decide +kernel) rfl)) (pgN (i := 2) C (by decide +kernel)) (tgt_name (i := 2)) (fun s2 => rfl) (wk_ops [] rfl) (fun s2 y3 => ?_) (fun s2 => ?_)
  · refine sv_set (i := 1) C (by decide +kernel) (ed_of_eo (eo_cat (ed_var (i := 1) C (by decide +kernel) rfl) (ed_of_eo (eo_lc (lc_mk (own := [("told", 3)]) C (it_list (ed_var (i := 1) C (by decide +kernel) rfl)) (by decide +kernel) (fun s5 H5 Ca5 cl5 fp5 => (pgN (i := 3) (Ctx.blk C s5 H5 _ Ca5 cl5 fp5 rfl) (by decide +kernel))) (tgt_name (i := 3)) (by decide) rfl (fun s5 H5 Ca5 cl5 fp5 x5 => ets_nil) (fun s5 H5 Ca5 cl5 fp5 x5 => (ed_of_eo (eo_list (al_star (ed_var (i := 3) (Ctx.blk C s5 H5 _ Ca5 cl5 fp5 rfl) (by decide +kernel) rfl) (al_cons (ed_var (i := 2) (Ctx.blk C s5 H5 _ Ca5 cl5 fp5 rfl) (by decide +kernel) rfl) (al_nil (α := Int)))))))))))) fun v_found_4 => ?_
    exact sv_nil (wk_ops [.un 2] rfl)
  exact sv_ret (ed_of_eo (eo_sortedD C (by decide +kernel) hF.sorted_ (er_of_ed (ed_var (i := 1) C (by decide +kernel) rfl))))
theorem ok_sets_of {P : Program} {w : World} {K : PySem.W.Frag} {mg : Str → Option Value} {base : Heap} {f : Addr} {fd : FuncData} (F : Fun K "sets_of" "sets_of" st_sets_of f fd) (hF : Facts mg)  : FnG P w K mg base CX0 1 f fd ["things"] (spD K false (g1 m_sets_of)) :=
  ok_def F fs_sets_of (fun ds r h => by obtain ⟨x0, y, e, _, _⟩ := h; rw [e]; rfl) 4 rfl (by decide) fun X h1 h2 h3 h4 h5 C ds r h => by subst h1 h2 h3 h4 h5; obtain ⟨x0, y, e1, e2, e3⟩ := h; subst e1 e3; exact body_of (bk_sets_of C hF  x0) e2 (fun x h => nomatch h)
theorem bk_fitting {X : Cx} (C : Ctx X N_fitting (defScope st_fitting) none 0) (hF : Facts X.mg)  (a_sack : (T2 (List Int) Int)) :
    SV X (dats 3 [enc a_sack]) (defBody st_fitting) (fun _ : Unit => List.replicate 3 .un) (fun _ : Unit => List.replicate 3 .un) false (b_fitting a_sack) := by
  unfold b_fitting
  exact sv_ret (ed_of_eo (eo_lc (lc_mk (own := [("k", 1), ("weight", 2)]) C (it_enum C (by decide +kernel) hF.enumerate_ (ed_20 (ed_var (i := 0) C (by decide +kernel) rfl))) (by decide +kernel) (fun s1 H1 Ca1 cl1 fp1 => (pg_tup (Ctx.calm (Ctx.blk C s1 H1 _ Ca1 cl1 fp1 rfl)) (pgs_cons (pgN (i := 1) (Ctx.blk C s1 H1 _ Ca1 cl1 fp1 rfl) (by decide +kernel)) (pgs_cons (pgN (i := 2) (Ctx.blk C s1 H1 _ Ca1 cl1 fp1 rfl) (by decide +kernel)) pgs_nil)))) (tgt_t2 (tgt_name (i := 1)) (tgt_name (i := 2))) (by decide) rfl (fun s1 H1 Ca1 cl1 fp1 x1 => (ets_one (eb_cmp (ec_le (ed_var (i := 2) (Ctx.blk C s1 H1 _ Ca1 cl1 fp1 rfl) (by decide +kernel) rfl) (ed_21 (ed_var (i := 0) (Ctx.blk C s1 H1 _ Ca1 cl1 fp1 rfl) (by decide +kernel) rfl)))))) (fun s1 H1 Ca1 cl1 fp1 x1 => (ed_var (i := 1) (Ctx.blk C s1 H1 _ Ca1 cl1 fp1 rfl) (by decide +kernel) rfl)))))
theorem ok_fitting {P : Program} {w : World} {K : PySem.W.Frag} {mg : Str → Option Value} {base : Heap} {f : Addr} {fd : FuncData} (F : Fun K "fitting" "fitting" st_fitting f fd) (hF : Facts mg)  : FnG P w K mg base CX0 1 f fd ["sack"] (spD K false (g1 m_fitting)) :=
  ok_def F fs_fitting (fun ds r h => by obtain ⟨x0, y, e, _, _⟩ := h; rw [e]; rfl) 3 rfl (by decide) fun X h1 h2 h3 h4 h5 C ds r h => by subst h1 h2 h3 h4 h5; obtain ⟨x0, y, e1, e2, e3⟩ := h; subst e1 e3; exact body_of (bk_fitting C hF  x0) e2 (fun x h => nomatch h)
theorem bk_weight_of {X : Cx} (C : Ctx X N_weight_of (defScope st_weight_of) none 0) (hF : Facts X.mg)  (a_sack : (T2 (List Int) Int)) (a_told : (List Int)) :
    SV X (dats 3 [enc a_sack, enc a_told]) (defBody st_weight_of) (fun _ : Unit => List.replicate 3 .un) (fun _ : Unit => List.replicate 3 .un) false (b_weight_of a_sack a_told) := by
  unfold b_weight_of
  exact sv_ret (ed_sum C (by decide +kernel) hF.sum_ (er_of_eo (eo_lc (lc_mk (own := [("k", 2)]) C (it_list (ed_var (i := 1) C (by decide +kernel) rfl)) (by decide +kernel) (fun s1 H1 Ca1 cl1 fp1 => (pgN (i := 2) (Ctx.blk C s1 H1 _ Ca1 cl1 fp1 rfl) (by decide +kernel))) (tgt_name (i := 2)) (by decide) rfl (fun s1 H1 Ca1 cl1 fp1 x1 => ets_nil) (fun s1 H1 Ca1 cl1 fp1 x1 => (ed_ix (ed_20 (ed_var (i := 0) (Ctx.blk C s1 H1 _ Ca1 cl1 fp1 rfl) (by decide +kernel) rfl)) (ed_var (i := 2) (Ctx.blk C s1 H1 _ Ca1 cl1 fp1 rfl) (by decide +kernel) rfl)))))))
theorem ok_weight_of {P : Program} {w : World} {K : PySem.W.Frag} {mg : Str → Option Value} {base : Heap} {f : Addr} {fd : FuncData} (F : Fun K "weight_of" "weight_of" st_weight_of f fd) (hF : Facts mg)  : FnG P w K mg base CX0 1 f fd ["sack", "told"] (spD K false (g2 m_weight_of)) :=
  ok_def F fs_weight_of (fun ds r h => by obtain ⟨x0, x1, y, e, _, _⟩ := h; rw [e]; rfl) 3 rfl (by decide) fun X h1 h2 h3 h4 h5 C ds r h => by subst h1 h2 h3 h4 h5; obtain ⟨x0, x1, y, e1, e2, e3⟩ := h; subst e1 e3; exact body_of (bk_weight_of C hF  x0 x1) e2 (fun x h => nomatch h)
theorem bk_packings_of {X : Cx} (C : Ctx X N_packings_of (defScope st_packings_of) none 1) (hF : Facts X.mg) (hC_sets_of : Cal X.prog X.w X.K X.mg X.base CX0 1 "sets_of" ["things"] (spD X.K false (g1 m_sets_of))) (hC_fitting : Cal X.prog X.w X.K X.mg X.base CX0 1 "fitting" ["sack"] (spD X.K false (g1 m_fitting))) (hC_weight_of : Cal X.prog X.w X.K X.mg X.base CX0 1 "weight_of" ["sack", "told"] (spD X.K false (g2 m_weight_of))) (a_sack : (T2 (List Int) Int)) :
    SV X (dats 2 [enc a_sack]) (defBody st_packings_of) (fun _ : Unit => List.replicate 2 .un) (fun _ : Unit => List.replicate 2 .un) true (b_packings_of a_sack) := by
  unfold b_packings_of
  exact sv_retO (eo_lc (lc_mk (own := [("told", 1)]) C (it_list (ed_call C hC_sets_of (by decide) (by decide +kernel) (ad_cons (ed_call C hC_fitting (by decide) (by decide +kernel) (ad_cons (ed_var (i := 0) C (by decide +kernel) rfl) ad_nil) go1) ad_nil) go1)) (by decide +kernel) (fun s1 H1 Ca1 cl1 fp1 => (pgN (i := 1) (Ctx.blk C s1 H1 _ Ca1 cl1 fp1 rfl) (by decide +kernel))) (tgt_name (i := 1)) (by decide) rfl (fun s1 H1 Ca1 cl1 fp1 x1 => (ets_one (eb_cmp (ec_le (ed_call (Ctx.blk C s1 H1 _ Ca1 cl1 fp1 rfl) hC_weight_of (by decide) (by decide +kernel) (ad_cons (ed_var (i := 0) (Ctx.blk C s1 H1 _ Ca1 cl1 fp1 rfl) (by decide +kernel) rfl) (ad_cons (ed_var (i := 1) (Ctx.blk C s1 H1 _ Ca1 cl1 fp1 rfl) (by decide +kernel) rfl) ad_nil)) go2) (ed_21 (ed_var (i := 0) (Ctx.blk C s1 H1 _ Ca1 cl1 fp1 rfl) (by decide +kernel) rfl)))))) (fun s1 H1 Ca1 cl1 fp1 x1 => (ed_var (i := 1) (Ctx.blk C s1 H1 _ Ca1 cl1 fp1 rfl) (by decide +kernel) rfl))))
theorem ok_packings_of {P : Program} {w : World} {K : PySem.W.Frag} {mg : Str → Option Value} {base : Heap} {f : Addr} {fd : FuncData} (F : Fun K "packings_of" "packings_of" st_packings_of f fd) (hF : Facts mg) (hC_sets_of : Cal P w K mg base CX0 1 "sets_of" ["things"] (spD K false (g1 m_sets_of))) (hC_fitting : Cal P w K mg base CX0 1 "fitting" ["sack"] (spD K false (g1 m_fitting))) (hC_weight_of : Cal P w K mg base CX0 1 "weight_of" ["sack", "told"] (spD K false (g2 m_weight_of))) : FnG P w K mg base CX0 2 f fd ["sack"] (spD K true (g1 m_packings_of)) :=
  ok_def F fs_packings_of (fun ds r h => by obtain ⟨x0, y, e, _, _⟩ := h; rw [e]; rfl) 2 rfl (by decide) fun X h1 h2 h3 h4 h5 C ds r h => by subst h1 h2 h3 h4 h5; obtain ⟨x0, y, e1, e2, e3⟩ := h; subst e1 e3; exact body_of (bk_packings_of C hF hC_sets_of hC_fitting hC_weight_of x0) e2 (fun x h => nomatch h)
theorem bk_packings {X : Cx} (C : Ctx X N_packings (defScope st_packings) none 2) (hF : Facts X.mg) (hC_check_sack : Cal X.prog X.w X.K X.mg X.base CX0 1 "check_sack" ["sack"] (spD X.K false (g1 m_check_sack))) (hC_packings_of : Cal X.prog X.w X.K X.mg X.base CX0 2 "packings_of" ["sack"] (spD X.K true (g1 m_packings_of))) (a_sack : (T2 (List Int) Int)) :
    SV X (dats 1 [enc a_sack]) (defBody st_packings) (fun _ : Unit => List.replicate 1 .un) (fun _ : Unit => List.replicate 1 .un) true (b_packings a_sack) := by
  unfold b_packings
  refine sv_expr (ed_call C hC_check_sack (by decide) (by decide +kernel) (ad_cons (ed_var (i := 0) C (by decide +kernel) rfl) ad_nil) go1) ?_
  exact sv_retO (eo_call C hC_packings_of (by decide) (by decide +kernel) (ad_cons (ed_var (i := 0) C (by decide +kernel) rfl) ad_nil) go1)
theorem ok_packings {P : Program} {w : World} {K : PySem.W.Frag} {mg : Str → Option Value} {base : Heap} {f : Addr} {fd : FuncData} (F : Fun K "packings" "packings" st_packings f fd) (hF : Facts mg) (hC_check_sack : Cal P w K mg base CX0 1 "check_sack" ["sack"] (spD K false (g1 m_check_sack))) (hC_packings_of : Cal P w K mg base CX0 2 "packings_of" ["sack"] (spD K true (g1 m_packings_of))) : FnG P w K mg base CX0 3 f fd ["sack"] (spD K true (g1 m_packings)) :=
  ok_def F fs_packings (fun ds r h => by obtain ⟨x0, y, e, _, _⟩ := h; rw [e]; rfl) 1 rfl (by decide) fun X h1 h2 h3 h4 h5 C ds r h => by subst h1 h2 h3 h4 h5; obtain ⟨x0, y, e1, e2, e3⟩ := h; subst e1 e3; exact body_of (bk_packings C hF hC_check_sack hC_packings_of x0) e2 (fun x h => nomatch h)
theorem bk_is_cover {X : Cx} (C : Ctx X N_is_cover (defScope st_is_cover) none 1) (hF : Facts X.mg) (hC_fitting : Cal X.prog X.w X.K X.mg X.base CX0 1 "fitting" ["sack"] (spD X.K false (g1 m_fitting))) (hC_weight_of : Cal X.prog X.w X.K X.mg X.base CX0 1 "weight_of" ["sack", "told"] (spD X.K false (g2 m_weight_of))) (a_sack : (T2 (List Int) Int)) (a_told : (List Int)) :
    SV X (dats 3 [enc a_sack, enc a_told]) (defBody st_is_cover) (fun _ : Unit => List.replicate 3 .un) (fun _ : Unit => List.replicate 3 .un) false (b_is_cover a_sack a_told) := by
  unfold b_is_cover
  refine sv_if (S' := Unit) (P' := fun s2 => [.dat (enc a_sack), .dat (enc a_told), .un]) (eb_cmp (ec_neD C (ed_var (i := 1) C (by decide +kernel) rfl) (ed_of_eo (eo_lc (lc_mk (own := [("k", 2)]) C (it_list (ed_call C hC_fitting (by decide) (by decide +kernel) (ad_cons (ed_var (i := 0) C (by decide +kernel) rfl) ad_nil) go1)) (by decide +kernel) (fun s1 H1 Ca1 cl1 fp1 => (pgN (i := 2) (Ctx.blk C s1 H1 _ Ca1 cl1 fp1 rfl) (by decide +kernel))) (tgt_name (i := 2)) (by decide) rfl (fun s1 H1 Ca1 cl1 fp1 x1 => (ets_one (eb_cmp (ec_in (Ctx.blk C s1 H1 _ Ca1 cl1 fp1 rfl) (ed_var (i := 2) (Ctx.blk C s1 H1 _ Ca1 cl1 fp1 rfl) (by decide +kernel) rfl) (er_of_ed (ed_var (i := 1) (Ctx.blk C s1 H1 _ Ca1 cl1 fp1 rfl) (by decide +kernel) rfl)))))) (fun s1 H1 Ca1 cl1 fp1 x1 => (ed_var (i := 2) (Ctx.blk C s1 H1 _ Ca1 cl1 fp1 rfl) (by decide +kernel) rfl))))))) ?_ ?_ fun s2 => ?_
  · exact sv_ret ed_bl
  · exact sv_nil (wk_ops [] rfl)
  exact sv_ret (ed_cmp (ec_gt (ed_call C hC_weight_of (by decide) (by decide +kernel) (ad_cons (ed_var (i := 0) C (by decide +kernel) rfl) (ad_cons (ed_var (i := 1) C (by decide +kernel) rfl) ad_nil)) go2) (ed_21 (ed_var (i := 0) C (by decide +kernel) rfl))))
theorem ok_is_cover {P : Program} {w : World} {K : PySem.W.Frag} {mg : Str → Option Value} {base : Heap} {f : Addr} {fd : FuncData} (F : Fun K "is_cover" "is_cover" st_is_cover f fd) (hF : Facts mg) (hC_fitting : Cal P w K mg base CX0 1 "fitting" ["sack"] (spD K false (g1 m_fitting))) (hC_weight_of : Cal P w K mg base CX0 1 "weight_of" ["sack", "told"] (spD K false (g2 m_weight_of))) : FnG P w K mg base CX0 2 f fd ["sack", "told"] (spD K false (g2 m_is_cover)) :=
  ok_def F fs_is_cover (fun ds r h => by obtain ⟨x0, x1, y, e, _, _⟩ := h; rw [e]; rfl) 3 rfl (by decide) fun X h1 h2 h3 h4 h5 C ds r h => by subst h1 h2 h3 h4 h5; obtain ⟨x0, x1, y, e1, e2, e3⟩ := h; subst e1 e3; exact body_of (bk_is_cover C hF hC_fitting hC_weight_of x0 x1) e2 (fun x h => nomatch h)
theorem bk_is_least {X : Cx} (C : Ctx X N_is_least (defScope st_is_least) none 2) (hF : Facts X.mg) (hC_is_cover : Cal X.prog X.w X.K X.mg X.base CX0 2 "is_cover" ["sack", "told"] (spD X.K false (g2 m_is_cover))) (hC_weight_of : Cal X.prog X.w X.K X.mg X.base CX0 1 "weight_of" ["sack", "told"] (spD X.K false (g2 m_weight_of))) (a_sack : (T2 (List Int) Int)) (a_told : (List Int)) :
    SV X (dats 4 [enc a_sack, enc a_told]) (defBody st_is_least) (fun _ : Unit => List.replicate 4 .un) (fun _ : Unit => List.replicate 4 .un) false (b_is_least a_sack a_told) := by
  unfold b_is_least
  refine sv_if (S' := Unit) (P' := fun s1 => [.dat (enc a_sack), .dat (enc a_told), .un, .un]) (eb_not (eb_of_ed (ed_call C hC_is_cover (by decide) (by decide +kernel) (ad_cons (ed_var (i := 0) C (by decide +kernel) rfl) (ad_cons (ed_var (i := 1) C (by decide +kernel) rfl) ad_nil)) go2))) ?_ ?_ fun s1 => ?_
  · exact sv_ret ed_bl
  · exact sv_nil (wk_ops [] rfl)
  refine sv_set (i := 2) C (by decide +kernel) (ed_call C hC_weight_of (by decide) (by decide +kernel) (ad_cons (ed_var (i := 0) C (by decide +kernel) rfl) (ad_cons (ed_var (i := 1) C (by decide +kernel) rfl) ad_nil)) go2) fun v_whole_2 => ?_
  exact sv_ret (ed_all C (by decide +kernel) hF.all_ (er_of_eo (eo_lc (lc_mk (own := [("k", 3)]) C (it_list (ed_var (i := 1) C (by decide +kernel) rfl)) (by decide +kernel) (fun s3 H3 Ca3 cl3 fp3 => (pgN (i := 3) (Ctx.blk C s3 H3 _ Ca3 cl3 fp3 rfl) (by decide +kernel))) (tgt_name (i := 3)) (by decide) rfl (fun s3 H3 Ca3 cl3 fp3 x3 => ets_nil) (fun s3 H3 Ca3 cl3 fp3 x3 => (ed_cmp (ec_le (ed_sub (ed_var (i := 2) (Ctx.blk C s3 H3 _ Ca3 cl3 fp3 rfl) (by decide +kernel) rfl) (ed_ix (ed_20 (ed_var (i := 0) (Ctx.blk C s3 H3 _ Ca3 cl3 fp3 rfl) (by decide +kernel) rfl)) (ed_var (i := 3) (Ctx.blk C s3 H3 _ Ca3 cl3 fp3 rfl) (by decide +kernel) rfl))) (ed_21 (ed_var (i := 0) (Ctx.blk C s3 H3 _ Ca3 cl3 fp3 rfl) (by decide +kernel) rfl)))))))))
theorem ok_is_least {P : Program} {w : World} {K : PySem.W.Frag} {mg : Str → Option Value} {base : Heap} {f : Addr} {fd : FuncData} (F : Fun K "is_least" "is_least" st_is_least f fd) (hF : Facts mg) (hC_is_cover : Cal P w K mg base CX0 2 "is_cover" ["sack", "told"] (spD K false (g2 m_is_cover))) (hC_weight_of : Cal P w K mg base CX0 1 "weight_of" ["sack", "told"] (spD K false (g2 m_weight_of))) : FnG P w K mg base CX0 3 f fd ["sack", "told"] (spD K false (g2 m_is_least)) :=
  ok_def F fs_is_least (fun ds r h => by obtain ⟨x0, x1, y, e, _, _⟩ := h; rw [e]; rfl) 4 rfl (by decide) fun X h1 h2 h3 h4 h5 C ds r h => by subst h1 h2 h3 h4 h5; obtain ⟨x0, x1, y, e1, e2, e3⟩ := h; subst e1 e3; exact body_of (bk_is_least C hF hC_is_cover hC_weight_of x0 x1) e2 (fun x h => nomatch h)
theorem bk_least_covers {X : Cx} (C : Ctx X N_least_covers (defScope st_least_covers) none 3) (hF : Facts X.mg) (hC_check_sack : Cal X.prog X.w X.K X.mg X.base CX0 1 "check_sack" ["sack"] (spD X.K false (g1 m_check_sack))) (hC_sets_of : Cal X.prog X.w X.K X.mg X.base CX0 1 "sets_of" ["things"] (spD X.K false (g1 m_sets_of))) (hC_fitting : Cal X.prog X.w X.K X.mg X.base CX0 1 "fitting" ["sack"] (spD X.K false (g1 m_fitting))) (hC_is_least : Cal X.prog X.w X.K X.mg X.base CX0 3 "is_least" ["sack", "told"] (spD X.K false (g2 m_is_least))) (a_sack : (T2 (List Int) Int)) :
    SV X (dats 2 [enc a_sack]) (defBody st_least_covers) (fun _ : Unit => List.replicate 2 .un) (fun _ : Unit => List.replicate 2 .un) true (b_least_covers a_sack) := by
  unfold b_least_covers
  refine sv_expr (ed_call C hC_check_sack (by decide) (by decide +kernel) (ad_cons (ed_var (i := 0) C (by decide +kernel) rfl) ad_nil) go1) ?_
  exact sv_retO (eo_lc (lc_mk (own := [("told", 1)]) C (it_list (ed_call C hC_sets_of (by decide) (by decide +kernel) (ad_cons (ed_call C hC_fitting (by decide) (by decide +kernel) (ad_cons (ed_var (i := 0) C (by decide +kernel) rfl) ad_nil) go1) ad_nil) go1)) (by decide +kernel) (fun s1 H1 Ca1 cl1 fp1 => (pgN (i := 1) (Ctx.blk C s1 H1 _ Ca1 cl1 fp1 rfl) (by decide +kernel))) (tgt_name (i := 1)) (by decide) rfl (fun s1 H1 Ca1 cl1 fp1 x1 => (ets_one (eb_of_ed (ed_call (Ctx.blk C s1 H1 _ Ca1 cl1 fp1 rfl) hC_is_least (by decide) (by decide +kernel) (ad_cons (ed_var (i := 0) (Ctx.blk C s1 H1 _ Ca1 cl1 fp1 rfl) (by decide +kernel) rfl) (ad_cons (ed_var (i := 1) (Ctx.blk C s1 H1 _ Ca1 cl1 fp1 rfl) (by decide +kernel) rfl) ad_nil)) go2)))) (fun s1 H1 Ca1 cl1 fp1 x1 => (ed_var (i := 1) (Ctx.blk C s1 H1 _ Ca1 cl1 fp1 rfl) (by decide +kernel) rfl))))
theorem ok_least_covers {P : Program} {w : World} {K : PySem.W.Frag} {mg : Str → Option Value} {base : Heap} {f : Addr} {fd : FuncData} (F : Fun K "least_covers" "least_covers" st_least_covers f fd) (hF : Facts mg) (hC_check_sack : Cal P w K mg base CX0 1 "check_sack" ["sack"] (spD K false (g1 m_check_sack))) (hC_sets_of : Cal P w K mg base CX0 1 "sets_of" ["things"] (spD K false (g1 m_sets_of))) (hC_fitting : Cal P w K mg base CX0 1 "fitting" ["sack"] (spD K false (g1 m_fitting))) (hC_is_least : Cal P w K mg base CX0 3 "is_least" ["sack", "told"] (spD K false (g2 m_is_least))) : FnG P w K mg base CX0 4 f fd ["sack"] (spD K true (g1 m_least_covers)) :=
  ok_def F fs_least_covers (fun ds r h => by obtain ⟨x0, y, e, _, _⟩ := h; rw [e]; rfl) 2 rfl (by decide) fun X h1 h2 h3 h4 h5 C ds r h => by subst h1 h2 h3 h4 h5; obtain ⟨x0, y, e1, e2, e3⟩ := h; subst e1 e3; exact body_of (bk_least_covers C hF hC_check_sack hC_sets_of hC_fitting hC_is_least x0) e2 (fun x h => nomatch h)
theorem bk__law_fraction {X : Cx} (C : Ctx X N__law_fraction (defScope st__law_fraction) none 0) (hF : Facts X.mg)  (a_n : Int) (a_d : Int) :
    SV X (dats 4 [enc a_n, enc a_d]) (defBody st__law_fraction) (fun _ : Unit => List.replicate 4 .un) (fun _ : Unit => List.replicate 4 .un) false (b__law_fraction a_n a_d) := by
  unfold b__law_fraction
  refine sv_par (i := 2) (j := 3) C (by decide +kernel) (by decide +kernel) (by decide) (by decide +kernel) (by decide +kernel) (ed_abs C (by decide +kernel) hF.abs_ (ed_var (i := 0) C (by decide +kernel) rfl)) (ed_abs C (by decide +kernel) hF.abs_ (ed_var (i := 1) C (by decide +kernel) rfl)) fun v_one_1 v_two_2 => ?_
  refine sv_while (S1 := (Int × Int)) (P1 := fun s3 => [.dat (enc a_n), .dat (enc a_d), .dat (enc s3.1), .dat (enc s3.2)]) (s0 := (v_one_1, v_two_2)) (n := (v_one_1.natAbs + v_two_2.natAbs + 2)) C (wk_ops [] rfl) (fun s3 => (eb_cmp (ec_neI (ed_var (i := 3) C (by decide +kernel) rfl) ed_num))) (fun s3 => ?_) (fun s3 => ?_)
  · refine sv_par (i := 2) (j := 3) C (by decide +kernel) (by decide +kernel) (by decide) (by decide +kernel) (by decide +kernel) (ed_var (i := 3) C (by decide +kernel) rfl) (ed_mod (ed_int C (by decide +kernel) hF.int_ (ed_var (i := 2) C (by decide +kernel) rfl)) (ed_var (i := 3) C (by decide +kernel) rfl)) fun v_one_4 v_two_5 => ?_
    exact sv_nil (wk_ops [] rfl)
  refine sv_if (S' := Unit) (P' := fun s6 => [.dat (enc a_n), .dat (enc a_d), .dat (enc s3.1), .dat (enc s3.2)]) (eb_cmp (ec_lt (ed_var (i := 1) C (by decide +kernel) rfl) ed_num)) ?_ ?_ fun s6 => ?_
  · exact sv_ret (ed_t2 (ed_fdiv (ed_neg (ed_var (i := 0) C (by decide +kernel) rfl)) (ed_var (i := 2) C (by decide +kernel) rfl)) (ed_fdiv (ed_neg (ed_var (i := 1) C (by decide +kernel) rfl)) (ed_var (i := 2) C (by decide +kernel) rfl)))
  · exact sv_nil (wk_ops [] rfl)
  exact sv_ret (ed_t2 (ed_fdiv (ed_var (i := 0) C (by decide +kernel) rfl) (ed_var (i := 2) C (by decide +kernel) rfl)) (ed_fdiv (ed_var (i := 1) C (by decide +kernel) rfl) (ed_var (i := 2) C (by decide +kernel) rfl)))
theorem ok__law_fraction {P : Program} {w : World} {K : PySem.W.Frag} {mg : Str → Option Value} {base : Heap} {f : Addr} {fd : FuncData} (F : Fun K "_law_fraction" "_law_fraction" st__law_fraction f fd) (hF : Facts mg)  : FnG P w K mg base CX0 1 f fd ["n", "d"] (spD K false (g2 m__law_fraction)) :=
  ok_def F fs__law_fraction (fun ds r h => by obtain ⟨x0, x1, y, e, _, _⟩ := h; rw [e]; rfl) 4 rfl (by decide) fun X h1 h2 h3 h4 h5 C ds r h => by subst h1 h2 h3 h4 h5; obtain ⟨x0, x1, y, e1, e2, e3⟩ := h; subst e1 e3; exact body_of (bk__law_fraction C hF  x0 x1) e2 (fun x h => nomatch h)
theorem bk__law_points {X : Cx} (C : Ctx X N__law_points (defScope st__law_points) none 2) (hF : Facts X.mg) (hC__law_fraction : Cal X.prog X.w X.K X.mg X.base CX0 1 "_law_fraction" ["n", "d"] (spD X.K false (g2 m__law_fraction))) (hC__law_mix : Cal X.prog X.w X.K X.mg X.base CX0 1 "_law_mix" ["draws", "k", "many"] (spD X.K false (g3 m__law_mix))) (hC__law_packings : Cal X.prog X.w X.K X.mg X.base CX0 2 "_law_packings" ["sack"] (spD X.K false (g1 m__law_packings))) (a_draws : (List Int)) (a_first : Int) (a_sack : (T2 (List Int) Int)) :
    SV X (dats 10 [enc a_draws, enc a_first, enc a_sack]) (defBody st__law_points) (fun _ : Unit => List.replicate 10 .un) (fun _ : Unit => List.replicate 10 .un) false (b__law_points a_draws a_first a_sack) := by
  unfold b__law_points
  refine sv_set (i := 3) C (by decide +kernel) (ed_len C (by decide +kernel) hF.len_ (er_of_ed (ed_20 (ed_var (i := 2) C (by decide +kernel) rfl)))) fun v_many_1 => ?_
  refine sv_setO (i := 4) C (by decide +kernel) (Nat.le_of_ble_eq_true rfl) (eo_list (al_cons (ed_of_eo (eo_lc (lc_mk (own := [("k", 8)]) C (it_rng1 C (by decide +kernel) hF.range_ (ed_var (i := 3) C (by decide +kernel) rfl)) (by decide +kernel) (fun s3 H3 Ca3 cl3 fp3 => (pgN (i := 8) (Ctx.blk C s3 H3 _ Ca3 cl3 fp3 rfl) (by decide +kernel))) (tgt_name (i := 8)) (by decide) rfl (fun s3 H3 Ca3 cl3 fp3 x3 => ets_nil) (fun s3 H3 Ca3 cl3 fp3 x3 => (ed_call (Ctx.blk C s3 H3 _ Ca3 cl3 fp3 rfl) hC__law_fraction (by decide) (by decide +kernel) (ad_cons (ed_call (Ctx.blk C s3 H3 _ Ca3 cl3 fp3 rfl) hC__law_mix (by decide) (by decide +kernel) (ad_cons (ed_var (i := 0) (Ctx.blk C s3 H3 _ Ca3 cl3 fp3 rfl) (by decide +kernel) rfl) (ad_cons (ed_add (ed_var (i := 1) (Ctx.blk C s3 H3 _ Ca3 cl3 fp3 rfl) (by decide +kernel) rfl) (ed_var (i := 8) (Ctx.blk C s3 H3 _ Ca3 cl3 fp3 rfl) (by decide +kernel) rfl)) (ad_cons ed_num ad_nil))) go3) (ad_cons ed_num ad_nil)) go2))))) (al_cons (ed_of_eo (eo_rep (eo_list (al_cons (ed_t2 ed_num ed_num) (al_nil (α := (T2 Int Int))))) (ed_var (i := 3) C (by decide +kernel) rfl))) (al_nil (α := (List (T2 Int Int))))))) fun v_found_2 => ?_
  refine sv_set (i := 5) C (by decide +kernel) (ed_call C hC__law_packings (by decide) (by decide +kernel) (ad_cons (ed_var (i := 2) C (by decide +kernel) rfl) ad_nil) go1) fun v_every_4 => ?_
  refine sv_set (i := 6) C (by decide +kernel) (ed_of_eo (eo_lc (lc_mk (own := [("t", 7)]) C (it_rng1 C (by decide +kernel) hF.range_ ed_num) (by decide +kernel) (fun s6 H6 Ca6 cl6 fp6 => (pgN (i := 7) (Ctx.blk C s6 H6 _ Ca6 cl6 fp6 rfl) (by decide +kernel))) (tgt_name (i := 7)) (by decide) rfl (fun s6 H6 Ca6 cl6 fp6 x6 => ets_nil) (fun s6 H6 Ca6 cl6 fp6 x6 => (ed_ix (ed_var (i := 5) (Ctx.blk C s6 H6 _ Ca6 cl6 fp6 rfl) (by decide +kernel) rfl) (ed_call (Ctx.blk C s6 H6 _ Ca6 cl6 fp6 rfl) hC__law_mix (by decide) (by decide +kernel) (ad_cons (ed_var (i := 0) (Ctx.blk C s6 H6 _ Ca6 cl6 fp6 rfl) (by decide +kernel) rfl) (ad_cons (ed_add (ed_add (ed_var (i := 1) (Ctx.blk C s6 H6 _ Ca6 cl6 fp6 rfl) (by decide +kernel) rfl) ed_num) (ed_var (i := 7) (Ctx.blk C s6 H6 _ Ca6 cl6 fp6 rfl) (by decide +kernel) rfl)) (ad_cons (ed_len (Ctx.blk C s6 H6 _ Ca6 cl6 fp6 rfl) (by decide +kernel) hF.len_ (er_of_ed (ed_var (i := 5) (Ctx.blk C s6 H6 _ Ca6 cl6 fp6 rfl) (by decide +kernel) rfl))) ad_nil))) go3)))))) (fun v_some_5 => ?_) (sw_cell C (by decide +kernel))
  refine sv_app (i := 4) C (by decide +kernel) rfl (ed_of_eo (eo_lc (lc_mk (own := [("k", 8)]) C (it_rng1 C (by decide +kernel) hF.range_ (ed_var (i := 3) C (by decide +kernel) rfl)) (by decide +kernel) (fun s7 H7 Ca7 cl7 fp7 => (pgN (i := 8) (Ctx.blk C s7 H7 _ Ca7 cl7 fp7 rfl) (by decide +kernel))) (tgt_name (i := 8)) (by decide) rfl (fun s7 H7 Ca7 cl7 fp7 x7 => ets_nil) (fun s7 H7 Ca7 cl7 fp7 x7 => (ed_call (Ctx.blk C s7 H7 _ Ca7 cl7 fp7 rfl) hC__law_fraction (by decide) (by decide +kernel) (ad_cons (ed_len (Ctx.blk C s7 H7 _ Ca7 cl7 fp7 rfl) (by decide +kernel) hF.len_ (er_of_eo (eo_lc (lc_mk (own := [("told", 9)]) (Ctx.blk C s7 H7 _ Ca7 cl7 fp7 rfl) (it_list (ed_var (i := 6) (Ctx.blk C s7 H7 _ Ca7 cl7 fp7 rfl) (by decide +kernel) rfl)) (by decide +kernel) (fun s8 H8 Ca8 cl8 fp8 => (pgN (i := 9) (Ctx.blk (Ctx.blk C s7 H7 _ Ca7 cl7 fp7 rfl) s8 H8 _ Ca8 cl8 fp8 rfl) (by decide +kernel))) (tgt_name (i := 9)) (by decide) rfl (fun s8 H8 Ca8 cl8 fp8 x8 => (ets_one (eb_cmp (ec_in (Ctx.blk (Ctx.blk C s7 H7 _ Ca7 cl7 fp7 rfl) s8 H8 _ Ca8 cl8 fp8 rfl) (ed_var (i := 8) (Ctx.blk (Ctx.blk C s7 H7 _ Ca7 cl7 fp7 rfl) s8 H8 _ Ca8 cl8 fp8 rfl) (by decide +kernel) rfl) (er_of_ed (ed_var (i := 9) (Ctx.blk (Ctx.blk C s7 H7 _ Ca7 cl7 fp7 rfl) s8 H8 _ Ca8 cl8 fp8 rfl) (by decide +kernel) rfl)))))) (fun s8 H8 Ca8 cl8 fp8 x8 => (ed_var (i := 9) (Ctx.blk (Ctx.blk C s7 H7 _ Ca7 cl7 fp7 rfl) s8 H8 _ Ca8 cl8 fp8 rfl) (by decide +kernel) rfl)))))) (ad_cons ed_num ad_nil)) go2))))) fun v9 => ?_
  refine sv_wk (wk_ops [.fz 4] rfl) ?_
  exact sv_ret (ed_var (i := 4) C (by decide +kernel) rfl)
theorem ok__law_points {P : Program} {w : World} {K : PySem.W.Frag} {mg : Str → Option Value} {base : Heap} {f : Addr} {fd : FuncData} (F : Fun K "_law_points" "_law_points" st__law_points f fd) (hF : Facts mg) (hC__law_fraction : Cal P w K mg base CX0 1 "_law_fraction" ["n", "d"] (spD K false (g2 m__law_fraction))) (hC__law_mix : Cal P w K mg base CX0 1 "_law_mix" ["draws", "k", "many"] (spD K false (g3 m__law_mix))) (hC__law_packings : Cal P w K mg base CX0 2 "_law_packings" ["sack"] (spD K false (g1 m__law_packings))) : FnG P w K mg base CX0 3 f fd ["draws", "first", "sack"] (spD K false (g3 m__law_points)) :=
  ok_def F fs__law_points (fun ds r h => by obtain ⟨x0, x1, x2, y, e, _, _⟩ := h; rw [e]; rfl) 10 rfl (by decide) fun X h1 h2 h3 h4 h5 C ds r h => by subst h1 h2 h3 h4 h5; obtain ⟨x0, x1, x2, y, e1, e2, e3⟩ := h; subst e1 e3; exact body_of (bk__law_points C hF hC__law_fraction hC__law_mix hC__law_packings x0 x1 x2) e2 (fun x h => nomatch h)
theorem bk_check_cover {X : Cx} (C : Ctx X N_check_cover (defScope st_check_cover) none 2) (hF : Facts X.mg) (hC_check_sack : Cal X.prog X.w X.K X.mg X.base CX0 1 "check_sack" ["sack"] (spD X.K false (g1 m_check_sack))) (hC_is_cover : Cal X.prog X.w X.K X.mg X.base CX0 2 "is_cover" ["sack", "told"] (spD X.K false (g2 m_is_cover))) (a_sack : (T2 (List Int) Int)) (a_cover : (List Int)) :
    SV X (dats 2 [enc a_sack, enc a_cover]) (defBody st_check_cover) (fun _ : Unit => List.replicate 2 .un) (fun _ : Unit => List.replicate 2 .un) false (b_check_cover a_sack a_cover) := by
  unfold b_check_cover
  refine sv_expr (ed_call C hC_check_sack (by decide) (by decide +kernel) (ad_cons (ed_var (i := 0) C (by decide +kernel) rfl) ad_nil) go1) ?_
  refine sv_if (S' := Unit) (P' := fun s1 => [.dat (enc a_sack), .dat (enc a_cover)]) (eb_not (eb_of_ed (ed_call C hC_is_cover (by decide) (by decide +kernel) (ad_cons (ed_var (i := 0) C (by decide +kernel) rfl) (ad_cons (ed_var (i := 1) C (by decide +kernel) rfl) ad_nil)) go2))) ?_ ?_ fun s1 => ?_
  · exact sv_raise
  · exact sv_nil (wk_ops [] rfl)
  exact sv_nil (wkR_all rfl)
theorem ok_check_cover {P : Program} {w : World} {K : PySem.W.Frag} {mg : Str → Option Value} {base : Heap} {f : Addr} {fd : FuncData} (F : Fun K "check_cover" "check_cover" st_check_cover f fd) (hF : Facts mg) (hC_check_sack : Cal P w K mg base CX0 1 "check_sack" ["sack"] (spD K false (g1 m_check_sack))) (hC_is_cover : Cal P w K mg base CX0 2 "is_cover" ["sack", "told"] (spD K false (g2 m_is_cover))) : FnG P w K mg base CX0 3 f fd ["sack", "cover"] (spD K false (g2 m_check_cover)) :=
  ok_def F fs_check_cover (fun ds r h => by obtain ⟨x0, x1, y, e, _, _⟩ := h; rw [e]; rfl) 2 rfl (by decide) fun X h1 h2 h3 h4 h5 C ds r h => by subst h1 h2 h3 h4 h5; obtain ⟨x0, x1, y, e1, e2, e3⟩ := h; subst e1 e3; exact body_of (bk_check_cover C hF hC_check_sack hC_is_cover x0 x1) e2 (fun x h => by cases h; exact ⟨rfl, rfl⟩)
theorem bk_cover_row {X : Cx} (C : Ctx X N_cover_row (defScope st_cover_row) none 3) (hF : Facts X.mg) (hC_check_cover : Cal X.prog X.w X.K X.mg X.base CX0 3 "check_cover" ["sack", "cover"] (spD X.K false (g2 m_check_cover))) (a_sack : (T2 (List Int) Int)) (a_cover : (List Int)) :
    SV X (dats 3 [enc a_sack, enc a_cover]) (defBody st_cover_row) (fun _ : Unit => List.replicate 3 .un) (fun _ : Unit => List.replicate 3 .un) false (b_cover_row a_sack a_cover) := by
  unfold b_cover_row
  refine sv_expr (ed_call C hC_check_cover (by decide) (by decide +kernel) (ad_cons (ed_var (i := 0) C (by decide +kernel) rfl) (ad_cons (ed_var (i := 1) C (by decide +kernel) rfl) ad_nil)) go2) ?_
  exact sv_ret (ed_t2 (ed_of_eo (eo_lc (lc_mk (own := [("k", 2)]) C (it_rng1 C (by decide +kernel) hF.range_ (ed_len C (by decide +kernel) hF.len_ (er_of_ed (ed_20 (ed_var (i := 0) C (by decide +kernel) rfl))))) (by decide +kernel) (fun s1 H1 Ca1 cl1 fp1 => (pgN (i := 2) (Ctx.blk C s1 H1 _ Ca1 cl1 fp1 rfl) (by decide +kernel))) (tgt_name (i := 2)) (by decide) rfl (fun s1 H1 Ca1 cl1 fp1 x1 => ets_nil) (fun s1 H1 Ca1 cl1 fp1 x1 => (ed_intB (Ctx.blk C s1 H1 _ Ca1 cl1 fp1 rfl) (by decide +kernel) hF.int_ (ed_cmp (ec_in (Ctx.blk C s1 H1 _ Ca1 cl1 fp1 rfl) (ed_var (i := 2) (Ctx.blk C s1 H1 _ Ca1 cl1 fp1 rfl) (by decide +kernel) rfl) (er_of_ed (ed_var (i := 1) (Ctx.blk C s1 H1 _ Ca1 cl1 fp1 rfl) (by decide +kernel) rfl))))))))) (ed_sub (ed_len C (by decide +kernel) hF.len_ (er_of_ed (ed_var (i := 1) C (by decide +kernel) rfl))) ed_num))
theorem ok_cover_row {P : Program} {w : World} {K : PySem.W.Frag} {mg : Str → Option Value} {base : Heap} {f : Addr} {fd : FuncData} (F : Fun K "cover_row" "cover_row" st_cover_row f fd) (hF : Facts mg) (hC_check_cover : Cal P w K mg base CX0 3 "check_cover" ["sack", "cover"] (spD K false (g2 m_check_cover))) : FnG P w K mg base CX0 4 f fd ["sack", "cover"] (spD K false (g2 m_cover_row)) :=
  ok_def F fs_cover_row (fun ds r h => by obtain ⟨x0, x1, y, e, _, _⟩ := h; rw [e]; rfl) 3 rfl (by decide) fun X h1 h2 h3 h4 h5 C ds r h => by subst h1 h2 h3 h4 h5; obtain ⟨x0, x1, y, e1, e2, e3⟩ := h; subst e1 e3; exact body_of (bk_cover_row C hF hC_check_cover x0 x1) e2 (fun x h => nomatch h)
theorem bk_wide_row {X : Cx} (C : Ctx X N_wide_row (defScope st_wide_row) none 3) (hF : Facts X.mg) (hC_check_cover : Cal X.prog X.w X.K X.mg X.base CX0 3 "check_cover" ["sack", "cover"] (spD X.K false (g2 m_check_cover))) (hC_fitting : Cal X.prog X.w X.K X.mg X.base CX0 1 "fitting" ["sack"] (spD X.K false (g1 m_fitting))) (a_sack : (T2 (List Int) Int)) (a_cover : (List Int)) :
    SV X (dats 5 [enc a_sack, enc a_cover]) (defBody st_wide_row) (fun _ : Unit => List.replicate 5 .un) (fun _ : Unit => List.replicate 5 .un) false (b_wide_row a_sack a_cover) := by
  unfold b_wide_row
  refine sv_expr (ed_call C hC_check_cover (by decide) (by decide +kernel) (ad_cons (ed_var (i := 0) C (by decide +kernel) rfl) (ad_cons (ed_var (i := 1) C (by decide +kernel) rfl) ad_nil)) go2) ?_
  refine sv_set (i := 2) C (by decide +kernel) (ed_maxL C (by decide +kernel) hF.max_ (er_of_eo (eo_lc (lc_mk (own := [("k", 4)]) C (it_list (ed_var (i := 1) C (by decide +kernel) rfl)) (by decide +kernel) (fun s2 H2 Ca2 cl2 fp2 => (pgN (i := 4) (Ctx.blk C s2 H2 _ Ca2 cl2 fp2 rfl) (by decide +kernel))) (tgt_name (i := 4)) (by decide) rfl (fun s2 H2 Ca2 cl2 fp2 x2 => ets_nil) (fun s2 H2 Ca2 cl2 fp2 x2 => (ed_ix (ed_20 (ed_var (i := 0) (Ctx.blk C s2 H2 _ Ca2 cl2 fp2 rfl) (by decide +kernel) rfl)) (ed_var (i := 4) (Ctx.blk C s2 H2 _ Ca2 cl2 fp2 rfl) (by decide +kernel) rfl))))))) fun v_heaviest_1 => ?_
  refine sv_set (i := 3) C (by decide +kernel) (ed_of_eo (eo_lc (lc_mk (own := [("k", 4)]) C (it_list (ed_call C hC_fitting (by decide) (by decide +kernel) (ad_cons (ed_var (i := 0) C (by decide +kernel) rfl) ad_nil) go1)) (by decide +kernel) (fun s4 H4 Ca4 cl4 fp4 => (pgN (i := 4) (Ctx.blk C s4 H4 _ Ca4 cl4 fp4 rfl) (by decide +kernel))) (tgt_name (i := 4)) (by decide) rfl (fun s4 H4 Ca4 cl4 fp4 x4 => (ets_one (eb_bool (ew_or (eb_cmp (ec_in (Ctx.blk C s4 H4 _ Ca4 cl4 fp4 rfl) (ed_var (i := 4) (Ctx.blk C s4 H4 _ Ca4 cl4 fp4 rfl) (by decide +kernel) rfl) (er_of_ed (ed_var (i := 1) (Ctx.blk C s4 H4 _ Ca4 cl4 fp4 rfl) (by decide +kernel) rfl)))) (ew_or1 (eb_cmp (ec_ge (ed_ix (ed_20 (ed_var (i := 0) (Ctx.blk C s4 H4 _ Ca4 cl4 fp4 rfl) (by decide +kernel) rfl)) (ed_var (i := 4) (Ctx.blk C s4 H4 _ Ca4 cl4 fp4 rfl) (by decide +kernel) rfl)) (ed_var (i := 2) (Ctx.blk C s4 H4 _ Ca4 cl4 fp4 rfl) (by decide +kernel) rfl)))))))) (fun s4 H4 Ca4 cl4 fp4 x4 => (ed_var (i := 4) (Ctx.blk C s4 H4 _ Ca4 cl4 fp4 rfl) (by decide +kernel) rfl))))) (fun v_wide_3 => ?_) (sw_cell C (by decide +kernel))
  exact sv_ret (ed_t2 (ed_of_eo (eo_lc (lc_mk (own := [("k", 4)]) C (it_rng1 C (by decide +kernel) hF.range_ (ed_len C (by decide +kernel) hF.len_ (er_of_ed (ed_20 (ed_var (i := 0) C (by decide +kernel) rfl))))) (by decide +kernel) (fun s5 H5 Ca5 cl5 fp5 => (pgN (i := 4) (Ctx.blk C s5 H5 _ Ca5 cl5 fp5 rfl) (by decide +kernel))) (tgt_name (i := 4)) (by decide) rfl (fun s5 H5 Ca5 cl5 fp5 x5 => ets_nil) (fun s5 H5 Ca5 cl5 fp5 x5 => (ed_intB (Ctx.blk C s5 H5 _ Ca5 cl5 fp5 rfl) (by decide +kernel) hF.int_ (ed_cmp (ec_in (Ctx.blk C s5 H5 _ Ca5 cl5 fp5 rfl) (ed_var (i := 4) (Ctx.blk C s5 H5 _ Ca5 cl5 fp5 rfl) (by decide +kernel) rfl) (er_of_ed (ed_var (i := 3) (Ctx.blk C s5 H5 _ Ca5 cl5 fp5 rfl) (by decide +kernel) rfl))))))))) (ed_sub (ed_len C (by decide +kernel) hF.len_ (er_of_ed (ed_var (i := 1) C (by decide +kernel) rfl))) ed_num))
theorem ok_wide_row {P : Program} {w : World} {K : PySem.W.Frag} {mg : Str → Option Value} {base : Heap} {f : Addr} {fd : FuncData} (F : Fun K "wide_row" "wide_row" st_wide_row f fd) (hF : Facts mg) (hC_check_cover : Cal P w K mg base CX0 3 "check_cover" ["sack", "cover"] (spD K false (g2 m_check_cover))) (hC_fitting : Cal P w K mg base CX0 1 "fitting" ["sack"] (spD K false (g1 m_fitting))) : FnG P w K mg base CX0 4 f fd ["sack", "cover"] (spD K false (g2 m_wide_row)) :=
  ok_def F fs_wide_row (fun ds r h => by obtain ⟨x0, x1, y, e, _, _⟩ := h; rw [e]; rfl) 5 rfl (by decide) fun X h1 h2 h3 h4 h5 C ds r h => by subst h1 h2 h3 h4 h5; obtain ⟨x0, x1, y, e1, e2, e3⟩ := h; subst e1 e3; exact body_of (bk_wide_row C hF hC_check_cover hC_fitting x0 x1) e2 (fun x h => nomatch h)
theorem bk__law_plus {X : Cx} (C : Ctx X N__law_plus (defScope st__law_plus) none 1) (hF : Facts X.mg) (hC__law_fraction : Cal X.prog X.w X.K X.mg X.base CX0 1 "_law_fraction" ["n", "d"] (spD X.K false (g2 m__law_fraction))) (a_one : (T2 Int Int)) (a_two : (T2 Int Int)) :
    SV X (dats 2 [enc a_one, enc a_two]) (defBody st__law_plus) (fun _ : Unit => List.replicate 2 .un) (fun _ : Unit => List.replicate 2 .un) false (b__law_plus a_one a_two) := by
  unfold b__law_plus
  exact sv_ret (ed_call C hC__law_fraction (by decide) (by decide +kernel) (ad_cons (ed_add (ed_mul (ed_20 (ed_var (i := 0) C (by decide +kernel) rfl)) (ed_21 (ed_var (i := 1) C (by decide +kernel) rfl))) (ed_mul (ed_20 (ed_var (i := 1) C (by decide +kernel) rfl)) (ed_21 (ed_var (i := 0) C (by decide +kernel) rfl)))) (ad_cons (ed_mul (ed_21 (ed_var (i := 0) C (by decide +kernel) rfl)) (ed_21 (ed_var (i := 1) C (by decide +kernel) rfl))) ad_nil)) go2)
theorem ok__law_plus {P : Program} {w : World} {K : PySem.W.Frag} {mg : Str → Option Value} {base : Heap} {f : Addr} {fd : FuncData} (F : Fun K "_law_plus" "_law_plus" st__law_plus f fd) (hF : Facts mg) (hC__law_fraction : Cal P w K mg base CX0 1 "_law_fraction" ["n", "d"] (spD K false (g2 m__law_fraction))) : FnG P w K mg base CX0 2 f fd ["one", "two"] (spD K false (g2 m__law_plus)) :=
  ok_def F fs__law_plus (fun ds r h => by obtain ⟨x0, x1, y, e, _, _⟩ := h; rw [e]; rfl) 2 rfl (by decide) fun X h1 h2 h3 h4 h5 C ds r h => by subst h1 h2 h3 h4 h5; obtain ⟨x0, x1, y, e1, e2, e3⟩ := h; subst e1 e3; exact body_of (bk__law_plus C hF hC__law_fraction x0 x1) e2 (fun x h => nomatch h)
theorem bk__law_added {X : Cx} (C : Ctx X N__law_added (defScope st__law_added) none 2) (hF : Facts X.mg) (hC__law_plus : Cal X.prog X.w X.K X.mg X.base CX0 2 "_law_plus" ["one", "two"] (spD X.K false (g2 m__law_plus))) (a_told : (List (T2 Int Int))) :
    SV X (dats 3 [enc a_told]) (defBody st__law_added) (fun _ : Unit => List.replicate 3 .un) (fun _ : Unit => List.replicate 3 .un) false (b__law_added a_told) := by
  unfold b__law_added
  refine sv_set (i := 1) C (by decide +kernel) (ed_t2 ed_num ed_num) fun v_found_1 => ?_
  refine sv_for (S1 := (T2 Int Int)) (P1 := fun s2 => [.dat (enc a_told), .dat (enc s2), .un]) (s0 := v_found_1) C (it_list (ed_var (i := 0) C (by decide +kernel) rfl)) (pgN (i := 2) C (by decide +kernel)) (tgt_name (i := 2)) (fun s2 => rfl) (wk_ops [] rfl) (fun s2 y3 => ?_) (fun s2 => ?_)
  · refine sv_set (i := 1) C (by decide +kernel) (ed_call C hC__law_plus (by decide) (by decide +kernel) (ad_cons (ed_var (i := 1) C (by decide +kernel) rfl) (ad_cons (ed_var (i := 2) C (by decide +kernel) rfl) ad_nil)) go2) fun v_found_4 => ?_
    exact sv_nil (wk_ops [.un 2] rfl)
  exact sv_ret (ed_var (i := 1) C (by decide +kernel) rfl)
theorem ok__law_added {P : Program} {w : World} {K : PySem.W.Frag} {mg : Str → Option Value} {base : Heap} {f : Addr} {fd : FuncData} (F : Fun K "_law_added" "_law_added" st__law_added f fd) (hF : Facts mg) (hC__law_plus : Cal P w K mg base CX0 2 "_law_plus" ["one", "two"] (spD K false (g2 m__law_plus))) : FnG P w K mg base CX0 3 f fd ["told"] (spD K false (g1 m__law_added)) :=
  ok_def F fs__law_added (fun ds r h => by obtain ⟨x0, y, e, _, _⟩ := h; rw [e]; rfl) 3 rfl (by decide) fun X h1 h2 h3 h4 h5 C ds r h => by subst h1 h2 h3 h4 h5; obtain ⟨x0, y, e1, e2, e3⟩ := h; subst e1 e3; exact body_of (bk__law_added C hF hC__law_plus x0) e2 (fun x h => nomatch h)
theorem bk__law_less {X : Cx} (C : Ctx X N__law_less (defScope st__law_less) none 0) (hF : Facts X.mg)  (a_one : (T2 Int Int)) (a_two : (T2 Int Int)) :
    SV X (dats 2 [enc a_one, enc a_two]) (defBody st__law_less) (fun _ : Unit => List.replicate 2 .un) (fun _ : Unit => List.replicate 2 .un) false (b__law_less a_one a_two) := by
  unfold b__law_less
  exact sv_ret (ed_cmp (ec_lt (ed_mul (ed_20 (ed_var (i := 0) C (by decide +kernel) rfl)) (ed_21 (ed_var (i := 1) C (by decide +kernel) rfl))) (ed_mul (ed_20 (ed_var (i := 1) C (by decide +kernel) rfl)) (ed_21 (ed_var (i := 0) C (by decide +kernel) rfl)))))
theorem ok__law_less {P : Program} {w : World} {K : PySem.W.Frag} {mg : Str → Option Value} {base : Heap} {f : Addr} {fd : FuncData} (F : Fun K "_law_less" "_law_less" st__law_less f fd) (hF : Facts mg)  : FnG P w K mg base CX0 1 f fd ["one", "two"] (spD K false (g2 m__law_less)) :=
  ok_def F fs__law_less (fun ds r h => by obtain ⟨x0, x1, y, e, _, _⟩ := h; rw [e]; rfl) 2 rfl (by decide) fun X h1 h2 h3 h4 h5 C ds r h => by subst h1 h2 h3 h4 h5; obtain ⟨x0, x1, y, e1, e2, e3⟩ := h; subst e1 e3; exact body_of (bk__law_less C hF  x0 x1) e2 (fun x h => nomatch h)
theorem bk__law_by {X : Cx} (C : Ctx X N__law_by (defScope st__law_by) none 0) (hF : Facts X.mg)  (a_numbers : (List Int)) (a_told : (List Int)) :
    SV X (dats 3 [enc a_numbers, enc a_told]) (defBody st__law_by) (fun _ : Unit => List.replicate 3 .un) (fun _ : Unit => List.replicate 3 .un) false (b__law_by a_numbers a_told) := by
  unfold b__law_by
  exact sv_ret (ed_sum C (by decide +kernel) hF.sum_ (er_of_eo (eo_lc (lc_mk (own := [("k", 2)]) C (it_list (ed_var (i := 1) C (by decide +kernel) rfl)) (by decide +kernel) (fun s1 H1 Ca1 cl1 fp1 => (pgN (i := 2) (Ctx.blk C s1 H1 _ Ca1 cl1 fp1 rfl) (by decide +kernel))) (tgt_name (i := 2)) (by decide) rfl (fun s1 H1 Ca1 cl1 fp1 x1 => ets_nil) (fun s1 H1 Ca1 cl1 fp1 x1 => (ed_ix (ed_var (i := 0) (Ctx.blk C s1 H1 _ Ca1 cl1 fp1 rfl) (by decide +kernel) rfl) (ed_var (i := 2) (Ctx.blk C s1 H1 _ Ca1 cl1 fp1 rfl) (by decide +kernel) rfl)))))))
theorem ok__law_by {P : Program} {w : World} {K : PySem.W.Frag} {mg : Str → Option Value} {base : Heap} {f : Addr} {fd : FuncData} (F : Fun K "_law_by" "_law_by" st__law_by f fd) (hF : Facts mg)  : FnG P w K mg base CX0 1 f fd ["numbers", "told"] (spD K false (g2 m__law_by)) :=
  ok_def F fs__law_by (fun ds r h => by obtain ⟨x0, x1, y, e, _, _⟩ := h; rw [e]; rfl) 3 rfl (by decide) fun X h1 h2 h3 h4 h5 C ds r h => by subst h1 h2 h3 h4 h5; obtain ⟨x0, x1, y, e1, e2, e3⟩ := h; subst e1 e3; exact body_of (bk__law_by C hF  x0 x1) e2 (fun x h => nomatch h)
theorem bk__law_minus {X : Cx} (C : Ctx X N__law_minus (defScope st__law_minus) none 2) (hF : Facts X.mg) (hC__law_plus : Cal X.prog X.w X.K X.mg X.base CX0 2 "_law_plus" ["one", "two"] (spD X.K false (g2 m__law_plus))) (a_one : (T2 Int Int)) (a_two : (T2 Int Int)) :
    SV X (dats 2 [enc a_one, enc a_two]) (defBody st__law_minus) (fun _ : Unit => List.replicate 2 .un) (fun _ : Unit => List.replicate 2 .un) false (b__law_minus a_one a_two) := by
  unfold b__law_minus
  exact sv_ret (ed_call C hC__law_plus (by decide) (by decide +kernel) (ad_cons (ed_var (i := 0) C (by decide +kernel) rfl) (ad_cons (ed_t2 (ed_neg (ed_20 (ed_var (i := 1) C (by decide +kernel) rfl))) (ed_21 (ed_var (i := 1) C (by decide +kernel) rfl))) ad_nil)) go2)
theorem ok__law_minus {P : Program} {w : World} {K : PySem.W.Frag} {mg : Str → Option Value} {base : Heap} {f : Addr} {fd : FuncData} (F : Fun K "_law_minus" "_law_minus" st__law_minus f fd) (hF : Facts mg) (hC__law_plus : Cal P w K mg base CX0 2 "_law_plus" ["one", "two"] (spD K false (g2 m__law_plus))) : FnG P w K mg base CX0 3 f fd ["one", "two"] (spD K false (g2 m__law_minus)) :=
  ok_def F fs__law_minus (fun ds r h => by obtain ⟨x0, x1, y, e, _, _⟩ := h; rw [e]; rfl) 2 rfl (by decide) fun X h1 h2 h3 h4 h5 C ds r h => by subst h1 h2 h3 h4 h5; obtain ⟨x0, x1, y, e1, e2, e3⟩ := h; subst e1 e3; exact body_of (bk__law_minus C hF hC__law_plus x0 x1) e2 (fun x h => nomatch h)
theorem bk_is_fraction {X : Cx} (C : Ctx X N_is_fraction (defScope st_is_fraction) none 0) (hF : Facts X.mg)  (a_told : (T2 Int Int)) :
    SV X (dats 1 [enc a_told]) (defBody st_is_fraction) (fun _ : Unit => List.replicate 1 .un) (fun _ : Unit => List.replicate 1 .un) false (b_is_fraction a_told) := by
  unfold b_is_fraction
  exact sv_ret (ed_and (ed_cmp (ec_gt (ed_21 (ed_var (i := 0) C (by decide +kernel) rfl)) ed_num)) (ed_one (ed_cmp (ec_eqI (ed_gcd C (by decide +kernel) hF.gcd_ (ed_20 (ed_var (i := 0) C (by decide +kernel) rfl)) (ed_21 (ed_var (i := 0) C (by decide +kernel) rfl))) ed_num))))
theorem ok_is_fraction {P : Program} {w : World} {K : PySem.W.Frag} {mg : Str → Option Value} {base : Heap} {f : Addr} {fd : FuncData} (F : Fun K "is_fraction" "is_fraction" st_is_fraction f fd) (hF : Facts mg)  : FnG P w K mg base CX0 1 f fd ["told"] (spD K false (g1 m_is_fraction)) :=
  ok_def F fs_is_fraction (fun ds r h => by obtain ⟨x0, y, e, _, _⟩ := h; rw [e]; rfl) 1 rfl (by decide) fun X h1 h2 h3 h4 h5 C ds r h => by subst h1 h2 h3 h4 h5; obtain ⟨x0, y, e1, e2, e3⟩ := h; subst e1 e3; exact body_of (bk_is_fraction C hF  x0) e2 (fun x h => nomatch h)
theorem bk_check_point {X : Cx} (C : Ctx X N_check_point (defScope st_check_point) none 1) (hF : Facts X.mg) (hC_check_sack : Cal X.prog X.w X.K X.mg X.base CX0 1 "check_sack" ["sack"] (spD X.K false (g1 m_check_sack))) (hC_is_fraction : Cal X.prog X.w X.K X.mg X.base CX0 1 "is_fraction" ["told"] (spD X.K false (g1 m_is_fraction))) (a_sack : (T2 (List Int) Int)) (a_point : (List (T2 Int Int))) :
    SV X (dats 4 [enc a_sack, enc a_point]) (defBody st_check_point) (fun _ : Unit => List.replicate 4 .un) (fun _ : Unit => List.replicate 4 .un) false (b_check_point a_sack a_point) := by
  unfold b_check_point
  refine sv_expr (ed_call C hC_check_sack (by decide) (by decide +kernel) (ad_cons (ed_var (i := 0) C (by decide +kernel) rfl) ad_nil) go1) ?_
  refine sv_if (S' := Unit) (P' := fun s1 => [.dat (enc a_sack), .dat (enc a_point), .un, .un]) (eb_cmp (ec_neI (ed_len C (by decide +kernel) hF.len_ (er_of_ed (ed_var (i := 1) C (by decide +kernel) rfl))) (ed_len C (by decide +kernel) hF.len_ (er_of_ed (ed_20 (ed_var (i := 0) C (by decide +kernel) rfl)))))) ?_ ?_ fun s1 => ?_
  · exact sv_raise
  · exact sv_nil (wk_ops [] rfl)
  refine sv_for (S1 := Unit) (P1 := fun s2 => [.dat (enc a_sack), .dat (enc a_point), .un, .un]) (s0 := ()) C (it_enum C (by decide +kernel) hF.enumerate_ (ed_var (i := 1) C (by decide +kernel) rfl)) (pg_tup (Ctx.calm C) (pgs_cons (pgN (i := 2) C (by decide +kernel)) (pgs_cons (pgN (i := 3) C (by decide +kernel)) pgs_nil))) (tgt_t2 (tgt_name (i := 2)) (tgt_name (i := 3))) (fun s2 => rfl) (wk_ops [] rfl) (fun s2 y3 => ?_) (fun s2 => ?_)
  · refine sv_if (S' := Unit) (P' := fun s4 => [.dat (enc a_sack), .dat (enc a_point), .dat (enc y3.a), .dat (enc y3.b)]) (eb_bool (ew_or (eb_not (eb_of_ed (ed_call C hC_is_fraction (by decide) (by decide +kernel) (ad_cons (ed_var (i := 3) C (by decide +kernel) rfl) ad_nil) go1))) (ew_or1 (eb_not (eb_chLeLe rfl ed_num (ed_20 (ed_var (i := 3) C (by decide +kernel) rfl)) (ed_21 (ed_var (i := 3) C (by decide +kernel) rfl))))))) ?_ ?_ fun s4 => ?_
    · exact sv_raise
    · exact sv_nil (wk_ops [] rfl)
    exact sv_nil (wk_ops [.un 2, .un 3] rfl)
  exact sv_nil (wkR_all rfl)
theorem ok_check_point {P : Program} {w : World} {K : PySem.W.Frag} {mg : Str → Option Value} {base : Heap} {f : Addr} {fd : FuncData} (F : Fun K "check_point" "check_point" st_check_point f fd) (hF : Facts mg) (hC_check_sack : Cal P w K mg base CX0 1 "check_sack" ["sack"] (spD K false (g1 m_check_sack))) (hC_is_fraction : Cal P w K mg base CX0 1 "is_fraction" ["told"] (spD K false (g1 m_is_fraction))) : FnG P w K mg base CX0 2 f fd ["sack", "point"] (spD K false (g2 m_check_point)) :=
  ok_def F fs_check_point (fun ds r h => by obtain ⟨x0, x1, y, e, _, _⟩ := h; rw [e]; rfl) 4 rfl (by decide) fun X h1 h2 h3 h4 h5 C ds r h => by subst h1 h2 h3 h4 h5; obtain ⟨x0, x1, y, e1, e2, e3⟩ := h; subst e1 e3; exact body_of (bk_check_point C hF hC_check_sack hC_is_fraction x0 x1) e2 (fun x h => by cases h; exact ⟨rfl, rfl⟩)
theorem bk_fraction {X : Cx} (C : Ctx X N_fraction (defScope st_fraction) none 0) (hF : Facts X.mg)  (a_number : Int) (a_by : Int) :
    SV X (dats 3 [enc a_number, enc a_by]) (defBody st_fraction) (fun _ : Unit => List.replicate 3 .un) (fun _ : Unit => List.replicate 3 .un) false (b_fraction a_number a_by) := by
  unfold b_fraction
  refine sv_if (S' := (Int × Int)) (P' := fun s1 => [.dat (enc s1.1), .dat (enc s1.2), .un]) (eb_cmp (ec_lt (ed_var (i := 1) C (by decide +kernel) rfl) ed_num)) ?_ ?_ fun s1 => ?_
  · refine sv_par (i := 0) (j := 1) C (by decide +kernel) (by decide +kernel) (by decide) (by decide +kernel) (by decide +kernel) (ed_neg (ed_var (i := 0) C (by decide +kernel) rfl)) (ed_neg (ed_var (i := 1) C (by decide +kernel) rfl)) fun v_number_2 v_by_3 => ?_
    exact sv_nil (wk_ops [] rfl)
  · exact sv_nil (wk_ops [] rfl)
  refine sv_set (i := 2) C (by decide +kernel) (ed_gcd C (by decide +kernel) hF.gcd_ (ed_var (i := 0) C (by decide +kernel) rfl) (ed_var (i := 1) C (by decide +kernel) rfl)) fun v_common_4 => ?_
  exact sv_ret (ed_t2 (ed_fdiv (ed_var (i := 0) C (by decide +kernel) rfl) (ed_var (i := 2) C (by decide +kernel) rfl)) (ed_fdiv (ed_var (i := 1) C (by decide +kernel) rfl) (ed_var (i := 2) C (by decide +kernel) rfl)))
theorem ok_fraction {P : Program} {w : World} {K : PySem.W.Frag} {mg : Str → Option Value} {base : Heap} {f : Addr} {fd : FuncData} (F : Fun K "fraction" "fraction" st_fraction f fd) (hF : Facts mg)  : FnG P w K mg base CX0 1 f fd ["number", "by"] (spD K false (g2 m_fraction)) :=
  ok_def F fs_fraction (fun ds r h => by obtain ⟨x0, x1, y, e, _, _⟩ := h; rw [e]; rfl) 3 rfl (by decide) fun X h1 h2 h3 h4 h5 C ds r h => by subst h1 h2 h3 h4 h5; obtain ⟨x0, x1, y, e1, e2, e3⟩ := h; subst e1 e3; exact body_of (bk_fraction C hF  x0 x1) e2 (fun x h => nomatch h)
theorem bk_plus {X : Cx} (C : Ctx X N_plus (defScope st_plus) none 1) (hF : Facts X.mg) (hC_fraction : Cal X.prog X.w X.K X.mg X.base CX0 1 "fraction" ["number", "by"] (spD X.K false (g2 m_fraction))) (a_one : (T2 Int Int)) (a_two : (T2 Int Int)) :
    SV X (dats 2 [enc a_one, enc a_two]) (defBody st_plus) (fun _ : Unit => List.replicate 2 .un) (fun _ : Unit => List.replicate 2 .un) false (b_plus a_one a_two) := by
  unfold b_plus
  exact sv_ret (ed_call C hC_fraction (by decide) (by decide +kernel) (ad_cons (ed_add (ed_mul (ed_20 (ed_var (i := 0) C (by decide +kernel) rfl)) (ed_21 (ed_var (i := 1) C (by decide +kernel) rfl))) (ed_mul (ed_20 (ed_var (i := 1) C (by decide +kernel) rfl)) (ed_21 (ed_var (i := 0) C (by decide +kernel) rfl)))) (ad_cons (ed_mul (ed_21 (ed_var (i := 0) C (by decide +kernel) rfl)) (ed_21 (ed_var (i := 1) C (by decide +kernel) rfl))) ad_nil)) go2)
theorem ok_plus {P : Program} {w : World} {K : PySem.W.Frag} {mg : Str → Option Value} {base : Heap} {f : Addr} {fd : FuncData} (F : Fun K "plus" "plus" st_plus f fd) (hF : Facts mg) (hC_fraction : Cal P w K mg base CX0 1 "fraction" ["number", "by"] (spD K false (g2 m_fraction))) : FnG P w K mg base CX0 2 f fd ["one", "two"] (spD K false (g2 m_plus)) :=
  ok_def F fs_plus (fun ds r h => by obtain ⟨x0, x1, y, e, _, _⟩ := h; rw [e]; rfl) 2 rfl (by decide) fun X h1 h2 h3 h4 h5 C ds r h => by subst h1 h2 h3 h4 h5; obtain ⟨x0, x1, y, e1, e2, e3⟩ := h; subst e1 e3; exact body_of (bk_plus C hF hC_fraction x0 x1) e2 (fun x h => nomatch h)
theorem bk_total {X : Cx} (C : Ctx X N_total (defScope st_total) none 2) (hF : Facts X.mg) (hC_plus : Cal X.prog X.w X.K X.mg X.base CX0 2 "plus" ["one", "two"] (spD X.K false (g2 m_plus))) (a_told : (List (T2 Int Int))) :
    SV X (dats 3 [enc a_told]) (defBody st_total) (fun _ : Unit => List.replicate 3 .un) (fun _ : Unit => List.replicate 3 .un) false (b_total a_told) := by
  unfold b_total
  refine sv_set (i := 1) C (by decide +kernel) (ed_t2 ed_num ed_num) fun v_found_1 => ?_
  refine sv_for (S1 := (T2 Int Int)) (P1 := fun s2 => [.dat (enc a_told), .dat (enc s2), .un]) (s0 := v_found_1) C (it_list (ed_var (i := 0) C (by decide +kernel) rfl)) (pgN (i := 2) C (by decide +kernel)) (tgt_name (i := 2)) (fun s2 => rfl) (wk_ops [] rfl) (fun s2 y3 => ?_) (fun s2 => ?_)
  · refine sv_set (i := 1) C (by decide +kernel) (ed_call C hC_plus (by decide) (by decide +kernel) (ad_cons (ed_var (i := 1) C (by decide +kernel) rfl) (ad_cons (ed_var (i := 2) C (by decide +kernel) rfl) ad_nil)) go2) fun v_found_4 => ?_
    exact sv_nil (wk_ops [.un 2] rfl)
  exact sv_ret (ed_var (i := 1) C (by decide +kernel) rfl)
theorem ok_total {P : Program} {w : World} {K : PySem.W.Frag} {mg : Str → Option Value} {base : Heap} {f : Addr} {fd : FuncData} (F : Fun K "total" "total" st_total f fd) (hF : Facts mg) (hC_plus : Cal P w K mg base CX0 2 "plus" ["one", "two"] (spD K false (g2 m_plus))) : FnG P w K mg base CX0 3 f fd ["told"] (spD K false (g1 m_total)) :=
  ok_def F fs_total (fun ds r h => by obtain ⟨x0, y, e, _, _⟩ := h; rw [e]; rfl) 3 rfl (by decide) fun X h1 h2 h3 h4 h5 C ds r h => by subst h1 h2 h3 h4 h5; obtain ⟨x0, y, e1, e2, e3⟩ := h; subst e1 e3; exact body_of (bk_total C hF hC_plus x0) e2 (fun x h => nomatch h)
theorem bk_is_less {X : Cx} (C : Ctx X N_is_less (defScope st_is_less) none 0) (hF : Facts X.mg)  (a_one : (T2 Int Int)) (a_two : (T2 Int Int)) :
    SV X (dats 2 [enc a_one, enc a_two]) (defBody st_is_less) (fun _ : Unit => List.replicate 2 .un) (fun _ : Unit => List.replicate 2 .un) false (b_is_less a_one a_two) := by
  unfold b_is_less
  exact sv_ret (ed_cmp (ec_lt (ed_mul (ed_20 (ed_var (i := 0) C (by decide +kernel) rfl)) (ed_21 (ed_var (i := 1) C (by decide +kernel) rfl))) (ed_mul (ed_20 (ed_var (i := 1) C (by decide +kernel) rfl)) (ed_21 (ed_var (i := 0) C (by decide +kernel) rfl)))))
theorem ok_is_less {P : Program} {w : World} {K : PySem.W.Frag} {mg : Str → Option Value} {base : Heap} {f : Addr} {fd : FuncData} (F : Fun K "is_less" "is_less" st_is_less f fd) (hF : Facts mg)  : FnG P w K mg base CX0 1 f fd ["one", "two"] (spD K false (g2 m_is_less)) :=
  ok_def F fs_is_less (fun ds r h => by obtain ⟨x0, x1, y, e, _, _⟩ := h; rw [e]; rfl) 2 rfl (by decide) fun X h1 h2 h3 h4 h5 C ds r h => by subst h1 h2 h3 h4 h5; obtain ⟨x0, x1, y, e1, e2, e3⟩ := h; subst e1 e3; exact body_of (bk_is_less C hF  x0 x1) e2 (fun x h => nomatch h)
theorem bk_minus {X : Cx} (C : Ctx X N_minus (defScope st_minus) none 1) (hF : Facts X.mg) (hC_fraction : Cal X.prog X.w X.K X.mg X.base CX0 1 "fraction" ["number", "by"] (spD X.K false (g2 m_fraction))) (a_one : (T2 Int Int)) (a_two : (T2 Int Int)) :
    SV X (dats 2 [enc a_one, enc a_two]) (defBody st_minus) (fun _ : Unit => List.replicate 2 .un) (fun _ : Unit => List.replicate 2 .un) false (b_minus a_one a_two) := by
  unfold b_minus
  exact sv_ret (ed_call C hC_fraction (by decide) (by decide +kernel) (ad_cons (ed_sub (ed_mul (ed_20 (ed_var (i := 0) C (by decide +kernel) rfl)) (ed_21 (ed_var (i := 1) C (by decide +kernel) rfl))) (ed_mul (ed_20 (ed_var (i := 1) C (by decide +kernel) rfl)) (ed_21 (ed_var (i := 0) C (by decide +kernel) rfl)))) (ad_cons (ed_mul (ed_21 (ed_var (i := 0) C (by decide +kernel) rfl)) (ed_21 (ed_var (i := 1) C (by decide +kernel) rfl))) ad_nil)) go2)
theorem ok_minus {P : Program} {w : World} {K : PySem.W.Frag} {mg : Str → Option Value} {base : Heap} {f : Addr} {fd : FuncData} (F : Fun K "minus" "minus" st_minus f fd) (hF : Facts mg) (hC_fraction : Cal P w K mg base CX0 1 "fraction" ["number", "by"] (spD K false (g2 m_fraction))) : FnG P w K mg base CX0 2 f fd ["one", "two"] (spD K false (g2 m_minus)) :=
  ok_def F fs_minus (fun ds r h => by obtain ⟨x0, x1, y, e, _, _⟩ := h; rw [e]; rfl) 2 rfl (by decide) fun X h1 h2 h3 h4 h5 C ds r h => by subst h1 h2 h3 h4 h5; obtain ⟨x0, x1, y, e1, e2, e3⟩ := h; subst e1 e3; exact body_of (bk_minus C hF hC_fraction x0 x1) e2 (fun x h => nomatch h)
theorem bk_worst_cover {X : Cx} (C : Ctx X N_worst_cover (defScope st_worst_cover) none 3) (hF : Facts X.mg) (hC_check_point : Cal X.prog X.w X.K X.mg X.base CX0 2 "check_point" ["sack", "point"] (spD X.K false (g2 m_check_point))) (hC_sets_of : Cal X.prog X.w X.K X.mg X.base CX0 1 "sets_of" ["things"] (spD X.K false (g1 m_sets_of))) (hC_fitting : Cal X.prog X.w X.K X.mg X.base CX0 1 "fitting" ["sack"] (spD X.K false (g1 m_fitting))) (hC_is_cover : Cal X.prog X.w X.K X.mg X.base CX0 2 "is_cover" ["sack", "told"] (spD X.K false (g2 m_is_cover))) (hC_total : Cal X.prog X.w X.K X.mg X.base CX0 3 "total" ["told"] (spD X.K false (g1 m_total))) (hC_minus : Cal X.prog X.w X.K X.mg X.base CX0 2 "minus" ["one", "two"] (spD X.K false (g2 m_minus))) (hC_is_less : Cal X.prog X.w X.K X.mg X.base CX0 1 "is_less" ["one", "two"] (spD X.K false (g2 m_is_less))) (a_sack : (T2 (List Int) Int)) (a_point : (List (T2 Int Int))) :
    SV X (dats 6 [enc a_sack, enc a_point]) (defBody st_worst_cover) (fun _ : Unit => List.replicate 6 .un) (fun _ : Unit => List.replicate 6 .un) false (b_worst_cover a_sack a_point) := by
  unfold b_worst_cover
  refine sv_expr (ed_call C hC_check_point (by decide) (by decide +kernel) (ad_cons (ed_var (i := 0) C (by decide +kernel) rfl) (ad_cons (ed_var (i := 1) C (by decide +kernel) rfl) ad_nil)) go2) ?_
  refine sv_set (i := 2) C (by decide +kernel) ed_none fun v_best_1 => ?_
  refine sv_for (S1 := (Option (T2 (T2 Int Int) (List Int)))) (P1 := fun s2 => [.dat (enc a_sack), .dat (enc a_point), .dat (enc s2), .un, .un, .un]) (s0 := v_best_1) C (it_list (ed_call C hC_sets_of (by decide) (by decide +kernel) (ad_cons (ed_call C hC_fitting (by decide) (by decide +kernel) (ad_cons (ed_var (i := 0) C (by decide +kernel) rfl) ad_nil) go1) ad_nil) go1)) (pgN (i := 3) C (by decide +kernel)) (tgt_name (i := 3)) (fun s2 => rfl) (wk_ops [] rfl) (fun s2 y3 => ?_) (fun s2 => ?_)
  · refine sv_if (S' := (Option (T2 (T2 Int Int) (List Int)))) (P' := fun s4 => [.dat (enc a_sack), .dat (enc a_point), .dat (enc s4), .dat (enc y3), .un, .un]) (eb_of_ed (ed_call C hC_is_cover (by decide) (by decide +kernel) (ad_cons (ed_var (i := 0) C (by decide +kernel) rfl) (ad_cons (ed_var (i := 3) C (by decide +kernel) rfl) ad_nil)) go2)) ?_ ?_ fun s4 => ?_
    · refine sv_set (i := 4) C (by decide +kernel) (ed_call C hC_total (by decide) (by decide +kernel) (ad_cons (ed_of_eo (eo_lc (lc_mk (own := [("k", 5)]) C (it_list (ed_var (i := 3) C (by decide +kernel) rfl)) (by decide +kernel) (fun s6 H6 Ca6 cl6 fp6 => (pgN (i := 5) (Ctx.blk C s6 H6 _ Ca6 cl6 fp6 rfl) (by decide +kernel))) (tgt_name (i := 5)) (by decide) rfl (fun s6 H6 Ca6 cl6 fp6 x6 => ets_nil) (fun s6 H6 Ca6 cl6 fp6 x6 => (ed_call (Ctx.blk C s6 H6 _ Ca6 cl6 fp6 rfl) hC_minus (by decide) (by decide +kernel) (ad_cons (ed_t2 ed_num ed_num) (ad_cons (ed_ix (ed_var (i := 1) (Ctx.blk C s6 H6 _ Ca6 cl6 fp6 rfl) (by decide +kernel) rfl) (ed_var (i := 5) (Ctx.blk C s6 H6 _ Ca6 cl6 fp6 rfl) (by decide +kernel) rfl)) ad_nil)) go2))))) ad_nil) go1) fun v_here_5 => ?_
      refine sv_if (S' := (Option (T2 (T2 Int Int) (List Int)))) (P' := fun s7 => [.dat (enc a_sack), .dat (enc a_point), .dat (enc s7), .dat (enc y3), .dat (enc v_here_5), .un]) (eb_bool (ew_or (eb_cmp (ec_isN (ed_var (i := 2) C (by decide +kernel) rfl))) (ew_or1 (eb_of_ed (ed_call C hC_is_less (by decide) (by decide +kernel) (ad_cons (ed_var (i := 4) C (by decide +kernel) rfl) (ad_cons (ed_20 (ed_get (ed_var (i := 2) C (by decide +kernel) rfl))) ad_nil)) go2))))) ?_ ?_ fun s7 => ?_
      · refine sv_set (i := 2) C (by decide +kernel) (ed_some (ed_t2 (ed_var (i := 4) C (by decide +kernel) rfl) (ed_var (i := 3) C (by decide +kernel) rfl))) fun v_best_8 => ?_
        exact sv_nil (wk_ops [] rfl)
      · exact sv_nil (wk_ops [] rfl)
      exact sv_nil (wk_ops [.un 4] rfl)
    · exact sv_nil (wk_ops [] rfl)
    exact sv_nil (wk_ops [.un 3] rfl)
  exact sv_ret (ed_var (i := 2) C (by decide +kernel) rfl)
theorem ok_worst_cover {P : Program} {w : World} {K : PySem.W.Frag} {mg : Str → Option Value} {base : Heap} {f : Addr} {fd : FuncData} (F : Fun K "worst_cover" "worst_cover" st_worst_cover f fd) (hF : Facts mg) (hC_check_point : Cal P w K mg base CX0 2 "check_point" ["sack", "point"] (spD K false (g2 m_check_point))) (hC_sets_of : Cal P w K mg base CX0 1 "sets_of" ["things"] (spD K false (g1 m_sets_of))) (hC_fitting : Cal P w K mg base CX0 1 "fitting" ["sack"] (spD K false (g1 m_fitting))) (hC_is_cover : Cal P w K mg base CX0 2 "is_cover" ["sack", "told"] (spD K false (g2 m_is_cover))) (hC_total : Cal P w K mg base CX0 3 "total" ["told"] (spD K false (g1 m_total))) (hC_minus : Cal P w K mg base CX0 2 "minus" ["one", "two"] (spD K false (g2 m_minus))) (hC_is_less : Cal P w K mg base CX0 1 "is_less" ["one", "two"] (spD K false (g2 m_is_less))) : FnG P w K mg base CX0 4 f fd ["sack", "point"] (spD K false (g2 m_worst_cover)) :=
  ok_def F fs_worst_cover (fun ds r h => by obtain ⟨x0, x1, y, e, _, _⟩ := h; rw [e]; rfl) 6 rfl (by decide) fun X h1 h2 h3 h4 h5 C ds r h => by subst h1 h2 h3 h4 h5; obtain ⟨x0, x1, y, e1, e2, e3⟩ := h; subst e1 e3; exact body_of (bk_worst_cover C hF hC_check_point hC_sets_of hC_fitting hC_is_cover hC_total hC_minus hC_is_less x0 x1) e2 (fun x h => nomatch h)
theorem bk__law_is_least {X : Cx} (C : Ctx X N__law_is_least (defScope st__law_is_least) none 1) (hF : Facts X.mg) (hC__law_weight : Cal X.prog X.w X.K X.mg X.base CX0 1 "_law_weight" ["sack", "told"] (spD X.K false (g2 m__law_weight))) (a_sack : (T2 (List Int) Int)) (a_told : (List Int)) :
    SV X (dats 4 [enc a_sack, enc a_told]) (defBody st__law_is_least) (fun _ : Unit => List.replicate 4 .un) (fun _ : Unit => List.replicate 4 .un) false (b__law_is_least a_sack a_told) := by
  unfold b__law_is_least
  refine sv_set (i := 2) C (by decide +kernel) (ed_call C hC__law_weight (by decide) (by decide +kernel) (ad_cons (ed_var (i := 0) C (by decide +kernel) rfl) (ad_cons (ed_var (i := 1) C (by decide +kernel) rfl) ad_nil)) go2) fun v_whole_1 => ?_
  exact sv_ret (ed_and (ed_cmp (ec_gt (ed_var (i := 2) C (by decide +kernel) rfl) (ed_21 (ed_var (i := 0) C (by decide +kernel) rfl)))) (ed_one (ed_cmp (ec_eqD C (ed_of_eo (eo_lc (lc_mk (own := [("k", 3)]) C (it_list (ed_var (i := 1) C (by decide +kernel) rfl)) (by decide +kernel) (fun s2 H2 Ca2 cl2 fp2 => (pgN (i := 3) (Ctx.blk C s2 H2 _ Ca2 cl2 fp2 rfl) (by decide +kernel))) (tgt_name (i := 3)) (by decide) rfl (fun s2 H2 Ca2 cl2 fp2 x2 => (ets_one (eb_cmp (ec_gt (ed_sub (ed_var (i := 2) (Ctx.blk C s2 H2 _ Ca2 cl2 fp2 rfl) (by decide +kernel) rfl) (ed_ix (ed_20 (ed_var (i := 0) (Ctx.blk C s2 H2 _ Ca2 cl2 fp2 rfl) (by decide +kernel) rfl)) (ed_var (i := 3) (Ctx.blk C s2 H2 _ Ca2 cl2 fp2 rfl) (by decide +kernel) rfl))) (ed_21 (ed_var (i := 0) (Ctx.blk C s2 H2 _ Ca2 cl2 fp2 rfl) (by decide +kernel) rfl)))))) (fun s2 H2 Ca2 cl2 fp2 x2 => (ed_var (i := 3) (Ctx.blk C s2 H2 _ Ca2 cl2 fp2 rfl) (by decide +kernel) rfl))))) (ed_of_eo (eo_list (al_nil (α := Int))))))))
theorem ok__law_is_least {P : Program} {w : World} {K : PySem.W.Frag} {mg : Str → Option Value} {base : Heap} {f : Addr} {fd : FuncData} (F : Fun K "_law_is_least" "_law_is_least" st__law_is_least f fd) (hF : Facts mg) (hC__law_weight : Cal P w K mg base CX0 1 "_law_weight" ["sack", "told"] (spD K false (g2 m__law_weight))) : FnG P w K mg base CX0 2 f fd ["sack", "told"] (spD K false (g2 m__law_is_least)) :=
  ok_def F fs__law_is_least (fun ds r h => by obtain ⟨x0, x1, y, e, _, _⟩ := h; rw [e]; rfl) 4 rfl (by decide) fun X h1 h2 h3 h4 h5 C ds r h => by subst h1 h2 h3 h4 h5; obtain ⟨x0, x1, y, e1, e2, e3⟩ := h; subst e1 e3; exact body_of (bk__law_is_least C hF hC__law_weight x0 x1) e2 (fun x h => nomatch h)
theorem bk_law {X : Cx} (C : Ctx X N_law (defScope st_law) none 4) (hF : Facts X.mg) (hC__law_draws : Cal X.prog X.w X.K X.mg X.base CX0 1 "_law_draws" ["script"] (spR X.K false m__law_draws)) (hC__law_sack : Cal X.prog X.w X.K X.mg X.base CX0 2 "_law_sack" ["draws", "first", "most"] (spD X.K false (g3 m__law_sack))) (hC__law_mix : Cal X.prog X.w X.K X.mg X.base CX0 1 "_law_mix" ["draws", "k", "many"] (spD X.K false (g3 m__law_mix))) (hC__law_packings : Cal X.prog X.w X.K X.mg X.base CX0 2 "_law_packings" ["sack"] (spD X.K false (g1 m__law_packings))) (hC__law_sets : Cal X.prog X.w X.K X.mg X.base CX0 1 "_law_sets" ["things"] (spD X.K false (g1 m__law_sets))) (hC__law_fits : Cal X.prog X.w X.K X.mg X.base CX0 1 "_law_fits" ["sack"] (spD X.K false (g1 m__law_fits))) (hC__law_weight : Cal X.prog X.w X.K X.mg X.base CX0 1 "_law_weight" ["sack", "told"] (spD X.K false (g2 m__law_weight))) (hC_packings : Cal X.prog X.w X.K X.mg X.base CX0 3 "packings" ["sack"] (spD X.K true (g1 m_packings))) (hC_least_covers : Cal X.prog X.w X.K X.mg X.base CX0 4 "least_covers" ["sack"] (spD X.K true (g1 m_least_covers))) (hC__law_is_least : Cal X.prog X.w X.K X.mg X.base CX0 2 "_law_is_least" ["sack", "told"] (spD X.K false (g2 m__law_is_least))) (hC_cover_row : Cal X.prog X.w X.K X.mg X.base CX0 4 "cover_row" ["sack", "cover"] (spD X.K false (g2 m_cover_row))) (hC_wide_row : Cal X.prog X.w X.K X.mg X.base CX0 4 "wide_row" ["sack", "cover"] (spD X.K false (g2 m_wide_row))) (hC__law_by : Cal X.prog X.w X.K X.mg X.base CX0 1 "_law_by" ["numbers", "told"] (spD X.K false (g2 m__law_by))) (hC__law_points : Cal X.prog X.w X.K X.mg X.base CX0 3 "_law_points" ["draws", "first", "sack"] (spD X.K false (g3 m__law_points))) (hC__law_added : Cal X.prog X.w X.K X.mg X.base CX0 3 "_law_added" ["told"] (spD X.K false (g1 m__law_added))) (hC__law_minus : Cal X.prog X.w X.K X.mg X.base CX0 3 "_law_minus" ["one", "two"] (spD X.K false (g2 m__law_minus))) (hC__law_less : Cal X.prog X.w X.K X.mg X.base CX0 1 "_law_less" ["one", "two"] (spD X.K false (g2 m__law_less))) (hC_worst_cover : Cal X.prog X.w X.K X.mg X.base CX0 4 "worst_cover" ["sack", "point"] (spD X.K false (g2 m_worst_cover))) (a_script : (List Int)) :
    SV X (.rd (a_script.map enc) :: List.replicate 25 .un) (defBody st_law) (fun _ : Unit => List.replicate 26 .un) (fun _ : Unit => List.replicate 26 .un) false (b_law a_script) := by
  unfold b_law
  refine sv_set (i := 1) C (by decide +kernel) (ed_callR (i := 0) C hC__law_draws (by decide) (by decide +kernel) (by decide +kernel) rfl) fun v_draws_1 => ?_
  refine sv_for (S1 := Unit) (P1 := fun s2 => [.rd (a_script.map enc), .dat (enc v_draws_1), .un, .un, .un, .un, .un, .un, .un, .un, .un, .un, .un, .un, .un, .un, .un, .un, .un, .un, .un, .un, .un, .un, .un, .un]) (s0 := ()) C (it_rng1 C (by decide +kernel) hF.range_ ed_num) (pgN (i := 2) C (by decide +kernel)) (tgt_name (i := 2)) (fun s2 => rfl) (wk_ops [] rfl) (fun s2 y3 => ?_) (fun s2 => ?_)
  · refine sv_set (i := 3) C (by decide +kernel) (ed_call C hC__law_sack (by decide) (by decide +kernel) (ad_cons (ed_var (i := 1) C (by decide +kernel) rfl) (ad_cons (ed_add ed_num (ed_mul ed_num (ed_var (i := 2) C (by decide +kernel) rfl))) (ad_cons (ed_ix (ed_of_eo (eo_list (al_cons ed_num (al_cons (ed_ix (ed_of_eo (eo_list (al_cons ed_num (al_cons ed_num (al_nil (α := Int)))))) (ed_intB C (by decide +kernel) hF.int_ (ed_cmp (ec_eqI (ed_call C hC__law_mix (by decide) (by decide +kernel) (ad_cons (ed_var (i := 1) C (by decide +kernel) rfl) (ad_cons ed_num (ad_cons ed_num ad_nil))) go3) ed_num)))) (al_nil (α := Int)))))) (ed_var (i := 2) C (by decide +kernel) rfl)) ad_nil))) go3) fun v_sack_4 => ?_
    refine sv_unpack (pg_tup (Ctx.calm C) (pgs_cons (pgN (i := 13) C (by decide +kernel)) (pgs_cons (pgN (i := 14) C (by decide +kernel)) pgs_nil))) (tgt_t2 (tgt_name (i := 13)) (tgt_name (i := 14))) rfl (ed_var (i := 3) C (by decide +kernel) rfl) fun u5 => ?_
    refine sv_set (i := 4) C (by decide +kernel) (ed_len C (by decide +kernel) hF.len_ (er_of_ed (ed_var (i := 13) C (by decide +kernel) rfl))) fun v_many_6 => ?_
    refine sv_set (i := 5) C (by decide +kernel) (ed_repr C (by decide +kernel) hF.repr_ (ed_var (i := 3) C (by decide +kernel) rfl)) fun v_kept_7 => ?_
    refine sv_set (i := 6) C (by decide +kernel) (ed_call C hC__law_packings (by decide) (by decide +kernel) (ad_cons (ed_var (i := 3) C (by decide +kernel) rfl) ad_nil) go1) fun v_every_8 => ?_
    refine sv_setL (i := 7) C (by decide +kernel) (by decide +kernel) (lc_mk (own := [("told", 8)]) C (it_list (ed_call C hC__law_sets (by decide) (by decide +kernel) (ad_cons (ed_call C hC__law_fits (by decide) (by decide +kernel) (ad_cons (ed_var (i := 3) C (by decide +kernel) rfl) ad_nil) go1) ad_nil) go1)) (by decide +kernel) (fun s10 H10 Ca10 cl10 fp10 => (pgN (i := 8) (Ctx.blk C s10 H10 _ Ca10 cl10 fp10 rfl) (by decide +kernel))) (tgt_name (i := 8)) (by decide) rfl (fun s10 H10 Ca10 cl10 fp10 x10 => (ets_one (eb_cmp (ec_gt (ed_call (Ctx.blk C s10 H10 _ Ca10 cl10 fp10 rfl) hC__law_weight (by decide) (by decide +kernel) (ad_cons (ed_var (i := 3) (Ctx.blk C s10 H10 _ Ca10 cl10 fp10 rfl) (by decide +kernel) rfl) (ad_cons (ed_var (i := 8) (Ctx.blk C s10 H10 _ Ca10 cl10 fp10 rfl) (by decide +kernel) rfl) ad_nil)) go2) (ed_var (i := 14) (Ctx.blk C s10 H10 _ Ca10 cl10 fp10 rfl) (by decide +kernel) rfl))))) (fun s10 H10 Ca10 cl10 fp10 x10 => (ed_var (i := 8) (Ctx.blk C s10 H10 _ Ca10 cl10 fp10 rfl) (by decide +kernel) rfl))) fun v_covers_9 => ?_
    refine sv_setO (i := 8) C (by decide +kernel) (Nat.le_of_ble_eq_true rfl) (eo_call C hC_packings (by decide) (by decide +kernel) (ad_cons (ed_var (i := 3) C (by decide +kernel) rfl) ad_nil) go1) fun v_told_11 => ?_
    refine sv_setO (i := 9) C (by decide +kernel) (Nat.le_of_ble_eq_true rfl) (eo_call C hC_least_covers (by decide) (by decide +kernel) (ad_cons (ed_var (i := 3) C (by decide +kernel) rfl) ad_nil) go1) fun v_least_12 => ?_
    refine sv_if (S' := Unit) (P' := fun s14 => [.rd (a_script.map enc), .dat (enc v_draws_1), .dat (enc y3), .dat (enc v_sack_4), .dat (enc v_many_6), .dat (enc v_kept_7), .dat (enc v_every_8), .dat (enc v_covers_9), .own (v_told_11.map enc), .own (v_least_12.map enc), .un, .un, .un, .dat (enc u5.a), .dat (enc u5.b), .un, .un, .un, .un, .un, .un, .un, .un, .un, .un, .un]) (eb_lend (eb_bool (ew_or (eb_cmp (ec_neS (ed_repr C (by decide +kernel) hF.repr_ (ed_var (i := 8) C (by decide +kernel) rfl)) (ed_repr C (by decide +kernel) hF.repr_ (ed_var (i := 6) C (by decide +kernel) rfl)))) (ew_or1 (eb_cmp (ec_neS (ed_repr C (by decide +kernel) hF.repr_ (ed_var (i := 9) C (by decide +kernel) rfl)) (ed_repr C (by decide +kernel) hF.repr_ (ed_of_eo (eo_lc (lc_mk (own := [("one", 19)]) C (it_list (ed_var (i := 7) C (by decide +kernel) rfl)) (by decide +kernel) (fun s13 H13 Ca13 cl13 fp13 => (pgN (i := 19) (Ctx.blk C s13 H13 _ Ca13 cl13 fp13 rfl) (by decide +kernel))) (tgt_name (i := 19)) (by decide) rfl (fun s13 H13 Ca13 cl13 fp13 x13 => (ets_one (eb_of_ed (ed_call (Ctx.blk C s13 H13 _ Ca13 cl13 fp13 rfl) hC__law_is_least (by decide) (by decide +kernel) (ad_cons (ed_var (i := 3) (Ctx.blk C s13 H13 _ Ca13 cl13 fp13 rfl) (by decide +kernel) rfl) (ad_cons (ed_var (i := 19) (Ctx.blk C s13 H13 _ Ca13 cl13 fp13 rfl) (by decide +kernel) rfl) ad_nil)) go2)))) (fun s13 H13 Ca13 cl13 fp13 x13 => (ed_var (i := 19) (Ctx.blk C s13 H13 _ Ca13 cl13 fp13 rfl) (by decide +kernel) rfl)))))))))))) ?_ ?_ fun s14 => ?_
    · exact sv_ret ed_bl
    · exact sv_nil (wk_ops [] rfl)
    refine sv_app (i := 8) C (by decide +kernel) rfl (ed_of_eo (eo_list (al_cons (ed_neg ed_num) (al_nil (α := Int))))) fun v15 => ?_
    refine sv_app (i := 9) C (by decide +kernel) rfl (ed_of_eo (eo_list (al_cons (ed_neg ed_num) (al_nil (α := Int))))) fun v16 => ?_
    refine sv_for (S1 := Unit) (P1 := fun s17 => [.rd (a_script.map enc), .dat (enc v_draws_1), .dat (enc y3), .dat (enc v_sack_4), .dat (enc v_many_6), .dat (enc v_kept_7), .dat (enc v_every_8), .dat (enc v_covers_9), .own (v15.map enc), .own (v16.map enc), .un, .un, .un, .dat (enc u5.a), .dat (enc u5.b), .un, .un, .un, .un, .un, .un, .un, .un, .un, .un, .un]) (s0 := ()) C (it_list (ed_of_eo (eo_slice (ed_var (i := 7) C (by decide +kernel) rfl) ep_none (ep_some ed_num)))) (pgN (i := 10) C (by decide +kernel)) (tgt_name (i := 10)) (fun s17 => rfl) (wk_ops [] rfl) (fun s17 y18 => ?_) (fun s17 => ?_)
    · refine sv_set (i := 15) C (by decide +kernel) (ed_call C hC_cover_row (by decide) (by decide +kernel) (ad_cons (ed_var (i := 3) C (by decide +kernel) rfl) (ad_cons (ed_var (i := 10) C (by decide +kernel) rfl) ad_nil)) go2) fun v_row_19 => ?_
      refine sv_set (i := 16) C (by decide +kernel) (ed_call C hC_wide_row (by decide) (by decide +kernel) (ad_cons (ed_var (i := 3) C (by decide +kernel) rfl) (ad_cons (ed_var (i := 10) C (by decide +kernel) rfl) ad_nil)) go2) fun v_wide_20 => ?_
      refine sv_set (i := 17) C (by decide +kernel) (ed_maxL C (by decide +kernel) hF.max_ (er_of_eo (eo_lc (lc_mk (own := [("k", 24)]) C (it_list (ed_var (i := 10) C (by decide +kernel) rfl)) (by decide +kernel) (fun s22 H22 Ca22 cl22 fp22 => (pgN (i := 24) (Ctx.blk C s22 H22 _ Ca22 cl22 fp22 rfl) (by decide +kernel))) (tgt_name (i := 24)) (by decide) rfl (fun s22 H22 Ca22 cl22 fp22 x22 => ets_nil) (fun s22 H22 Ca22 cl22 fp22 x22 => (ed_ix (ed_var (i := 13) (Ctx.blk C s22 H22 _ Ca22 cl22 fp22 rfl) (by decide +kernel) rfl) (ed_var (i := 24) (Ctx.blk C s22 H22 _ Ca22 cl22 fp22 rfl) (by decide +kernel) rfl))))))) fun v_top_21 => ?_
      refine sv_setL (i := 18) C (by decide +kernel) (by decide +kernel) (lc_mk (own := [("k", 24)]) C (it_rng1 C (by decide +kernel) hF.range_ (ed_var (i := 4) C (by decide +kernel) rfl)) (by decide +kernel) (fun s24 H24 Ca24 cl24 fp24 => (pgN (i := 24) (Ctx.blk C s24 H24 _ Ca24 cl24 fp24 rfl) (by decide +kernel))) (tgt_name (i := 24)) (by decide) rfl (fun s24 H24 Ca24 cl24 fp24 x24 => ets_nil) (fun s24 H24 Ca24 cl24 fp24 x24 => (ed_intB (Ctx.blk C s24 H24 _ Ca24 cl24 fp24 rfl) (by decide +kernel) hF.int_ (ed_or (ed_cmp (ec_in (Ctx.blk C s24 H24 _ Ca24 cl24 fp24 rfl) (ed_var (i := 24) (Ctx.blk C s24 H24 _ Ca24 cl24 fp24 rfl) (by decide +kernel) rfl) (er_of_ed (ed_var (i := 10) (Ctx.blk C s24 H24 _ Ca24 cl24 fp24 rfl) (by decide +kernel) rfl)))) (ed_one (ed_chLeLe rfl (ed_var (i := 17) (Ctx.blk C s24 H24 _ Ca24 cl24 fp24 rfl) (by decide +kernel) rfl) (ed_ix (ed_var (i := 13) (Ctx.blk C s24 H24 _ Ca24 cl24 fp24 rfl) (by decide +kernel) rfl) (ed_var (i := 24) (Ctx.blk C s24 H24 _ Ca24 cl24 fp24 rfl) (by decide +kernel) rfl)) (ed_var (i := 14) (Ctx.blk C s24 H24 _ Ca24 cl24 fp24 rfl) (by decide +kernel) rfl))))))) fun v_due_23 => ?_
      refine sv_if (S' := Unit) (P' := fun s26 => [.rd (a_script.map enc), .dat (enc v_draws_1), .dat (enc y3), .dat (enc v_sack_4), .dat (enc v_many_6), .dat (enc v_kept_7), .dat (enc v_every_8), .dat (enc v_covers_9), .own (v15.map enc), .own (v16.map enc), .dat (enc y18), .un, .un, .dat (enc u5.a), .dat (enc u5.b), .dat (enc v_row_19), .dat (enc v_wide_20), .dat (enc v_top_21), .dat (enc v_due_23), .un, .un, .un, .un, .un, .un, .un]) (eb_bool (ew_or (eb_cmp (ec_neD C (ed_var (i := 15) C (by decide +kernel) rfl) (ed_t2 (ed_of_eo (eo_lc (lc_mk (own := [("k", 24)]) C (it_rng1 C (by decide +kernel) hF.range_ (ed_var (i := 4) C (by decide +kernel) rfl)) (by decide +kernel) (fun s25 H25 Ca25 cl25 fp25 => (pgN (i := 24) (Ctx.blk C s25 H25 _ Ca25 cl25 fp25 rfl) (by decide +kernel))) (tgt_name (i := 24)) (by decide) rfl (fun s25 H25 Ca25 cl25 fp25 x25 => ets_nil) (fun s25 H25 Ca25 cl25 fp25 x25 => (ed_intB (Ctx.blk C s25 H25 _ Ca25 cl25 fp25 rfl) (by decide +kernel) hF.int_ (ed_cmp (ec_in (Ctx.blk C s25 H25 _ Ca25 cl25 fp25 rfl) (ed_var (i := 24) (Ctx.blk C s25 H25 _ Ca25 cl25 fp25 rfl) (by decide +kernel) rfl) (er_of_ed (ed_var (i := 10) (Ctx.blk C s25 H25 _ Ca25 cl25 fp25 rfl) (by decide +kernel) rfl))))))))) (ed_sub (ed_len C (by decide +kernel) hF.len_ (er_of_ed (ed_var (i := 10) C (by decide +kernel) rfl))) ed_num)))) (ew_or1 (eb_cmp (ec_neD C (ed_var (i := 16) C (by decide +kernel) rfl) (ed_t2 (ed_var (i := 18) C (by decide +kernel) rfl) (ed_sub (ed_len C (by decide +kernel) hF.len_ (er_of_ed (ed_var (i := 10) C (by decide +kernel) rfl))) ed_num))))))) ?_ ?_ fun s26 => ?_
      · exact sv_ret ed_bl
      · exact sv_nil (wk_ops [] rfl)
      refine sv_for (S1 := Unit) (P1 := fun s27 => [.rd (a_script.map enc), .dat (enc v_draws_1), .dat (enc y3), .dat (enc v_sack_4), .dat (enc v_many_6), .dat (enc v_kept_7), .dat (enc v_every_8), .dat (enc v_covers_9), .own (v15.map enc), .own (v16.map enc), .dat (enc y18), .un, .un, .dat (enc u5.a), .dat (enc u5.b), .dat (enc v_row_19), .dat (enc v_wide_20), .dat (enc v_top_21), .dat (enc v_due_23), .un, .un, .un, .un, .un, .un, .un]) (s0 := ()) C (it_list (ed_var (i := 6) C (by decide +kernel) rfl)) (pgN (i := 19) C (by decide +kernel)) (tgt_name (i := 19)) (fun s27 => rfl) (wk_ops [] rfl) (fun s27 y28 => ?_) (fun s27 => ?_)
      · refine sv_if (S' := Unit) (P' := fun s29 => [.rd (a_script.map enc), .dat (enc v_draws_1), .dat (enc y3), .dat (enc v_sack_4), .dat (enc v_many_6), .dat (enc v_kept_7), .dat (enc v_every_8), .dat (enc v_covers_9), .own (v15.map enc), .own (v16.map enc), .dat (enc y18), .un, .un, .dat (enc u5.a), .dat (enc u5.b), .dat (enc v_row_19), .dat (enc v_wide_20), .dat (enc v_top_21), .dat (enc v_due_23), .dat (enc y28), .un, .un, .un, .un, .un, .un]) (eb_bool (ew_or (eb_cmp (ec_gt (ed_call C hC__law_by (by decide) (by decide +kernel) (ad_cons (ed_20 (ed_var (i := 15) C (by decide +kernel) rfl)) (ad_cons (ed_var (i := 19) C (by decide +kernel) rfl) ad_nil)) go2) (ed_21 (ed_var (i := 15) C (by decide +kernel) rfl)))) (ew_or1 (eb_cmp (ec_gt (ed_call C hC__law_by (by decide) (by decide +kernel) (ad_cons (ed_20 (ed_var (i := 16) C (by decide +kernel) rfl)) (ad_cons (ed_var (i := 19) C (by decide +kernel) rfl) ad_nil)) go2) (ed_21 (ed_var (i := 16) C (by decide +kernel) rfl))))))) ?_ ?_ fun s29 => ?_
        · exact sv_ret ed_bl
        · exact sv_nil (wk_ops [] rfl)
        exact sv_nil (wk_ops [.un 19] rfl)
      exact sv_nil (wk_ops [.un 10, .un 15, .un 16, .un 17, .un 18] rfl)
    refine sv_set (i := 11) C (by decide +kernel) (ed_call C hC__law_points (by decide) (by decide +kernel) (ad_cons (ed_var (i := 1) C (by decide +kernel) rfl) (ad_cons (ed_add ed_num (ed_mul ed_num (ed_var (i := 2) C (by decide +kernel) rfl))) (ad_cons (ed_var (i := 3) C (by decide +kernel) rfl) ad_nil))) go3) fun v_points_30 => ?_
    refine sv_for (S1 := Unit) (P1 := fun s31 => [.rd (a_script.map enc), .dat (enc v_draws_1), .dat (enc y3), .dat (enc v_sack_4), .dat (enc v_many_6), .dat (enc v_kept_7), .dat (enc v_every_8), .dat (enc v_covers_9), .own (v15.map enc), .own (v16.map enc), .un, .dat (enc v_points_30), .un, .dat (enc u5.a), .dat (enc u5.b), .un, .un, .un, .un, .un, .un, .un, .un, .un, .un, .un]) (s0 := ()) C (it_rng1 C (by decide +kernel) hF.range_ ed_num) (pgN (i := 12) C (by decide +kernel)) (tgt_name (i := 12)) (fun s31 => rfl) (wk_ops [] rfl) (fun s31 y32 => ?_) (fun s31 => ?_)
    · refine sv_set (i := 20) C (by decide +kernel) (ed_ix (ed_var (i := 11) C (by decide +kernel) rfl) (ed_var (i := 12) C (by decide +kernel) rfl)) fun v_point_33 => ?_
      refine sv_set (i := 21) C (by decide +kernel) (ed_repr C (by decide +kernel) hF.repr_ (ed_var (i := 20) C (by decide +kernel) rfl)) fun v_before_34 => ?_
      refine sv_setL (i := 22) C (by decide +kernel) (by decide +kernel) (lc_mk (own := [("cover", 10)]) C (it_list (ed_var (i := 7) C (by decide +kernel) rfl)) (by decide +kernel) (fun s36 H36 Ca36 cl36 fp36 => (pgN (i := 10) (Ctx.blk C s36 H36 _ Ca36 cl36 fp36 rfl) (by decide +kernel))) (tgt_name (i := 10)) (by decide) rfl (fun s36 H36 Ca36 cl36 fp36 x36 => ets_nil) (fun s36 H36 Ca36 cl36 fp36 x36 => (ed_call (Ctx.blk C s36 H36 _ Ca36 cl36 fp36 rfl) hC__law_added (by decide) (by decide +kernel) (ad_cons (ed_of_eo (eo_lc (lc_mk (own := [("k", 24)]) (Ctx.blk C s36 H36 _ Ca36 cl36 fp36 rfl) (it_list (ed_var (i := 10) (Ctx.blk C s36 H36 _ Ca36 cl36 fp36 rfl) (by decide +kernel) rfl)) (by decide +kernel) (fun s37 H37 Ca37 cl37 fp37 => (pgN (i := 24) (Ctx.blk (Ctx.blk C s36 H36 _ Ca36 cl36 fp36 rfl) s37 H37 _ Ca37 cl37 fp37 rfl) (by decide +kernel))) (tgt_name (i := 24)) (by decide) rfl (fun s37 H37 Ca37 cl37 fp37 x37 => ets_nil) (fun s37 H37 Ca37 cl37 fp37 x37 => (ed_call (Ctx.blk (Ctx.blk C s36 H36 _ Ca36 cl36 fp36 rfl) s37 H37 _ Ca37 cl37 fp37 rfl) hC__law_minus (by decide) (by decide +kernel) (ad_cons (ed_t2 ed_num ed_num) (ad_cons (ed_ix (ed_var (i := 20) (Ctx.blk (Ctx.blk C s36 H36 _ Ca36 cl36 fp36 rfl) s37 H37 _ Ca37 cl37 fp37 rfl) (by decide +kernel) rfl) (ed_var (i := 24) (Ctx.blk (Ctx.blk C s36 H36 _ Ca36 cl36 fp36 rfl) s37 H37 _ Ca37 cl37 fp37 rfl) (by decide +kernel) rfl)) ad_nil)) go2))))) ad_nil) go1))) fun v_sums_35 => ?_
      refine sv_set (i := 23) C (by decide +kernel) ed_none fun v_best_38 => ?_
      refine sv_for (S1 := (Option (T2 (T2 Int Int) (List Int)))) (P1 := fun s39 => [.rd (a_script.map enc), .dat (enc v_draws_1), .dat (enc y3), .dat (enc v_sack_4), .dat (enc v_many_6), .dat (enc v_kept_7), .dat (enc v_every_8), .dat (enc v_covers_9), .own (v15.map enc), .own (v16.map enc), .un, .dat (enc v_points_30), .dat (enc y32), .dat (enc u5.a), .dat (enc u5.b), .un, .un, .un, .un, .un, .dat (enc v_point_33), .dat (enc v_before_34), .dat (enc v_sums_35), .dat (enc s39), .un, .un]) (s0 := v_best_38) C (it_rng1 C (by decide +kernel) hF.range_ (ed_len C (by decide +kernel) hF.len_ (er_of_ed (ed_var (i := 7) C (by decide +kernel) rfl)))) (pgN (i := 24) C (by decide +kernel)) (tgt_name (i := 24)) (fun s39 => rfl) (wk_ops [] rfl) (fun s39 y40 => ?_) (fun s39 => ?_)
      · refine sv_if (S' := (Option (T2 (T2 Int Int) (List Int)))) (P' := fun s41 => [.rd (a_script.map enc), .dat (enc v_draws_1), .dat (enc y3), .dat (enc v_sack_4), .dat (enc v_many_6), .dat (enc v_kept_7), .dat (enc v_every_8), .dat (enc v_covers_9), .own (v15.map enc), .own (v16.map enc), .un, .dat (enc v_points_30), .dat (enc y32), .dat (enc u5.a), .dat (enc u5.b), .un, .un, .un, .un, .un, .dat (enc v_point_33), .dat (enc v_before_34), .dat (enc v_sums_35), .dat (enc s41), .dat (enc y40), .un]) (eb_bool (ew_or (eb_cmp (ec_isN (ed_var (i := 23) C (by decide +kernel) rfl))) (ew_or1 (eb_of_ed (ed_call C hC__law_less (by decide) (by decide +kernel) (ad_cons (ed_ix (ed_var (i := 22) C (by decide +kernel) rfl) (ed_var (i := 24) C (by decide +kernel) rfl)) (ad_cons (ed_20 (ed_get (ed_var (i := 23) C (by decide +kernel) rfl))) ad_nil)) go2))))) ?_ ?_ fun s41 => ?_
        · refine sv_set (i := 23) C (by decide +kernel) (ed_some (ed_t2 (ed_ix (ed_var (i := 22) C (by decide +kernel) rfl) (ed_var (i := 24) C (by decide +kernel) rfl)) (ed_ix (ed_var (i := 7) C (by decide +kernel) rfl) (ed_var (i := 24) C (by decide +kernel) rfl)))) fun v_best_42 => ?_
          exact sv_nil (wk_ops [] rfl)
        · exact sv_nil (wk_ops [] rfl)
        exact sv_nil (wk_ops [.un 24] rfl)
      refine sv_if (S' := Unit) (P' := fun s43 => [.rd (a_script.map enc), .dat (enc v_draws_1), .dat (enc y3), .dat (enc v_sack_4), .dat (enc v_many_6), .dat (enc v_kept_7), .dat (enc v_every_8), .dat (enc v_covers_9), .own (v15.map enc), .own (v16.map enc), .un, .dat (enc v_points_30), .dat (enc y32), .dat (enc u5.a), .dat (enc u5.b), .un, .un, .un, .un, .un, .dat (enc v_point_33), .dat (enc v_before_34), .dat (enc v_sums_35), .dat (enc s39), .un, .un]) (eb_bool (ew_or (eb_cmp (ec_neS (ed_repr C (by decide +kernel) hF.repr_ (ed_call C hC_worst_cover (by decide) (by decide +kernel) (ad_cons (ed_var (i := 3) C (by decide +kernel) rfl) (ad_cons (ed_var (i := 20) C (by decide +kernel) rfl) ad_nil)) go2)) (ed_repr C (by decide +kernel) hF.repr_ (ed_var (i := 23) C (by decide +kernel) rfl)))) (ew_or1 (eb_cmp (ec_neS (ed_repr C (by decide +kernel) hF.repr_ (ed_var (i := 20) C (by decide +kernel) rfl)) (ed_var (i := 21) C (by decide +kernel) rfl)))))) ?_ ?_ fun s43 => ?_
      · exact sv_ret ed_bl
      · exact sv_nil (wk_ops [] rfl)
      refine sv_set (i := 25) C (by decide +kernel) (ed_cmp (ec_neD C (ed_of_eo (eo_lc (lc_mk (own := [("cover", 10)]) C (it_list (ed_var (i := 7) C (by decide +kernel) rfl)) (by decide +kernel) (fun s45 H45 Ca45 cl45 fp45 => (pgN (i := 10) (Ctx.blk C s45 H45 _ Ca45 cl45 fp45 rfl) (by decide +kernel))) (tgt_name (i := 10)) (by decide) rfl (fun s45 H45 Ca45 cl45 fp45 x45 => (ets_one (eb_of_ed (ed_call (Ctx.blk C s45 H45 _ Ca45 cl45 fp45 rfl) hC__law_less (by decide) (by decide +kernel) (ad_cons (ed_t2 (ed_sub (ed_len (Ctx.blk C s45 H45 _ Ca45 cl45 fp45 rfl) (by decide +kernel) hF.len_ (er_of_ed (ed_var (i := 10) (Ctx.blk C s45 H45 _ Ca45 cl45 fp45 rfl) (by decide +kernel) rfl))) ed_num) ed_num) (ad_cons (ed_call (Ctx.blk C s45 H45 _ Ca45 cl45 fp45 rfl) hC__law_added (by decide) (by decide +kernel) (ad_cons (ed_of_eo (eo_lc (lc_mk (own := [("k", 24)]) (Ctx.blk C s45 H45 _ Ca45 cl45 fp45 rfl) (it_list (ed_var (i := 10) (Ctx.blk C s45 H45 _ Ca45 cl45 fp45 rfl) (by decide +kernel) rfl)) (by decide +kernel) (fun s46 H46 Ca46 cl46 fp46 => (pgN (i := 24) (Ctx.blk (Ctx.blk C s45 H45 _ Ca45 cl45 fp45 rfl) s46 H46 _ Ca46 cl46 fp46 rfl) (by decide +kernel))) (tgt_name (i := 24)) (by decide) rfl (fun s46 H46 Ca46 cl46 fp46 x46 => ets_nil) (fun s46 H46 Ca46 cl46 fp46 x46 => (ed_ix (ed_var (i := 20) (Ctx.blk (Ctx.blk C s45 H45 _ Ca45 cl45 fp45 rfl) s46 H46 _ Ca46 cl46 fp46 rfl) (by decide +kernel) rfl) (ed_var (i := 24) (Ctx.blk (Ctx.blk C s45 H45 _ Ca45 cl45 fp45 rfl) s46 H46 _ Ca46 cl46 fp46 rfl) (by decide +kernel) rfl)))))) ad_nil) go1) ad_nil)) go2)))) (fun s45 H45 Ca45 cl45 fp45 x45 => (ed_var (i := 10) (Ctx.blk C s45 H45 _ Ca45 cl45 fp45 rfl) (by decide +kernel) rfl))))) (ed_of_eo (eo_list (al_nil (α := (List Int))))))) fun v_parted_44 => ?_
      refine sv_if (S' := Unit) (P' := fun s47 => [.rd (a_script.map enc), .dat (enc v_draws_1), .dat (enc y3), .dat (enc v_sack_4), .dat (enc v_many_6), .dat (enc v_kept_7), .dat (enc v_every_8), .dat (enc v_covers_9), .own (v15.map enc), .own (v16.map enc), .un, .dat (enc v_points_30), .dat (enc y32), .dat (enc u5.a), .dat (enc u5.b), .un, .un, .un, .un, .un, .dat (enc v_point_33), .dat (enc v_before_34), .dat (enc v_sums_35), .dat (enc s39), .un, .dat (enc v_parted_44)]) (eb_bool (ew_or (eb_cmp (ec_neB (ed_var (i := 25) C (by decide +kernel) rfl) (ed_and (ed_cmp (ec_notN (ed_var (i := 23) C (by decide +kernel) rfl))) (ed_one (ed_call C hC__law_less (by decide) (by decide +kernel) (ad_cons (ed_20 (ed_get (ed_var (i := 23) C (by decide +kernel) rfl))) (ad_cons (ed_t2 ed_num ed_num) ad_nil)) go2))))) (ew_or1 (eb_bool (ew_and (eb_cmp (ec_eqI (ed_var (i := 12) C (by decide +kernel) rfl) ed_num)) (ew_and1 (eb_of_ed (ed_var (i := 25) C (by decide +kernel) rfl)))))))) ?_ ?_ fun s47 => ?_
      · exact sv_ret ed_bl
      · exact sv_nil (wk_ops [] rfl)
      exact sv_nil (wk_ops [.un 12, .un 20, .un 21, .un 22, .un 23, .un 25] rfl)
    refine sv_if (S' := Unit) (P' := fun s48 => [.rd (a_script.map enc), .dat (enc v_draws_1), .dat (enc y3), .dat (enc v_sack_4), .dat (enc v_many_6), .dat (enc v_kept_7), .dat (enc v_every_8), .dat (enc v_covers_9), .own (v15.map enc), .own (v16.map enc), .un, .dat (enc v_points_30), .un, .dat (enc u5.a), .dat (enc u5.b), .un, .un, .un, .un, .un, .un, .un, .un, .un, .un, .un]) (eb_bool (ew_or (eb_cmp (ec_neS (ed_repr C (by decide +kernel) hF.repr_ (ed_of_eo (eo_call C hC_packings (by decide) (by decide +kernel) (ad_cons (ed_var (i := 3) C (by decide +kernel) rfl) ad_nil) go1))) (ed_repr C (by decide +kernel) hF.repr_ (ed_var (i := 6) C (by decide +kernel) rfl)))) (ew_or1 (eb_cmp (ec_neS (ed_repr C (by decide +kernel) hF.repr_ (ed_var (i := 3) C (by decide +kernel) rfl)) (ed_var (i := 5) C (by decide +kernel) rfl)))))) ?_ ?_ fun s48 => ?_
    · exact sv_ret ed_bl
    · exact sv_nil (wk_ops [] rfl)
    exact sv_nil (wk_ops [.un 2, .un 3, .un 4, .un 5, .un 6, .un 7, .un 8, .un 9, .un 11, .un 13, .un 14] rfl)
  exact sv_ret ed_bl
theorem ok_law {P : Program} {w : World} {K : PySem.W.Frag} {mg : Str → Option Value} {base : Heap} {f : Addr} {fd : FuncData} (F : Fun K "law" "law" st_law f fd) (hF : Facts mg) (hC__law_draws : Cal P w K mg base CX0 1 "_law_draws" ["script"] (spR K false m__law_draws)) (hC__law_sack : Cal P w K mg base CX0 2 "_law_sack" ["draws", "first", "most"] (spD K false (g3 m__law_sack))) (hC__law_mix : Cal P w K mg base CX0 1 "_law_mix" ["draws", "k", "many"] (spD K false (g3 m__law_mix))) (hC__law_packings : Cal P w K mg base CX0 2 "_law_packings" ["sack"] (spD K false (g1 m__law_packings))) (hC__law_sets : Cal P w K mg base CX0 1 "_law_sets" ["things"] (spD K false (g1 m__law_sets))) (hC__law_fits : Cal P w K mg base CX0 1 "_law_fits" ["sack"] (spD K false (g1 m__law_fits))) (hC__law_weight : Cal P w K mg base CX0 1 "_law_weight" ["sack", "told"] (spD K false (g2 m__law_weight))) (hC_packings : Cal P w K mg base CX0 3 "packings" ["sack"] (spD K true (g1 m_packings))) (hC_least_covers : Cal P w K mg base CX0 4 "least_covers" ["sack"] (spD K true (g1 m_least_covers))) (hC__law_is_least : Cal P w K mg base CX0 2 "_law_is_least" ["sack", "told"] (spD K false (g2 m__law_is_least))) (hC_cover_row : Cal P w K mg base CX0 4 "cover_row" ["sack", "cover"] (spD K false (g2 m_cover_row))) (hC_wide_row : Cal P w K mg base CX0 4 "wide_row" ["sack", "cover"] (spD K false (g2 m_wide_row))) (hC__law_by : Cal P w K mg base CX0 1 "_law_by" ["numbers", "told"] (spD K false (g2 m__law_by))) (hC__law_points : Cal P w K mg base CX0 3 "_law_points" ["draws", "first", "sack"] (spD K false (g3 m__law_points))) (hC__law_added : Cal P w K mg base CX0 3 "_law_added" ["told"] (spD K false (g1 m__law_added))) (hC__law_minus : Cal P w K mg base CX0 3 "_law_minus" ["one", "two"] (spD K false (g2 m__law_minus))) (hC__law_less : Cal P w K mg base CX0 1 "_law_less" ["one", "two"] (spD K false (g2 m__law_less))) (hC_worst_cover : Cal P w K mg base CX0 4 "worst_cover" ["sack", "point"] (spD K false (g2 m_worst_cover))) : FnG P w K mg base CX0 5 f fd ["script"] (spR K false m_law) :=
  ok_rd F fs_law 26 rfl (by decide) fun X h1 h2 h3 h4 h5 C l r hr => by subst h1 h2 h3 h4 h5; exact body_of (bk_law C hF hC__law_draws hC__law_sack hC__law_mix hC__law_packings hC__law_sets hC__law_fits hC__law_weight hC_packings hC_least_covers hC__law_is_least hC_cover_row hC_wide_row hC__law_by hC__law_points hC__law_added hC__law_minus hC__law_less hC_worst_cover l) hr (fun x h => nomatch h)
end Lay.K46

set_option Elab.async false
set_option linter.all false
set_option maxRecDepth 100000
namespace Lay.K46
open PySem PySem.Spec PyProof.Rows L2 Lay
open Lay.Enc (enc)
set_option maxHeartbeats 0
theorem all_mk {l : PySem.W.OpenLaw} {w : World} {K : PySem.W.Frag} {h : Heap} {mg : Str → Option Value} {fa : Addr} (X : K.In h) (G : h.Ns mainGlobals mg) (hfa : mg "law" = some (.ref fa))
    {f0 : Addr} {od0 an0 : Option Addr} {sl0 : Array (Option Value)} {oc0 kV0 dc0 pm0 cd0 ct0 : Value}
    (a0 : PySem.W.nsIn K mainGlobals "_law_draws" = some (some (.ref f0))) (l0 : K.lookup f0 = some ⟨oc0, od0, .func (PySem.W.fnOf "_law_draws" "_law_draws" (defArgs st__law_draws) (defBody st__law_draws) (defScope st__law_draws) .none kV0 dc0 pm0 an0 cd0 ct0), sl0⟩) (c0 : PySem.W.codeIn K cd0 "_law_draws" = true) (k0 : PySem.W.keepIn K (.ref f0) = true)
    {f1 : Addr} {od1 an1 : Option Addr} {sl1 : Array (Option Value)} {oc1 kV1 dc1 pm1 cd1 ct1 : Value}
    (a1 : PySem.W.nsIn K mainGlobals "_law_mix" = some (some (.ref f1))) (l1 : K.lookup f1 = some ⟨oc1, od1, .func (PySem.W.fnOf "_law_mix" "_law_mix" (defArgs st__law_mix) (defBody st__law_mix) (defScope st__law_mix) .none kV1 dc1 pm1 an1 cd1 ct1), sl1⟩) (c1 : PySem.W.codeIn K cd1 "_law_mix" = true) (k1 : PySem.W.keepIn K (.ref f1) = true)
    {f2 : Addr} {od2 an2 : Option Addr} {sl2 : Array (Option Value)} {oc2 kV2 dc2 pm2 cd2 ct2 : Value}
    (a2 : PySem.W.nsIn K mainGlobals "_law_sack" = some (some (.ref f2))) (l2 : K.lookup f2 = some ⟨oc2, od2, .func (PySem.W.fnOf "_law_sack" "_law_sack" (defArgs st__law_sack) (defBody st__law_sack) (defScope st__law_sack) .none kV2 dc2 pm2 an2 cd2 ct2), sl2⟩) (c2 : PySem.W.codeIn K cd2 "_law_sack" = true) (k2 : PySem.W.keepIn K (.ref f2) = true)
    {f3 : Addr} {od3 an3 : Option Addr} {sl3 : Array (Option Value)} {oc3 kV3 dc3 pm3 cd3 ct3 : Value}
    (a3 : PySem.W.nsIn K mainGlobals "_law_sets" = some (some (.ref f3))) (l3 : K.lookup f3 = some ⟨oc3, od3, .func (PySem.W.fnOf "_law_sets" "_law_sets" (defArgs st__law_sets) (defBody st__law_sets) (defScope st__law_sets) .none kV3 dc3 pm3 an3 cd3 ct3), sl3⟩) (c3 : PySem.W.codeIn K cd3 "_law_sets" = true) (k3 : PySem.W.keepIn K (.ref f3) = true)
    {f4 : Addr} {od4 an4 : Option Addr} {sl4 : Array (Option Value)} {oc4 kV4 dc4 pm4 cd4 ct4 : Value}
    (a4 : PySem.W.nsIn K mainGlobals "_law_fits" = some (some (.ref f4))) (l4 : K.lookup f4 = some ⟨oc4, od4, .func (PySem.W.fnOf "_law_fits" "_law_fits" (defArgs st__law_fits) (defBody st__law_fits) (defScope st__law_fits) .none kV4 dc4 pm4 an4 cd4 ct4), sl4⟩) (c4 : PySem.W.codeIn K cd4 "_law_fits" = true) (k4 : PySem.W.keepIn K (.ref f4) = true)
    {f5 : Addr} {od5 an5 : Option Addr} {sl5 : Array (Option Value)} {oc5 kV5 dc5 pm5 cd5 ct5 : Value}
    (a5 : PySem.W.nsIn K mainGlobals "_law_weight" = some (some (.ref f5))) (l5 : K.lookup f5 = some ⟨oc5, od5, .func (PySem.W.fnOf "_law_weight" "_law_weight" (defArgs st__law_weight) (defBody st__law_weight) (defScope st__law_weight) .none kV5 dc5 pm5 an5 cd5 ct5), sl5⟩) (c5 : PySem.W.codeIn K cd5 "_law_weight" = true) (k5 : PySem.W.keepIn K (.ref f5) = true)
    {f6 : Addr} {od6 an6 : Option Addr} {sl6 : Array (Option Value)} {oc6 kV6 dc6 pm6 cd6 ct6 : Value}
    (a6 : PySem.W.nsIn K mainGlobals "_law_packings" = some (some (.ref f6))) (l6 : K.lookup f6 = some ⟨oc6, od6, .func (PySem.W.fnOf "_law_packings" "_law_packings" (defArgs st__law_packings) (defBody st__law_packings) (defScope st__law_packings) .none kV6 dc6 pm6 an6 cd6 ct6), sl6⟩) (c6 : PySem.W.codeIn K cd6 "_law_packings" = true) (k6 : PySem.W.keepIn K (.ref f6) = true)
    {f7 : Addr} {od7 an7 : Option Addr} {sl7 : Array (Option Value)} {oc7 kV7 dc7 pm7 cd7 ct7 : Value}
    (a7 : PySem.W.nsIn K mainGlobals "check_sack" = some (some (.ref f7))) (l7 : K.lookup f7 = some ⟨oc7, od7, .func (PySem.W.fnOf "check_sack" "check_sack" (defArgs st_check_sack) (defBody st_check_sack) (defScope st_check_sack) .none kV7 dc7 pm7 an7 cd7 ct7), sl7⟩) (c7 : PySem.W.codeIn K cd7 "check_sack" = true) (k7 : PySem.W.keepIn K (.ref f7) = true)
    {f8 : Addr} {od8 an8 : Option Addr} {sl8 : Array (Option Value)} {oc8 kV8 dc8 pm8 cd8 ct8 : Value}
    (a8 : PySem.W.nsIn K mainGlobals "sets_of" = some (some (.ref f8))) (l8 : K.lookup f8 = some ⟨oc8, od8, .func (PySem.W.fnOf "sets_of" "sets_of" (defArgs st_sets_of) (defBody st_sets_of) (defScope st_sets_of) .none kV8 dc8 pm8 an8 cd8 ct8), sl8⟩) (c8 : PySem.W.codeIn K cd8 "sets_of" = true) (k8 : PySem.W.keepIn K (.ref f8) = true)
    {f9 : Addr} {od9 an9 : Option Addr} {sl9 : Array (Option Value)} {oc9 kV9 dc9 pm9 cd9 ct9 : Value}
    (a9 : PySem.W.nsIn K mainGlobals "fitting" = some (some (.ref f9))) (l9 : K.lookup f9 = some ⟨oc9, od9, .func (PySem.W.fnOf "fitting" "fitting" (defArgs st_fitting) (defBody st_fitting) (defScope st_fitting) .none kV9 dc9 pm9 an9 cd9 ct9), sl9⟩) (c9 : PySem.W.codeIn K cd9 "fitting" = true) (k9 : PySem.W.keepIn K (.ref f9) = true)
    {f10 : Addr} {od10 an10 : Option Addr} {sl10 : Array (Option Value)} {oc10 kV10 dc10 pm10 cd10 ct10 : Value}
    (a10 : PySem.W.nsIn K mainGlobals "weight_of" = some (some (.ref f10))) (l10 : K.lookup f10 = some ⟨oc10, od10, .func (PySem.W.fnOf "weight_of" "weight_of" (defArgs st_weight_of) (defBody st_weight_of) (defScope st_weight_of) .none kV10 dc10 pm10 an10 cd10 ct10), sl10⟩) (c10 : PySem.W.codeIn K cd10 "weight_of" = true) (k10 : PySem.W.keepIn K (.ref f10) = true)
    {f11 : Addr} {od11 an11 : Option Addr} {sl11 : Array (Option Value)} {oc11 kV11 dc11 pm11 cd11 ct11 : Value}
    (a11 : PySem.W.nsIn K mainGlobals "packings_of" = some (some (.ref f11))) (l11 : K.lookup f11 = some ⟨oc11, od11, .func (PySem.W.fnOf "packings_of" "packings_of" (defArgs st_packings_of) (defBody st_packings_of) (defScope st_packings_of) .none kV11 dc11 pm11 an11 cd11 ct11), sl11⟩) (c11 : PySem.W.codeIn K cd11 "packings_of" = true) (k11 : PySem.W.keepIn K (.ref f11) = true)
    {f12 : Addr} {od12 an12 : Option Addr} {sl12 : Array (Option Value)} {oc12 kV12 dc12 pm12 cd12 ct12 : Value}
    (a12 : PySem.W.nsIn K mainGlobals "packings" = some (some (.ref f12))) (l12 : K.lookup f12 = some ⟨oc12, od12, .func (PySem.W.fnOf "packings" "packings" (defArgs st_packings) (defBody st_packings) (defScope st_packings) .none kV12 dc12 pm12 an12 cd12 ct12), sl12⟩) (c12 : PySem.W.codeIn K cd12 "packings" = true) (k12 : PySem.W.keepIn K (.ref f12) = true)
    {f13 : Addr} {od13 an13 : Option Addr} {sl13 : Array (Option Value)} {oc13 kV13 dc13 pm13 cd13 ct13 : Value}
    (a13 : PySem.W.nsIn K mainGlobals "is_cover" = some (some (.ref f13))) (l13 : K.lookup f13 = some ⟨oc13, od13, .func (PySem.W.fnOf "is_cover" "is_cover" (defArgs st_is_cover) (defBody st_is_cover) (defScope st_is_cover) .none kV13 dc13 pm13 an13 cd13 ct13), sl13⟩) (c13 : PySem.W.codeIn K cd13 "is_cover" = true) (k13 : PySem.W.keepIn K (.ref f13) = true)
    {f14 : Addr} {od14 an14 : Option Addr} {sl14 : Array (Option Value)} {oc14 kV14 dc14 pm14 cd14 ct14 : Value}
    (a14 : PySem.W.nsIn K mainGlobals "is_least" = some (some (.ref f14))) (l14 : K.lookup f14 = some ⟨oc14, od14, .func (PySem.W.fnOf "is_least" "is_least" (defArgs st_is_least) (defBody st_is_least) (defScope st_is_least) .none kV14 dc14 pm14 an14 cd14 ct14), sl14⟩) (c14 : PySem.W.codeIn K cd14 "is_least" = true) (k14 : PySem.W.keepIn K (.ref f14) = true)
    {f15 : Addr} {od15 an15 : Option Addr} {sl15 : Array (Option Value)} {oc15 kV15 dc15 pm15 cd15 ct15 : Value}
    (a15 : PySem.W.nsIn K mainGlobals "least_covers" = some (some (.ref f15))) (l15 : K.lookup f15 = some ⟨oc15, od15, .func (PySem.W.fnOf "least_covers" "least_covers" (defArgs st_least_covers) (defBody st_least_covers) (defScope st_least_covers) .none kV15 dc15 pm15 an15 cd15 ct15), sl15⟩) (c15 : PySem.W.codeIn K cd15 "least_covers" = true) (k15 : PySem.W.keepIn K (.ref f15) = true)
    {f16 : Addr} {od16 an16 : Option Addr} {sl16 : Array (Option Value)} {oc16 kV16 dc16 pm16 cd16 ct16 : Value}
    (a16 : PySem.W.nsIn K mainGlobals "_law_fraction" = some (some (.ref f16))) (l16 : K.lookup f16 = some ⟨oc16, od16, .func (PySem.W.fnOf "_law_fraction" "_law_fraction" (defArgs st__law_fraction) (defBody st__law_fraction) (defScope st__law_fraction) .none kV16 dc16 pm16 an16 cd16 ct16), sl16⟩) (c16 : PySem.W.codeIn K cd16 "_law_fraction" = true) (k16 : PySem.W.keepIn K (.ref f16) = true)
    {f17 : Addr} {od17 an17 : Option Addr} {sl17 : Array (Option Value)} {oc17 kV17 dc17 pm17 cd17 ct17 : Value}
    (a17 : PySem.W.nsIn K mainGlobals "_law_points" = some (some (.ref f17))) (l17 : K.lookup f17 = some ⟨oc17, od17, .func (PySem.W.fnOf "_law_points" "_law_points" (defArgs st__law_points) (defBody st__law_points) (defScope st__law_points) .none kV17 dc17 pm17 an17 cd17 ct17), sl17⟩) (c17 : PySem.W.codeIn K cd17 "_law_points" = true) (k17 : PySem.W.keepIn K (.ref f17) = true)
    {f18 : Addr} {od18 an18 : Option Addr} {sl18 : Array (Option Value)} {oc18 kV18 dc18 pm18 cd18 ct18 : Value}
    (a18 : PySem.W.nsIn K mainGlobals "check_cover" = some (some (.ref f18))) (l18 : K.lookup f18 = some ⟨oc18, od18, .func (PySem.W.fnOf "check_cover" "check_cover" (defArgs st_check_cover) (defBody st_check_cover) (defScope st_check_cover) .none kV18 dc18 pm18 an18 cd18 ct18), sl18⟩) (c18 : PySem.W.codeIn K cd18 "check_cover" = true) (k18 : PySem.W.keepIn K (.ref f18) = true)
    {f19 : Addr} {od19 an19 : Option Addr} {sl19 : Array (Option Value)} {oc19 kV19 dc19 pm19 cd19 ct19 : Value}
    (a19 : PySem.W.nsIn K mainGlobals "cover_row" = some (some (.ref f19))) (l19 : K.lookup f19 = some ⟨oc19, od19, .func (PySem.W.fnOf "cover_row" "cover_row" (defArgs st_cover_row) (defBody st_cover_row) (defScope st_cover_row) .none kV19 dc19 pm19 an19 cd19 ct19), sl19⟩) (c19 : PySem.W.codeIn K cd19 "cover_row" = true) (k19 : PySem.W.keepIn K (.ref f19) = true)
    {f20 : Addr} {od20 an20 : Option Addr} {sl20 : Array (Option Value)} {oc20 kV20 dc20 pm20 cd20 ct20 : Value}
    (a20 : PySem.W.nsIn K mainGlobals "wide_row" = some (some (.ref f20))) (l20 : K.lookup f20 = some ⟨oc20, od20, .func (PySem.W.fnOf "wide_row" "wide_row" (defArgs st_wide_row) (defBody st_wide_row) (defScope st_wide_row) .none kV20 dc20 pm20 an20 cd20 ct20), sl20⟩) (c20 : PySem.W.codeIn K cd20 "wide_row" = true) (k20 : PySem.W.keepIn K (.ref f20) = true)
    {f21 : Addr} {od21 an21 : Option Addr} {sl21 : Array (Option Value)} {oc21 kV21 dc21 pm21 cd21 ct21 : Value}
    (a21 : PySem.W.nsIn K mainGlobals "_law_plus" = some (some (.ref f21))) (l21 : K.lookup f21 = some ⟨oc21, od21, .func (PySem.W.fnOf "_law_plus" "_law_plus" (defArgs st__law_plus) (defBody st__law_plus) (defScope st__law_plus) .none kV21 dc21 pm21 an21 cd21 ct21), sl21⟩) (c21 : PySem.W.codeIn K cd21 "_law_plus" = true) (k21 : PySem.W.keepIn K (.ref f21) = true)
    {f22 : Addr} {od22 an22 : Option Addr} {sl22 : Array (Option Value)} {oc22 kV22 dc22 pm22 cd22 ct22 : Value}
    (a22 : PySem.W.nsIn K mainGlobals "_law_added" = some (some (.ref f22))) (l22 : K.lookup f22 = some ⟨oc22, od22, .func (PySem.W.fnOf "_law_added" "_law_added" (defArgs st__law_added) (defBody st__law_added) (defScope st__law_added) .none kV22 dc22 pm22 an22 cd22 ct22), sl22⟩) (c22 : PySem.W.codeIn K cd22 "_law_added" = true) (k22 : PySem.W.keepIn K (.ref f22) = true)
    {f23 : Addr} {od23 an23 : Option Addr} {sl23 : Array (Option Value)} {oc23 kV23 dc23 pm23 cd23 ct23 : Value}
    (a23 : PySem.W.nsIn K mainGlobals "_law_less" = some (some (.ref f23))) (l23 : K.lookup f23 = some ⟨oc23, od23, .func (PySem.W.fnOf "_law_less" "_law_less" (defArgs st__law_less) (defBody st__law_less) (defScope st__law_less) .none kV23 dc23 pm23 an23 cd23 ct23), sl23⟩) (c23 : PySem.W.codeIn K cd23 "_law_less" = true) (k23 : PySem.W.keepIn K (.ref f23) = true)
    {f24 : Addr} {od24 an24 : Option Addr} {sl24 : Array (Option Value)} {oc24 kV24 dc24 pm24 cd24 ct24 : Value}
    (a24 : PySem.W.nsIn K mainGlobals "_law_by" = some (some (.ref f24))) (l24 : K.lookup f24 = some ⟨oc24, od24, .func (PySem.W.fnOf "_law_by" "_law_by" (defArgs st__law_by) (defBody st__law_by) (defScope st__law_by) .none kV24 dc24 pm24 an24 cd24 ct24), sl24⟩) (c24 : PySem.W.codeIn K cd24 "_law_by" = true) (k24 : PySem.W.keepIn K (.ref f24) = true)
    {f25 : Addr} {od25 an25 : Option Addr} {sl25 : Array (Option Value)} {oc25 kV25 dc25 pm25 cd25 ct25 : Value}
    (a25 : PySem.W.nsIn K mainGlobals "_law_minus" = some (some (.ref f25))) (l25 : K.lookup f25 = some ⟨oc25, od25, .func (PySem.W.fnOf "_law_minus" "_law_minus" (defArgs st__law_minus) (defBody st__law_minus) (defScope st__law_minus) .none kV25 dc25 pm25 an25 cd25 ct25), sl25⟩) (c25 : PySem.W.codeIn K cd25 "_law_minus" = true) (k25 : PySem.W.keepIn K (.ref f25) = true)
    {f26 : Addr} {od26 an26 : Option Addr} {sl26 : Array (Option Value)} {oc26 kV26 dc26 pm26 cd26 ct26 : Value}
    (a26 : PySem.W.nsIn K mainGlobals "is_fraction" = some (some (.ref f26))) (l26 : K.lookup f26 = some ⟨oc26, od26, .func (PySem.W.fnOf "is_fraction" "is_fraction" (defArgs st_is_fraction) (defBody st_is_fraction) (defScope st_is_fraction) .none kV26 dc26 pm26 an26 cd26 ct26), sl26⟩) (c26 : PySem.W.codeIn K cd26 "is_fraction" = true) (k26 : PySem.W.keepIn K (.ref f26) = true)
    {f27 : Addr} {od27 an27 : Option Addr} {sl27 : Array (Option Value)} {oc27 kV27 dc27 pm27 cd27 ct27 : Value}
    (a27 : PySem.W.nsIn K mainGlobals "check_point" = some (some (.ref f27))) (l27 : K.lookup f27 = some ⟨oc27, od27, .func (PySem.W.fnOf "check_point" "check_point" (defArgs st_check_point) (defBody st_check_point) (defScope st_check_point) .none kV27 dc27 pm27 an27 cd27 ct27), sl27⟩) (c27 : PySem.W.codeIn K cd27 "check_point" = true) (k27 : PySem.W.keepIn K (.ref f27) = true)
    {f28 : Addr} {od28 an28 : Option Addr} {sl28 : Array (Option Value)} {oc28 kV28 dc28 pm28 cd28 ct28 : Value}
    (a28 : PySem.W.nsIn K mainGlobals "fraction" = some (some (.ref f28))) (l28 : K.lookup f28 = some ⟨oc28, od28, .func (PySem.W.fnOf "fraction" "fraction" (defArgs st_fraction) (defBody st_fraction) (defScope st_fraction) .none kV28 dc28 pm28 an28 cd28 ct28), sl28⟩) (c28 : PySem.W.codeIn K cd28 "fraction" = true) (k28 : PySem.W.keepIn K (.ref f28) = true)
    {f29 : Addr} {od29 an29 : Option Addr} {sl29 : Array (Option Value)} {oc29 kV29 dc29 pm29 cd29 ct29 : Value}
    (a29 : PySem.W.nsIn K mainGlobals "plus" = some (some (.ref f29))) (l29 : K.lookup f29 = some ⟨oc29, od29, .func (PySem.W.fnOf "plus" "plus" (defArgs st_plus) (defBody st_plus) (defScope st_plus) .none kV29 dc29 pm29 an29 cd29 ct29), sl29⟩) (c29 : PySem.W.codeIn K cd29 "plus" = true) (k29 : PySem.W.keepIn K (.ref f29) = true)
    {f30 : Addr} {od30 an30 : Option Addr} {sl30 : Array (Option Value)} {oc30 kV30 dc30 pm30 cd30 ct30 : Value}
    (a30 : PySem.W.nsIn K mainGlobals "total" = some (some (.ref f30))) (l30 : K.lookup f30 = some ⟨oc30, od30, .func (PySem.W.fnOf "total" "total" (defArgs st_total) (defBody st_total) (defScope st_total) .none kV30 dc30 pm30 an30 cd30 ct30), sl30⟩) (c30 : PySem.W.codeIn K cd30 "total" = true) (k30 : PySem.W.keepIn K (.ref f30) = true)
    {f31 : Addr} {od31 an31 : Option Addr} {sl31 : Array (Option Value)} {oc31 kV31 dc31 pm31 cd31 ct31 : Value}
    (a31 : PySem.W.nsIn K mainGlobals "is_less" = some (some (.ref f31))) (l31 : K.lookup f31 = some ⟨oc31, od31, .func (PySem.W.fnOf "is_less" "is_less" (defArgs st_is_less) (defBody st_is_less) (defScope st_is_less) .none kV31 dc31 pm31 an31 cd31 ct31), sl31⟩) (c31 : PySem.W.codeIn K cd31 "is_less" = true) (k31 : PySem.W.keepIn K (.ref f31) = true)
    {f32 : Addr} {od32 an32 : Option Addr} {sl32 : Array (Option Value)} {oc32 kV32 dc32 pm32 cd32 ct32 : Value}
    (a32 : PySem.W.nsIn K mainGlobals "minus" = some (some (.ref f32))) (l32 : K.lookup f32 = some ⟨oc32, od32, .func (PySem.W.fnOf "minus" "minus" (defArgs st_minus) (defBody st_minus) (defScope st_minus) .none kV32 dc32 pm32 an32 cd32 ct32), sl32⟩) (c32 : PySem.W.codeIn K cd32 "minus" = true) (k32 : PySem.W.keepIn K (.ref f32) = true)
    {f33 : Addr} {od33 an33 : Option Addr} {sl33 : Array (Option Value)} {oc33 kV33 dc33 pm33 cd33 ct33 : Value}
    (a33 : PySem.W.nsIn K mainGlobals "worst_cover" = some (some (.ref f33))) (l33 : K.lookup f33 = some ⟨oc33, od33, .func (PySem.W.fnOf "worst_cover" "worst_cover" (defArgs st_worst_cover) (defBody st_worst_cover) (defScope st_worst_cover) .none kV33 dc33 pm33 an33 cd33 ct33), sl33⟩) (c33 : PySem.W.codeIn K cd33 "worst_cover" = true) (k33 : PySem.W.keepIn K (.ref f33) = true)
    {f34 : Addr} {od34 an34 : Option Addr} {sl34 : Array (Option Value)} {oc34 kV34 dc34 pm34 cd34 ct34 : Value}
    (a34 : PySem.W.nsIn K mainGlobals "_law_is_least" = some (some (.ref f34))) (l34 : K.lookup f34 = some ⟨oc34, od34, .func (PySem.W.fnOf "_law_is_least" "_law_is_least" (defArgs st__law_is_least) (defBody st__law_is_least) (defScope st__law_is_least) .none kV34 dc34 pm34 an34 cd34 ct34), sl34⟩) (c34 : PySem.W.codeIn K cd34 "_law_is_least" = true) (k34 : PySem.W.keepIn K (.ref f34) = true)
    {f35 : Addr} {od35 an35 : Option Addr} {sl35 : Array (Option Value)} {oc35 kV35 dc35 pm35 cd35 ct35 : Value}
    (a35 : PySem.W.nsIn K mainGlobals "law" = some (some (.ref f35))) (l35 : K.lookup f35 = some ⟨oc35, od35, .func (PySem.W.fnOf "law" "law" (defArgs st_law) (defBody st_law) (defScope st_law) .none kV35 dc35 pm35 an35 cd35 ct35), sl35⟩) (c35 : PySem.W.codeIn K cd35 "law" = true) (k35 : PySem.W.keepIn K (.ref f35) = true)
    (z0 : PySem.W.nsIn K mainGlobals "abs" = some none)
    (z1 : PySem.W.nsIn K mainGlobals "all" = some none)
    {t2 : Tok} (z2 : PySem.W.nsIn K mainGlobals "MOST_ROOM" = some (some (.int 300 t2)))
    {t3 : Tok} (z3 : PySem.W.nsIn K mainGlobals "MOST_THINGS" = some (some (.int 7 t3)))
    {t4 : Tok} (z4 : PySem.W.nsIn K mainGlobals "MOST_WEIGHT" = some (some (.int 50 t4)))
    (z5 : PySem.W.nsIn K mainGlobals "enumerate" = some none)
    (z6 : PySem.W.nsIn K mainGlobals "gcd" = some (some (.builtin "math.gcd")))
    (z7 : PySem.W.nsIn K mainGlobals "int" = some none)
    (z8 : PySem.W.nsIn K mainGlobals "len" = some none)
    (z9 : PySem.W.nsIn K mainGlobals "max" = some none)
    (z10 : PySem.W.nsIn K mainGlobals "min" = some none)
    (z11 : PySem.W.nsIn K mainGlobals "range" = some none)
    (z12 : PySem.W.nsIn K mainGlobals "repr" = some none)
    (z13 : PySem.W.nsIn K mainGlobals "sorted" = some none)
    (z14 : PySem.W.nsIn K mainGlobals "sum" = some none)
    : ∃ fd : FuncData, (∀ (s : Shared) (v : Value), BindsTo s fd ⟨[v], []⟩ [("script", v)]) ∧ ∀ base : Heap, K.In base → base.Ns mainGlobals mg → FnG l.prog w K mg base CX0 5 fa fd ["script"] (spR K false m_law) := by
  have e := hfa.symm.trans (PySem.W.mg_of X G a35)
  cases e
  have hF : Facts mg := ⟨PySem.W.mg_none_of X G z0, PySem.W.mg_none_of X G z1, ⟨_, PySem.W.mg_of X G z2⟩, ⟨_, PySem.W.mg_of X G z3⟩, ⟨_, PySem.W.mg_of X G z4⟩, PySem.W.mg_none_of X G z5, PySem.W.mg_of X G z6, PySem.W.mg_none_of X G z7, PySem.W.mg_none_of X G z8, PySem.W.mg_none_of X G z9, PySem.W.mg_none_of X G z10, PySem.W.mg_none_of X G z11, PySem.W.mg_none_of X G z12, PySem.W.mg_none_of X G z13, PySem.W.mg_none_of X G z14⟩
  refine ⟨PySem.W.fnOf "law" "law" (defArgs st_law) (defBody st_law) (defScope st_law) .none kV35 dc35 pm35 an35 cd35 ct35, fun s v => .of_eq rfl, fun base _ _ => ?_⟩
  have F0 := fun_mk (st := st__law_draws) l0 c0 k0
  have hC__law_draws : Cal l.prog w K mg base CX0 1 "_law_draws" ["script"] (spR K false m__law_draws) := cal_of (ok__law_draws F0 hF ) F0 (PySem.W.mg_of X G a0) (F0.binds (ps := ["script"]) fun _ _ _ _ _ _ us hl => match us, hl with | [_], _ => rfl)
  have F1 := fun_mk (st := st__law_mix) l1 c1 k1
  have hC__law_mix : Cal l.prog w K mg base CX0 1 "_law_mix" ["draws", "k", "many"] (spD K false (g3 m__law_mix)) := cal_of (ok__law_mix F1 hF ) F1 (PySem.W.mg_of X G a1) (F1.binds (ps := ["draws", "k", "many"]) fun _ _ _ _ _ _ us hl => match us, hl with | [_, _, _], _ => rfl)
  have F2 := fun_mk (st := st__law_sack) l2 c2 k2
  have hC__law_sack : Cal l.prog w K mg base CX0 2 "_law_sack" ["draws", "first", "most"] (spD K false (g3 m__law_sack)) := cal_of (ok__law_sack F2 hF hC__law_mix) F2 (PySem.W.mg_of X G a2) (F2.binds (ps := ["draws", "first", "most"]) fun _ _ _ _ _ _ us hl => match us, hl with | [_, _, _], _ => rfl)
  have F3 := fun_mk (st := st__law_sets) l3 c3 k3
  have hC__law_sets : Cal l.prog w K mg base CX0 1 "_law_sets" ["things"] (spD K false (g1 m__law_sets)) := cal_of (ok__law_sets F3 hF ) F3 (PySem.W.mg_of X G a3) (F3.binds (ps := ["things"]) fun _ _ _ _ _ _ us hl => match us, hl with | [_], _ => rfl)
  have F4 := fun_mk (st := st__law_fits) l4 c4 k4
  have hC__law_fits : Cal l.prog w K mg base CX0 1 "_law_fits" ["sack"] (spD K false (g1 m__law_fits)) := cal_of (ok__law_fits F4 hF ) F4 (PySem.W.mg_of X G a4) (F4.binds (ps := ["sack"]) fun _ _ _ _ _ _ us hl => match us, hl with | [_], _ => rfl)
  have F5 := fun_mk (st := st__law_weight) l5 c5 k5
  have hC__law_weight : Cal l.prog w K mg base CX0 1 "_law_weight" ["sack", "told"] (spD K false (g2 m__law_weight)) := cal_of (ok__law_weight F5 hF ) F5 (PySem.W.mg_of X G a5) (F5.binds (ps := ["sack", "told"]) fun _ _ _ _ _ _ us hl => match us, hl with | [_, _], _ => rfl)
  have F6 := fun_mk (st := st__law_packings) l6 c6 k6
  have hC__law_packings : Cal l.prog w K mg base CX0 2 "_law_packings" ["sack"] (spD K false (g1 m__law_packings)) := cal_of (ok__law_packings F6 hF hC__law_sets hC__law_fits hC__law_weight) F6 (PySem.W.mg_of X G a6) (F6.binds (ps := ["sack"]) fun _ _ _ _ _ _ us hl => match us, hl with | [_], _ => rfl)
  have F7 := fun_mk (st := st_check_sack) l7 c7 k7
  have hC_check_sack : Cal l.prog w K mg base CX0 1 "check_sack" ["sack"] (spD K false (g1 m_check_sack)) := cal_of (ok_check_sack F7 hF ) F7 (PySem.W.mg_of X G a7) (F7.binds (ps := ["sack"]) fun _ _ _ _ _ _ us hl => match us, hl with | [_], _ => rfl)
  have F8 := fun_mk (st := st_sets_of) l8 c8 k8
  have hC_sets_of : Cal l.prog w K mg base CX0 1 "sets_of" ["things"] (spD K false (g1 m_sets_of)) := cal_of (ok_sets_of F8 hF ) F8 (PySem.W.mg_of X G a8) (F8.binds (ps := ["things"]) fun _ _ _ _ _ _ us hl => match us, hl with | [_], _ => rfl)
  have F9 := fun_mk (st := st_fitting) l9 c9 k9
  have hC_fitting : Cal l.prog w K mg base CX0 1 "fitting" ["sack"] (spD K false (g1 m_fitting)) := cal_of (ok_fitting F9 hF ) F9 (PySem.W.mg_of X G a9) (F9.binds (ps := ["sack"]) fun _ _ _ _ _ _ us hl => match us, hl with | [_], _ => rfl)
  have F10 := fun_mk (st := st_weight_of) l10 c10 k10
  have hC_weight_of : Cal l.prog w K mg base CX0 1 "weight_of" ["sack", "told"] (spD K false (g2 m_weight_of)) := cal_of (ok_weight_of F10 hF ) F10 (PySem.W.mg_of X G a10) (F10.binds (ps := ["sack", "told"]) fun _ _ _ _ _ _ us hl => match us, hl with | [_, _], _ => rfl)
  have F11 := fun_mk (st := st_packings_of) l11 c11 k11
  have hC_packings_of : Cal l.prog w K mg base CX0 2 "packings_of" ["sack"] (spD K true (g1 m_packings_of)) := cal_of (ok_packings_of F11 hF hC_sets_of hC_fitting hC_weight_of) F11 (PySem.W.mg_of X G a11) (F11.binds (ps := ["sack"]) fun _ _ _ _ _ _ us hl => match us, hl with | [_], _ => rfl)
  have F12 := fun_mk (st := st_packings) l12 c12 k12
  have hC_packings : Cal l.prog w K mg base CX0 3 "packings" ["sack"] (spD K true (g1 m_packings)) := cal_of (ok_packings F12 hF hC_check_sack hC_packings_of) F12 (PySem.W.mg_of X G a12) (F12.binds (ps := ["sack"]) fun _ _ _ _ _ _ us hl => match us, hl with | [_], _ => rfl)
  have F13 := fun_mk (st := st_is_cover) l13 c13 k13
  have hC_is_cover : Cal l.prog w K mg base CX0 2 "is_cover" ["sack", "told"] (spD K false (g2 m_is_cover)) := cal_of (ok_is_cover F13 hF hC_fitting hC_weight_of) F13 (PySem.W.mg_of X G a13) (F13.binds (ps := ["sack", "told"]) fun _ _ _ _ _ _ us hl => match us, hl with | [_, _], _ => rfl)
  have F14 := fun_mk (st := st_is_least) l14 c14 k14
  have hC_is_least : Cal l.prog w K mg base CX0 3 "is_least" ["sack", "told"] (spD K false (g2 m_is_least)) := cal_of (ok_is_least F14 hF hC_is_cover hC_weight_of) F14 (PySem.W.mg_of X G a14) (F14.binds (ps := ["sack", "told"]) fun _ _ _ _ _ _ us hl => match us, hl with | [_, _], _ => rfl)
  have F15 := fun_mk (st := st_least_covers) l15 c15 k15
  have hC_least_covers : Cal l.prog w K mg base CX0 4 "least_covers" ["sack"] (spD K true (g1 m_least_covers)) := cal_of (ok_least_covers F15 hF hC_check_sack hC_sets_of hC_fitting hC_is_least) F15 (PySem.W.mg_of X G a15) (F15.binds (ps := ["sack"]) fun _ _ _ _ _ _ us hl => match us, hl with | [_], _ => rfl)
  have F16 := fun_mk (st := st__law_fraction) l16 c16 k16
  have hC__law_fraction : Cal l.prog w K mg base CX0 1 "_law_fraction" ["n", "d"] (spD K false (g2 m__law_fraction)) := cal_of (ok__law_fraction F16 hF ) F16 (PySem.W.mg_of X G a16) (F16.binds (ps := ["n", "d"]) fun _ _ _ _ _ _ us hl => match us, hl with | [_, _], _ => rfl)
  have F17 := fun_mk (st := st__law_points) l17 c17 k17
  have hC__law_points : Cal l.prog w K mg base CX0 3 "_law_points" ["draws", "first", "sack"] (spD K false (g3 m__law_points)) := cal_of (ok__law_points F17 hF hC__law_fraction hC__law_mix hC__law_packings) F17 (PySem.W.mg_of X G a17) (F17.binds (ps := ["draws", "first", "sack"]) fun _ _ _ _ _ _ us hl => match us, hl with | [_, _, _], _ => rfl)
  have F18 := fun_mk (st := st_check_cover) l18 c18 k18
  have hC_check_cover : Cal l.prog w K mg base CX0 3 "check_cover" ["sack", "cover"] (spD K false (g2 m_check_cover)) := cal_of (ok_check_cover F18 hF hC_check_sack hC_is_cover) F18 (PySem.W.mg_of X G a18) (F18.binds (ps := ["sack", "cover"]) fun _ _ _ _ _ _ us hl => match us, hl with | [_, _], _ => rfl)
  have F19 := fun_mk (st := st_cover_row) l19 c19 k19
  have hC_cover_row : Cal l.prog w K mg base CX0 4 "cover_row" ["sack", "cover"] (spD K false (g2 m_cover_row)) := cal_of (ok_cover_row F19 hF hC_check_cover) F19 (PySem.W.mg_of X G a19) (F19.binds (ps := ["sack", "cover"]) fun _ _ _ _ _ _ us hl => match us, hl with | [_, _], _ => rfl)
  have F20 := fun_mk (st := st_wide_row) l20 c20 k20
  have hC_wide_row : Cal l.prog w K mg base CX0 4 "wide_row" ["sack", "cover"] (spD K false (g2 m_wide_row)) := cal_of (ok_wide_row F20 hF hC_check_cover hC_fitting) F20 (PySem.W.mg_of X G a20) (F20.binds (ps := ["sack", "cover"]) fun _ _ _ _ _ _ us hl => match us, hl with | [_, _], _ => rfl)
  have F21 := fun_mk (st := st__law_plus) l21 c21 k21
  have hC__law_plus : Cal l.prog w K mg base CX0 2 "_law_plus" ["one", "two"] (spD K false (g2 m__law_plus)) := cal_of (ok__law_plus F21 hF hC__law_fraction) F21 (PySem.W.mg_of X G a21) (F21.binds (ps := ["one", "two"]) fun _ _ _ _ _ _ us hl => match us, hl with | [_, _], _ => rfl)
  have F22 := fun_mk (st := st__law_added) l22 c22 k22
  have hC__law_added : Cal l.prog w K mg base CX0 3 "_law_added" ["told"] (spD K false (g1 m__law_added)) := cal_of (ok__law_added F22 hF hC__law_plus) F22 (PySem.W.mg_of X G a22) (F22.binds (ps := ["told"]) fun _ _ _ _ _ _ us hl => match us, hl with | [_], _ => rfl)
  have F23 := fun_mk (st := st__law_less) l23 c23 k23
  have hC__law_less : Cal l.prog w K mg base CX0 1 "_law_less" ["one", "two"] (spD K false (g2 m__law_less)) := cal_of (ok__law_less F23 hF ) F23 (PySem.W.mg_of X G a23) (F23.binds (ps := ["one", "two"]) fun _ _ _ _ _ _ us hl => match us, hl with | [_, _], _ => rfl)
  have F24 := fun_mk (st := st__law_by) l24 c24 k24
  have hC__law_by : Cal l.prog w K mg base CX0 1 "_law_by" ["numbers", "told"] (spD K false (g2 m__law_by)) := cal_of (ok__law_by F24 hF ) F24 (PySem.W.mg_of X G a24) (F24.binds (ps := ["numbers", "told"]) fun _ _ _ _ _ _ us hl => match us, hl with | [_, _], _ => rfl)
  have F25 := fun_mk (st := st__law_minus) l25 c25 k25
  have hC__law_minus : Cal l.prog w K mg base CX0 3 "_law_minus" ["one", "two"] (spD K false (g2 m__law_minus)) := cal_of (ok__law_minus F25 hF hC__law_plus) F25 (PySem.W.mg_of X G a25) (F25.binds (ps := ["one", "two"]) fun _ _ _ _ _ _ us hl => match us, hl with | [_, _], _ => rfl)
  have F26 := fun_mk (st := st_is_fraction) l26 c26 k26
  have hC_is_fraction : Cal l.prog w K mg base CX0 1 "is_fraction" ["told"] (spD K false (g1 m_is_fraction)) := cal_of (ok_is_fraction F26 hF ) F26 (PySem.W.mg_of X G a26) (F26.binds (ps := ["told"]) fun _ _ _ _ _ _ us hl => match us, hl with | [_], _ => rfl)
  have F27 := fun_mk (st := st_check_point) l27 c27 k27
  have hC_check_point : Cal l.prog w K mg base CX0 2 "check_point" ["sack", "point"] (spD K false (g2 m_check_point)) := cal_of (ok_check_point F27 hF hC_check_sack hC_is_fraction) F27 (PySem.W.mg_of X G a27) (F27.binds (ps := ["sack", "point"]) fun _ _ _ _ _ _ us hl => match us, hl with | [_, _], _ => rfl)
  have F28 := fun_mk (st := st_fraction) l28 c28 k28
  have hC_fraction : Cal l.prog w K mg base CX0 1 "fraction" ["number", "by"] (spD K false (g2 m_fraction)) := cal_of (ok_fraction F28 hF ) F28 (PySem.W.mg_of X G a28) (F28.binds (ps := ["number", "by"]) fun _ _ _ _ _ _ us hl => match us, hl with | [_, _], _ => rfl)
  have F29 := fun_mk (st := st_plus) l29 c29 k29
  have hC_plus : Cal l.prog w K mg base CX0 2 "plus" ["one", "two"] (spD K false (g2 m_plus)) := cal_of (ok_plus F29 hF hC_fraction) F29 (PySem.W.mg_of X G a29) (F29.binds (ps := ["one", "two"]) fun _ _ _ _ _ _ us hl => match us, hl with | [_, _], _ => rfl)
  have F30 := fun_mk (st := st_total) l30 c30 k30
  have hC_total : Cal l.prog w K mg base CX0 3 "total" ["told"] (spD K false (g1 m_total)) := cal_of (ok_total F30 hF hC_plus) F30 (PySem.W.mg_of X G a30) (F30.binds (ps := ["told"]) fun _ _ _ _ _ _ us hl => match us, hl with | [_], _ => rfl)
  have F31 := fun_mk (st := st_is_less) l31 c31 k31
  have hC_is_less : Cal l.prog w K mg base CX0 1 "is_less" ["one", "two"] (spD K false (g2 m_is_less)) := cal_of (ok_is_less F31 hF ) F31 (PySem.W.mg_of X G a31) (F31.binds (ps := ["one", "two"]) fun _ _ _ _ _ _ us hl => match us, hl with | [_, _], _ => rfl)
  have F32 := fun_mk (st := st_minus) l32 c32 k32
  have hC_minus : Cal l.prog w K mg base CX0 2 "minus" ["one", "two"] (spD K false (g2 m_minus)) := cal_of (ok_minus F32 hF hC_fraction) F32 (PySem.W.mg_of X G a32) (F32.binds (ps := ["one", "two"]) fun _ _ _ _ _ _ us hl => match us, hl with | [_, _], _ => rfl)
  have F33 := fun_mk (st := st_worst_cover) l33 c33 k33
  have hC_worst_cover : Cal l.prog w K mg base CX0 4 "worst_cover" ["sack", "point"] (spD K false (g2 m_worst_cover)) := cal_of (ok_worst_cover F33 hF hC_check_point hC_sets_of hC_fitting hC_is_cover hC_total hC_minus hC_is_less) F33 (PySem.W.mg_of X G a33) (F33.binds (ps := ["sack", "point"]) fun _ _ _ _ _ _ us hl => match us, hl with | [_, _], _ => rfl)
  have F34 := fun_mk (st := st__law_is_least) l34 c34 k34
  have hC__law_is_least : Cal l.prog w K mg base CX0 2 "_law_is_least" ["sack", "told"] (spD K false (g2 m__law_is_least)) := cal_of (ok__law_is_least F34 hF hC__law_weight) F34 (PySem.W.mg_of X G a34) (F34.binds (ps := ["sack", "told"]) fun _ _ _ _ _ _ us hl => match us, hl with | [_, _], _ => rfl)
  have F35 := fun_mk (st := st_law) l35 c35 k35
  exact ok_law F35 hF hC__law_draws hC__law_sack hC__law_mix hC__law_packings hC__law_sets hC__law_fits hC__law_weight hC_packings hC_least_covers hC__law_is_least hC_cover_row hC_wide_row hC__law_by hC__law_points hC__law_added hC__law_minus hC__law_less hC_worst_cover
end Lay.K46

set_option Elab.async false
set_option linter.all false
set_option maxRecDepth 100000
namespace Lay.K46
open PySem PySem.Spec PyProof.Rows L2 Lay
open Lay.Enc (enc)
/-! ### the draws -/
def DB (ds : List Int) : Prop := (∀ d, d ∈ ds → 0 ≤ d ∧ d < 65536) ∧ ds.length ≤ 3780
theorem draws_ok (ns : List Int) (h : ns.length ≤ 63) : Ok (m__law_draws ns) DB := by
  unfold m__law_draws b__law_draws
  have e3 : powG 10 18 = some 1000000000000000000 := by decide
  (try simp only [ok_some, ok_none, ok_bind, ok_lift1, ok_lift2, ok_lift3, ok_lift4, ok_bind2, ok_app1, ok_app2, ok_app3, ok_app4, ok_bif, ok_andG, ok_orG, ok_chain, ok_bindOut, bo_nx, bo_rt, bo_bk, bo_ct, ok_finO, fo_nx, fo_rt, nx_nx, nx_rt, ok_mul, ok_mod, ok_div, ok_appG, ok_szG, ok_catG, decide_eq_true_eq, decide_eq_false_iff_not, Bool.not_eq_true', Bool.not_eq_false', cLe, cLt, reduceCtorEq, false_implies, true_implies, implies_true, and_true, true_and])
  refine ⟨by simp, ok_rng1 (by split <;> omega) (by split <;> omega) (ok_for (fun i s => (∀ d, d ∈ s → 0 ≤ d ∧ d < 65536) ∧ s.length ≤ 60 * i) ⟨by simp, by simp⟩ (fun i s y hy hI => ?_) fun s hI => ?_)⟩
  · obtain ⟨hi, rfl⟩ := rng_get hy
    have hin : i < ns.length ∧ i < 63 := by split at hi <;> omega
    obtain ⟨hI1, hI2⟩ := hI
    (try simp only [ok_some, ok_none, ok_bind, ok_lift1, ok_lift2, ok_lift3, ok_lift4, ok_bind2, ok_app1, ok_app2, ok_app3, ok_app4, ok_bif, ok_andG, ok_orG, ok_chain, ok_bindOut, bo_nx, bo_rt, bo_bk, bo_ct, ok_finO, fo_nx, fo_rt, nx_nx, nx_rt, ok_mul, ok_mod, ok_div, ok_appG, ok_szG, ok_catG, decide_eq_true_eq, decide_eq_false_iff_not, Bool.not_eq_true', Bool.not_eq_false', cLe, cLt, reduceCtorEq, false_implies, true_implies, implies_true, and_true, true_and])
    refine ok_atI (by omega) (by omega) fun x hx _ => ?_
    have hr : 0 ≤ (if x < 0 then -x else x) := by split <;> omega
    generalize (if x < 0 then -x else x) = r at hr ⊢
    refine ok_of e3 ?_
    refine ⟨fun h1 => ?_, fun h1 => ?_⟩
    · refine ok_rng1 (by decide) (by decide) (ok_for (fun j s' => (∀ d, d ∈ s'.1 → 0 ≤ d ∧ d < 65536) ∧ s'.1.length ≤ 60 * i + j ∧ 0 ≤ s'.2) ⟨hI1, by simpa using hI2, hr⟩ (fun j s' z hz hJ => ?_) fun s' hJ => ?_)
      · obtain ⟨hj, rfl⟩ := rng_get hz
        obtain ⟨hJ1, hJ2, hJ3⟩ := hJ
        have hj : j < 60 := hj
        (try simp only [ok_some, ok_none, ok_bind, ok_lift1, ok_lift2, ok_lift3, ok_lift4, ok_bind2, ok_app1, ok_app2, ok_app3, ok_app4, ok_bif, ok_andG, ok_orG, ok_chain, ok_bindOut, bo_nx, bo_rt, bo_bk, bo_ct, ok_finO, fo_nx, fo_rt, nx_nx, nx_rt, ok_mul, ok_mod, ok_div, ok_appG, ok_szG, ok_catG, decide_eq_true_eq, decide_eq_false_iff_not, Bool.not_eq_true', Bool.not_eq_false', cLe, cLt, reduceCtorEq, false_implies, true_implies, implies_true, and_true, true_and])
        refine ⟨fun h2 => ⟨by decide, by omega, divOk (by decide) (by decide), ?_, ?_, ?_⟩, fun h2 => ⟨hJ1, by omega, hJ3⟩⟩
        · intro d hd
          rw [List.mem_append, List.mem_singleton] at hd
          rcases hd with hd | hd
          · exact hJ1 d hd
          · subst hd; omega
        · simp only [List.length_append, List.length_singleton]; omega
        · exact Int.ediv_nonneg hJ3 (by decide)
      · (try simp only [ok_some, ok_none, ok_bind, ok_lift1, ok_lift2, ok_lift3, ok_lift4, ok_bind2, ok_app1, ok_app2, ok_app3, ok_app4, ok_bif, ok_andG, ok_orG, ok_chain, ok_bindOut, bo_nx, bo_rt, bo_bk, bo_ct, ok_finO, fo_nx, fo_rt, nx_nx, nx_rt, ok_mul, ok_mod, ok_div, ok_appG, ok_szG, ok_catG, decide_eq_true_eq, decide_eq_false_iff_not, Bool.not_eq_true', Bool.not_eq_false', cLe, cLt, reduceCtorEq, false_implies, true_implies, implies_true, and_true, true_and])
        refine ⟨hJ.1, ?_⟩
        have := hJ.2.1
        simp only [rng_len] at this
        have e : (60 : Int).toNat = 60 := rfl
        omega
    · refine ⟨mulOk (by omega) (by decide), mulOk (by omega) (by decide), by decide, ?_⟩
      generalize hm : (r * 48271 + (0 + ↑i + 1) * 69621) % 2147483647 = m1
      have hm1 : 0 ≤ m1 ∧ m1 < 2147483647 := by omega
      refine ⟨mulOk (by omega) (by decide), mulOk (by decide) (by omega), by decide, by decide, ?_⟩
      generalize (m1 * 16807 + 11 * (0 + ↑i) + 5) % 2147483629 = m2
      refine ⟨by omega, divOk (by decide) (by decide), by decide, by simp only [List.length_append, List.length_singleton]; omega, ?_, ?_⟩
      · intro d hd
        simp only [List.mem_append, List.mem_singleton] at hd
        rcases hd with (hd | hd) | hd
        · exact hI1 d hd
        · subst hd; omega
        · subst hd; omega
      · simp only [List.length_append, List.length_singleton]; omega
  · (try simp only [ok_some, ok_none, ok_bind, ok_lift1, ok_lift2, ok_lift3, ok_lift4, ok_bind2, ok_app1, ok_app2, ok_app3, ok_app4, ok_bif, ok_andG, ok_orG, ok_chain, ok_bindOut, bo_nx, bo_rt, bo_bk, bo_ct, ok_finO, fo_nx, fo_rt, nx_nx, nx_rt, ok_mul, ok_mod, ok_div, ok_appG, ok_szG, ok_catG, decide_eq_true_eq, decide_eq_false_iff_not, Bool.not_eq_true', Bool.not_eq_false', cLe, cLt, reduceCtorEq, false_implies, true_implies, implies_true, and_true, true_and])
    refine ⟨hI.1, ?_⟩
    have := hI.2
    simp only [rng_len] at this
    have : (if (ns.length : Int) < 63 then (ns.length : Int) else 63).toNat ≤ 63 := by split <;> omega
    omega
theorem mix_ok {ds : List Int} {k many : Int} (h : DB ds) (hk : 0 ≤ k) (hk2 : k < 2 ^ 40) (hm : 0 < many) : Ok (m__law_mix ds k many) fun r => 0 ≤ r ∧ r < many := by
  unfold m__law_mix b__law_mix
  have key : ∀ c : Int, 0 ≤ c → c < 65536 → (k < ds.length → 0 < many ∧ 0 ≤ c % many ∧ c % many < many) ∧ (¬ k < ds.length → MulOk c 7919 ∧ MulOk k 104729 ∧ DivOk 3 ∧ 0 < many ∧ 0 ≤ (c * 7919 + k * 104729) / 3 % many ∧ (c * 7919 + k * 104729) / 3 % many < many) := by
    intro c h1 h2
    exact ⟨fun _ => ⟨hm, Int.emod_nonneg _ (by omega), Int.emod_lt_of_pos _ hm⟩, fun _ => ⟨mulOk (by omega) (by decide), mulOk (by omega) (by decide), divOk (by decide) (by decide), hm, Int.emod_nonneg _ (by omega), Int.emod_lt_of_pos _ hm⟩⟩
  (try simp only [ok_some, ok_none, ok_bind, ok_lift1, ok_lift2, ok_lift3, ok_lift4, ok_bind2, ok_app1, ok_app2, ok_app3, ok_app4, ok_bif, ok_andG, ok_orG, ok_chain, ok_bindOut, bo_nx, bo_rt, bo_bk, bo_ct, ok_finO, fo_nx, fo_rt, nx_nx, nx_rt, ok_mul, ok_mod, ok_div, ok_appG, ok_szG, ok_catG, decide_eq_true_eq, decide_eq_false_iff_not, Bool.not_eq_true', Bool.not_eq_false', cLe, cLt, reduceCtorEq, false_implies, true_implies, implies_true, and_true, true_and])
  refine ⟨fun h0 => ⟨h0, ok_atI (Int.emod_nonneg _ (by omega)) (Int.emod_lt_of_pos _ h0) fun x hx hm => ?_⟩, fun h0 => ?_⟩
  · exact key x (h.1 x hm).1 (h.1 x hm).2
  · exact key 0 (by decide) (by decide)
end Lay.K46

set_option Elab.async false
set_option linter.all false
set_option maxRecDepth 100000
namespace Lay.K46
open PySem PySem.Spec PyProof.Rows L2 Lay
open Lay.Enc (enc)
abbrev Sack := T2 (List Int) Int
/-! ### sacks -/
structure SK (s : Sack) : Prop where
  l1 : 1 ≤ s.a.length
  l2 : s.a.length ≤ 7
  w : ∀ w, w ∈ s.a → 1 ≤ w ∧ w ≤ 50
  r1 : 1 ≤ s.b
  r2 : s.b ≤ 300
theorem sack_ok {ds : List Int} {first most : Int} (h : DB ds) (h1 : 0 ≤ first) (h2 : first < 1000) (h3 : 1 ≤ most) (h4 : most ≤ 7) : Ok (m__law_sack ds first most) SK := by
  unfold m__law_sack b__law_sack
  (try simp only [ok_some, ok_none, ok_bind, ok_lift1, ok_lift2, ok_lift3, ok_lift4, ok_bind2, ok_app1, ok_app2, ok_app3, ok_app4, ok_bif, ok_andG, ok_orG, ok_chain, ok_bindOut, bo_nx, bo_rt, bo_bk, bo_ct, ok_finO, fo_nx, fo_rt, nx_nx, nx_rt, ok_mul, ok_mod, ok_div, ok_appG, ok_szG, ok_catG, decide_eq_true_eq, decide_eq_false_iff_not, Bool.not_eq_true', Bool.not_eq_false', cLe, cLt, reduceCtorEq, false_implies, true_implies, implies_true, and_true, true_and])
  refine ok_mono (mix_ok h h1 (by omega) (by omega)) fun a ha => ⟨by simp, ok_mono (mix_ok h (by omega) (by omega) (by decide)) fun b hb => ok_atI hb.1 (by simpa using hb.2) fun top _ ht => ok_rng1 (by omega) (by omega) (ok_allP (fun y => 1 ≤ y ∧ y ≤ 50) (fun x hx => ?_) fun ws hl hw => ?_)⟩
  · have htop : 0 < top ∧ top ≤ 50 := by simp at ht; omega
    have := mem_rng.mp hx
    (try simp only [ok_some, ok_none, ok_bind, ok_lift1, ok_lift2, ok_lift3, ok_lift4, ok_bind2, ok_app1, ok_app2, ok_app3, ok_app4, ok_bif, ok_andG, ok_orG, ok_chain, ok_bindOut, bo_nx, bo_rt, bo_bk, bo_ct, ok_finO, fo_nx, fo_rt, nx_nx, nx_rt, ok_mul, ok_mod, ok_div, ok_appG, ok_szG, ok_catG, decide_eq_true_eq, decide_eq_false_iff_not, Bool.not_eq_true', Bool.not_eq_false', cLe, cLt, reduceCtorEq, false_implies, true_implies, implies_true, and_true, true_and])
    refine ok_mono (mix_ok h (by omega) (by omega) htop.1) fun r hr => by omega
  · have sb := sum_bound hw
    have hlen : ws.length = (1 + a).toNat := by rw [hl, rng_len]
    refine ok_mono (mix_ok h (by omega) (by omega) (by decide)) fun c hc => ?_
    refine ⟨mulOk (by omega) (by omega), divOk (by decide) (by decide), ?_⟩
    generalize ws.sum * (1 + c) / 8 = rm
    refine ⟨by show 1 ≤ ws.length; omega, by show ws.length ≤ 7; omega, hw, ?_, ?_⟩
    · show 1 ≤ (if 300 < (if rm > 1 then rm else 1) then 300 else (if rm > 1 then rm else 1))
      split <;> split <;> omega
    · show (if 300 < (if rm > 1 then rm else 1) then 300 else (if rm > 1 then rm else 1)) ≤ 300
      split <;> split <;> omega
theorem check_sack_ok {s : Sack} (h : SK s) : Ok (m_check_sack s) fun _ => True := by
  unfold m_check_sack b_check_sack
  have h1 := h.l1; have h2 := h.l2; have h3 := h.r1; have h4 := h.r2
  (try simp only [ok_some, ok_none, ok_bind, ok_lift1, ok_lift2, ok_lift3, ok_lift4, ok_bind2, ok_app1, ok_app2, ok_app3, ok_app4, ok_bif, ok_andG, ok_orG, ok_chain, ok_bindOut, bo_nx, bo_rt, bo_bk, bo_ct, ok_finO, fo_nx, fo_rt, nx_nx, nx_rt, ok_mul, ok_mod, ok_div, ok_appG, ok_szG, ok_catG, decide_eq_true_eq, decide_eq_false_iff_not, Bool.not_eq_true', Bool.not_eq_false', cLe, cLt, reduceCtorEq, false_implies, true_implies, implies_true, and_true, true_and])
  have hc : ∀ x lo hi : Int, lo ≤ x → x ≤ hi → ((!decide (x ≤ hi)) = true → False) := by intro x lo hi _ h; simp [h]
  refine ⟨fun _ => ⟨fun c => absurd c (by simp; omega), fun _ => ok_for (fun _ _ => True) trivial (fun i u y hy _ => ?_) fun _ _ => ?_⟩, fun c => absurd c (by omega)⟩
  · (try simp only [ok_some, ok_none, ok_bind, ok_lift1, ok_lift2, ok_lift3, ok_lift4, ok_bind2, ok_app1, ok_app2, ok_app3, ok_app4, ok_bif, ok_andG, ok_orG, ok_chain, ok_bindOut, bo_nx, bo_rt, bo_bk, bo_ct, ok_finO, fo_nx, fo_rt, nx_nx, nx_rt, ok_mul, ok_mod, ok_div, ok_appG, ok_szG, ok_catG, decide_eq_true_eq, decide_eq_false_iff_not, Bool.not_eq_true', Bool.not_eq_false', cLe, cLt, reduceCtorEq, false_implies, true_implies, implies_true, and_true, true_and])
    have hm := List.mem_of_getElem? hy
    rw [enumL_eq, List.mem_map] at hm
    obtain ⟨k, hk, rfl⟩ := hm
    have hk := mem_rng.mp hk
    have hw : s.a.getD k.toNat 0 ∈ s.a := by
      have : k.toNat < s.a.length := by omega
      simp [List.getD, List.getElem?_eq_getElem this]
    have := h.w _ hw
    have h5 : 1 ≤ s.a.getD k.toNat 0 ∧ s.a.getD k.toNat 0 ≤ 50 := this
    refine ⟨fun _ => fun c => absurd c (by show ¬ ¬ s.a.getD k.toNat 0 ≤ 50; omega), fun c => absurd c (by show ¬ ¬ (1 : Int) ≤ s.a.getD k.toNat 0; omega)⟩
  · (try simp only [ok_some, ok_none, ok_bind, ok_lift1, ok_lift2, ok_lift3, ok_lift4, ok_bind2, ok_app1, ok_app2, ok_app3, ok_app4, ok_bif, ok_andG, ok_orG, ok_chain, ok_bindOut, bo_nx, bo_rt, bo_bk, bo_ct, ok_finO, fo_nx, fo_rt, nx_nx, nx_rt, ok_mul, ok_mod, ok_div, ok_appG, ok_szG, ok_catG, decide_eq_true_eq, decide_eq_false_iff_not, Bool.not_eq_true', Bool.not_eq_false', cLe, cLt, reduceCtorEq, false_implies, true_implies, implies_true, and_true, true_and])
    exact ⟨fun _ => fun c => absurd c (by simp; omega), fun c => absurd c (by omega)⟩
/-! ### items, weights, sets -/
def W (s : Sack) (k : Int) : Int := s.a.getD k.toNat 0
def inr (s : Sack) (k : Int) : Prop := 0 ≤ k ∧ k < s.a.length
theorem atW {s : Sack} {k : Int} (h : inr s k) : atI s.a k = some (W s k) := by
  rw [atI_eq h.1 h.2]
  have : k.toNat < s.a.length := by have := h.1; have := h.2; omega
  unfold W
  simp [List.getD, List.getElem?_eq_getElem this]
theorem W_mem {s : Sack} {k : Int} (h : inr s k) : W s k ∈ s.a := by
  have : k.toNat < s.a.length := by have := h.1; have := h.2; omega
  unfold W
  simp [List.getD, List.getElem?_eq_getElem this]
def fits (s : Sack) : List Int := (rngL 0 s.a.length).filter fun k => decide (W s k ≤ s.b)
theorem fits_nodup {s : Sack} : (fits s).Nodup := rng_nodup.filter _
theorem fits_mem {s : Sack} {k : Int} : k ∈ fits s ↔ inr s k ∧ W s k ≤ s.b := by
  unfold fits inr
  rw [List.mem_filter, mem_rng]
  simp
theorem fits_len {s : Sack} (h : SK s) : (fits s).length ≤ 7 := by
  have h1 : (fits s).length ≤ (rngL 0 s.a.length).length := List.length_filter_le ..
  rw [rng_len] at h1
  have := h.l2
  omega
theorem law_fits_eq {s : Sack} (h : SK s) : m__law_fits s = some (fits s) := by
  rw [ok_iff]
  unfold m__law_fits b__law_fits
  have h2 := h.l2
  (try simp only [ok_some, ok_none, ok_bind, ok_lift1, ok_lift2, ok_lift3, ok_lift4, ok_bind2, ok_app1, ok_app2, ok_app3, ok_app4, ok_bif, ok_andG, ok_orG, ok_chain, ok_bindOut, bo_nx, bo_rt, bo_bk, bo_ct, ok_finO, fo_nx, fo_rt, nx_nx, nx_rt, ok_mul, ok_mod, ok_div, ok_appG, ok_szG, ok_catG, decide_eq_true_eq, decide_eq_false_iff_not, Bool.not_eq_true', Bool.not_eq_false', cLe, cLt, reduceCtorEq, false_implies, true_implies, implies_true, and_true, true_and])
  refine ok_rng1 (by omega) (by omega) (ok_filter (fun k => decide (W s k ≤ s.b)) (fun k hk => ?_) (by (try simp only [ok_some, ok_none, ok_bind, ok_lift1, ok_lift2, ok_lift3, ok_lift4, ok_bind2, ok_app1, ok_app2, ok_app3, ok_app4, ok_bif, ok_andG, ok_orG, ok_chain, ok_bindOut, bo_nx, bo_rt, bo_bk, bo_ct, ok_finO, fo_nx, fo_rt, nx_nx, nx_rt, ok_mul, ok_mod, ok_div, ok_appG, ok_szG, ok_catG, decide_eq_true_eq, decide_eq_false_iff_not, Bool.not_eq_true', Bool.not_eq_false', cLe, cLt, reduceCtorEq, false_implies, true_implies, implies_true, and_true, true_and]); rfl))
  have hk := mem_rng.mp hk
  rw [ok_iff]
  (try simp only [ok_some, ok_none, ok_bind, ok_lift1, ok_lift2, ok_lift3, ok_lift4, ok_bind2, ok_app1, ok_app2, ok_app3, ok_app4, ok_bif, ok_andG, ok_orG, ok_chain, ok_bindOut, bo_nx, bo_rt, bo_bk, bo_ct, ok_finO, fo_nx, fo_rt, nx_nx, nx_rt, ok_mul, ok_mod, ok_div, ok_appG, ok_szG, ok_catG, decide_eq_true_eq, decide_eq_false_iff_not, Bool.not_eq_true', Bool.not_eq_false', cLe, cLt, reduceCtorEq, false_implies, true_implies, implies_true, and_true, true_and])
  exact ok_of (atW ⟨by omega, by omega⟩) rfl
theorem fitting_eq {s : Sack} (h : SK s) : m_fitting s = some (fits s) := by
  rw [ok_iff]
  unfold m_fitting b_fitting
  (try simp only [ok_some, ok_none, ok_bind, ok_lift1, ok_lift2, ok_lift3, ok_lift4, ok_bind2, ok_app1, ok_app2, ok_app3, ok_app4, ok_bif, ok_andG, ok_orG, ok_chain, ok_bindOut, bo_nx, bo_rt, bo_bk, bo_ct, ok_finO, fo_nx, fo_rt, nx_nx, nx_rt, ok_mul, ok_mod, ok_div, ok_appG, ok_szG, ok_catG, decide_eq_true_eq, decide_eq_false_iff_not, Bool.not_eq_true', Bool.not_eq_false', cLe, cLt, reduceCtorEq, false_implies, true_implies, implies_true, and_true, true_and])
  refine ok_lc (fun y => decide (y.b ≤ s.b)) T2.a (fun _ _ => rfl) (fun _ _ _ => rfl) ?_
  (try simp only [ok_some, ok_none, ok_bind, ok_lift1, ok_lift2, ok_lift3, ok_lift4, ok_bind2, ok_app1, ok_app2, ok_app3, ok_app4, ok_bif, ok_andG, ok_orG, ok_chain, ok_bindOut, bo_nx, bo_rt, bo_bk, bo_ct, ok_finO, fo_nx, fo_rt, nx_nx, nx_rt, ok_mul, ok_mod, ok_div, ok_appG, ok_szG, ok_catG, decide_eq_true_eq, decide_eq_false_iff_not, Bool.not_eq_true', Bool.not_eq_false', cLe, cLt, reduceCtorEq, false_implies, true_implies, implies_true, and_true, true_and])
  rw [enumL_eq, List.filter_map, List.map_map]
  unfold fits
  refine (List.map_congr_left (g := id) fun _ _ => rfl).trans ?_
  rw [List.map_id]
  apply List.filter_congr
  intro k _
  rfl
def weight (s : Sack) (t : List Int) : Int := (t.map (W s)).sum
theorem law_weight_eq {s : Sack} {t : List Int} (ht : ∀ k, k ∈ t → inr s k) : m__law_weight s t = some (weight s t) := by
  rw [ok_iff]
  unfold m__law_weight b__law_weight
  (try simp only [ok_some, ok_none, ok_bind, ok_lift1, ok_lift2, ok_lift3, ok_lift4, ok_bind2, ok_app1, ok_app2, ok_app3, ok_app4, ok_bif, ok_andG, ok_orG, ok_chain, ok_bindOut, bo_nx, bo_rt, bo_bk, bo_ct, ok_finO, fo_nx, fo_rt, nx_nx, nx_rt, ok_mul, ok_mod, ok_div, ok_appG, ok_szG, ok_catG, decide_eq_true_eq, decide_eq_false_iff_not, Bool.not_eq_true', Bool.not_eq_false', cLe, cLt, reduceCtorEq, false_implies, true_implies, implies_true, and_true, true_and])
  refine ok_map (W s) (fun k hk => ?_) (by (try simp only [ok_some, ok_none, ok_bind, ok_lift1, ok_lift2, ok_lift3, ok_lift4, ok_bind2, ok_app1, ok_app2, ok_app3, ok_app4, ok_bif, ok_andG, ok_orG, ok_chain, ok_bindOut, bo_nx, bo_rt, bo_bk, bo_ct, ok_finO, fo_nx, fo_rt, nx_nx, nx_rt, ok_mul, ok_mod, ok_div, ok_appG, ok_szG, ok_catG, decide_eq_true_eq, decide_eq_false_iff_not, Bool.not_eq_true', Bool.not_eq_false', cLe, cLt, reduceCtorEq, false_implies, true_implies, implies_true, and_true, true_and]); rfl)
  rw [ok_iff]
  (try simp only [ok_some, ok_none, ok_bind, ok_lift1, ok_lift2, ok_lift3, ok_lift4, ok_bind2, ok_app1, ok_app2, ok_app3, ok_app4, ok_bif, ok_andG, ok_orG, ok_chain, ok_bindOut, bo_nx, bo_rt, bo_bk, bo_ct, ok_finO, fo_nx, fo_rt, nx_nx, nx_rt, ok_mul, ok_mod, ok_div, ok_appG, ok_szG, ok_catG, decide_eq_true_eq, decide_eq_false_iff_not, Bool.not_eq_true', Bool.not_eq_false', cLe, cLt, reduceCtorEq, false_implies, true_implies, implies_true, and_true, true_and])
  exact ok_of (atW (ht k hk)) rfl
theorem weight_of_eq {s : Sack} {t : List Int} (ht : ∀ k, k ∈ t → inr s k) : m_weight_of s t = some (weight s t) := by
  rw [ok_iff]
  unfold m_weight_of b_weight_of
  (try simp only [ok_some, ok_none, ok_bind, ok_lift1, ok_lift2, ok_lift3, ok_lift4, ok_bind2, ok_app1, ok_app2, ok_app3, ok_app4, ok_bif, ok_andG, ok_orG, ok_chain, ok_bindOut, bo_nx, bo_rt, bo_bk, bo_ct, ok_finO, fo_nx, fo_rt, nx_nx, nx_rt, ok_mul, ok_mod, ok_div, ok_appG, ok_szG, ok_catG, decide_eq_true_eq, decide_eq_false_iff_not, Bool.not_eq_true', Bool.not_eq_false', cLe, cLt, reduceCtorEq, false_implies, true_implies, implies_true, and_true, true_and])
  refine ok_map (W s) (fun k hk => ?_) (by (try simp only [ok_some, ok_none, ok_bind, ok_lift1, ok_lift2, ok_lift3, ok_lift4, ok_bind2, ok_app1, ok_app2, ok_app3, ok_app4, ok_bif, ok_andG, ok_orG, ok_chain, ok_bindOut, bo_nx, bo_rt, bo_bk, bo_ct, ok_finO, fo_nx, fo_rt, nx_nx, nx_rt, ok_mul, ok_mod, ok_div, ok_appG, ok_szG, ok_catG, decide_eq_true_eq, decide_eq_false_iff_not, Bool.not_eq_true', Bool.not_eq_false', cLe, cLt, reduceCtorEq, false_implies, true_implies, implies_true, and_true, true_and]); rfl)
  rw [ok_iff]
  (try simp only [ok_some, ok_none, ok_bind, ok_lift1, ok_lift2, ok_lift3, ok_lift4, ok_bind2, ok_app1, ok_app2, ok_app3, ok_app4, ok_bif, ok_andG, ok_orG, ok_chain, ok_bindOut, bo_nx, bo_rt, bo_bk, bo_ct, ok_finO, fo_nx, fo_rt, nx_nx, nx_rt, ok_mul, ok_mod, ok_div, ok_appG, ok_szG, ok_catG, decide_eq_true_eq, decide_eq_false_iff_not, Bool.not_eq_true', Bool.not_eq_false', cLe, cLt, reduceCtorEq, false_implies, true_implies, implies_true, and_true, true_and])
  exact ok_of (atW (ht k hk)) rfl
def addOne (f : List (List Int)) (k : Int) : List (List Int) := f ++ f.map (· ++ [k])
def subs (l : List Int) : List (List Int) := l.foldl addOne [[]]
theorem subs_snoc {l : List Int} {k : Int} : subs (l ++ [k]) = addOne (subs l) k := by unfold subs; rw [List.foldl_append]; rfl
theorem subs_take {l : List Int} {i : Nat} {x : Int} (h : l[i]? = some x) : subs (l.take (i + 1)) = addOne (subs (l.take i)) x := by
  rw [List.take_add_one, h]
  exact subs_snoc
theorem subs_fact : ∀ (l : List Int), (subs l).length = 2 ^ l.length ∧ ∀ t, t ∈ subs l → t.Sublist l := by
  have key : ∀ (n : Nat) (l : List Int), l.length = n → (subs l).length = 2 ^ l.length ∧ ∀ t, t ∈ subs l → t.Sublist l := by
    intro n
    induction n with
    | zero =>
      intro l hl
      have : l = [] := List.eq_nil_of_length_eq_zero hl
      subst this
      exact ⟨rfl, fun t ht => by
        have : t = [] := by simpa [subs] using ht
        subst this; exact List.Sublist.slnil⟩
    | succ n ih =>
      intro l hl
      have hne : l ≠ [] := by intro c; subst c; simp at hl
      rw [← List.dropLast_concat_getLast hne, subs_snoc]
      have hd : l.dropLast.length = n := by rw [List.length_dropLast]; omega
      obtain ⟨h1, h2⟩ := ih l.dropLast hd
      refine ⟨?_, fun t ht => ?_⟩
      · unfold addOne
        rw [List.length_append, List.length_map, h1, List.length_append, List.length_singleton, Nat.pow_succ]; omega
      · unfold addOne at ht
        rw [List.mem_append, List.mem_map] at ht
        rcases ht with ht | ⟨u, hu, rfl⟩
        · exact (h2 t ht).trans (List.sublist_append_left _ _)
        · exact (h2 u hu).append (List.Sublist.refl _)
  exact fun l => key l.length l rfl
theorem subs_len {l : List Int} (h : l.length ≤ 7) : (subs l).length ≤ 128 := by
  rw [(subs_fact l).1]
  calc 2 ^ l.length ≤ 2 ^ 7 := Nat.pow_le_pow_right (by decide) h
    _ = 128 := by decide
def sets (l : List Int) : List (List Int) := (subs l).mergeSort leD
theorem sets_len {l : List Int} (h : l.length ≤ 7) : (sets l).length ≤ 128 := by
  unfold sets
  rw [List.length_mergeSort]; exact subs_len h
theorem sets_sub {l t : List Int} (h : t ∈ sets l) : t.Sublist l := (subs_fact l).2 t (by unfold sets at h; exact List.mem_mergeSort.mp h)
theorem sets_nil {l : List Int} : [] ∈ sets l := by
  unfold sets
  rw [List.mem_mergeSort]
  have : ∀ (m : List Int) (f : List (List Int)), [] ∈ f → [] ∈ m.foldl addOne f := by
    intro m
    induction m with
    | nil => exact fun f h => h
    | cons x xs ih => exact fun f h => ih _ (by unfold addOne; simp [h])
  exact this l [[]] (by simp)
theorem law_sets_eq {l : List Int} (h : l.length ≤ 7) : m__law_sets l = some (sets l) := by
  rw [ok_iff]
  unfold m__law_sets b__law_sets
  (try simp only [ok_some, ok_none, ok_bind, ok_lift1, ok_lift2, ok_lift3, ok_lift4, ok_bind2, ok_app1, ok_app2, ok_app3, ok_app4, ok_bif, ok_andG, ok_orG, ok_chain, ok_bindOut, bo_nx, bo_rt, bo_bk, bo_ct, ok_finO, fo_nx, fo_rt, nx_nx, nx_rt, ok_mul, ok_mod, ok_div, ok_appG, ok_szG, ok_catG, decide_eq_true_eq, decide_eq_false_iff_not, Bool.not_eq_true', Bool.not_eq_false', cLe, cLt, reduceCtorEq, false_implies, true_implies, implies_true, and_true, true_and])
  refine ⟨by simp, by simp, ok_for (fun i f => f = subs (l.take i)) rfl (fun i f x hx hf => ?_) fun f hf => ?_⟩
  · subst hf
    have hl : (l.take i).length ≤ 7 := by rw [List.length_take]; omega
    have h1 := subs_len hl
    (try simp only [ok_some, ok_none, ok_bind, ok_lift1, ok_lift2, ok_lift3, ok_lift4, ok_bind2, ok_app1, ok_app2, ok_app3, ok_app4, ok_bif, ok_andG, ok_orG, ok_chain, ok_bindOut, bo_nx, bo_rt, bo_bk, bo_ct, ok_finO, fo_nx, fo_rt, nx_nx, nx_rt, ok_mul, ok_mod, ok_div, ok_appG, ok_szG, ok_catG, decide_eq_true_eq, decide_eq_false_iff_not, Bool.not_eq_true', Bool.not_eq_false', cLe, cLt, reduceCtorEq, false_implies, true_implies, implies_true, and_true, true_and])
    refine ok_map (fun t => t ++ [x]) (fun t ht => ?_) ?_
    · rw [ok_iff]
      (try simp only [ok_some, ok_none, ok_bind, ok_lift1, ok_lift2, ok_lift3, ok_lift4, ok_bind2, ok_app1, ok_app2, ok_app3, ok_app4, ok_bif, ok_andG, ok_orG, ok_chain, ok_bindOut, bo_nx, bo_rt, bo_bk, bo_ct, ok_finO, fo_nx, fo_rt, nx_nx, nx_rt, ok_mul, ok_mod, ok_div, ok_appG, ok_szG, ok_catG, decide_eq_true_eq, decide_eq_false_iff_not, Bool.not_eq_true', Bool.not_eq_false', cLe, cLt, reduceCtorEq, false_implies, true_implies, implies_true, and_true, true_and])
      have := ((subs_fact _).2 t ht).length_le
      refine ⟨by simp, by simp; omega⟩
    · (try simp only [ok_some, ok_none, ok_bind, ok_lift1, ok_lift2, ok_lift3, ok_lift4, ok_bind2, ok_app1, ok_app2, ok_app3, ok_app4, ok_bif, ok_andG, ok_orG, ok_chain, ok_bindOut, bo_nx, bo_rt, bo_bk, bo_ct, ok_finO, fo_nx, fo_rt, nx_nx, nx_rt, ok_mul, ok_mod, ok_div, ok_appG, ok_szG, ok_catG, decide_eq_true_eq, decide_eq_false_iff_not, Bool.not_eq_true', Bool.not_eq_false', cLe, cLt, reduceCtorEq, false_implies, true_implies, implies_true, and_true, true_and])
      refine ⟨by simp; omega, ?_⟩
      rw [subs_take hx]; rfl
  · subst hf
    rw [List.take_length]
    (try simp only [ok_some, ok_none, ok_bind, ok_lift1, ok_lift2, ok_lift3, ok_lift4, ok_bind2, ok_app1, ok_app2, ok_app3, ok_app4, ok_bif, ok_andG, ok_orG, ok_chain, ok_bindOut, bo_nx, bo_rt, bo_bk, bo_ct, ok_finO, fo_nx, fo_rt, nx_nx, nx_rt, ok_mul, ok_mod, ok_div, ok_appG, ok_szG, ok_catG, decide_eq_true_eq, decide_eq_false_iff_not, Bool.not_eq_true', Bool.not_eq_false', cLe, cLt, reduceCtorEq, false_implies, true_implies, implies_true, and_true, true_and])
    refine ok_sortD rfl (by have := subs_len h; omega) ?_
    (try simp only [ok_some, ok_none, ok_bind, ok_lift1, ok_lift2, ok_lift3, ok_lift4, ok_bind2, ok_app1, ok_app2, ok_app3, ok_app4, ok_bif, ok_andG, ok_orG, ok_chain, ok_bindOut, bo_nx, bo_rt, bo_bk, bo_ct, ok_finO, fo_nx, fo_rt, nx_nx, nx_rt, ok_mul, ok_mod, ok_div, ok_appG, ok_szG, ok_catG, decide_eq_true_eq, decide_eq_false_iff_not, Bool.not_eq_true', Bool.not_eq_false', cLe, cLt, reduceCtorEq, false_implies, true_implies, implies_true, and_true, true_and])
    rfl
theorem sets_of_eq {l : List Int} (h : l.length ≤ 7) : m_sets_of l = some (sets l) := by
  rw [ok_iff]
  unfold m_sets_of b_sets_of
  (try simp only [ok_some, ok_none, ok_bind, ok_lift1, ok_lift2, ok_lift3, ok_lift4, ok_bind2, ok_app1, ok_app2, ok_app3, ok_app4, ok_bif, ok_andG, ok_orG, ok_chain, ok_bindOut, bo_nx, bo_rt, bo_bk, bo_ct, ok_finO, fo_nx, fo_rt, nx_nx, nx_rt, ok_mul, ok_mod, ok_div, ok_appG, ok_szG, ok_catG, decide_eq_true_eq, decide_eq_false_iff_not, Bool.not_eq_true', Bool.not_eq_false', cLe, cLt, reduceCtorEq, false_implies, true_implies, implies_true, and_true, true_and])
  refine ⟨by simp, by simp, ok_for (fun i f => f = subs (l.take i)) rfl (fun i f x hx hf => ?_) fun f hf => ?_⟩
  · subst hf
    have hl : (l.take i).length ≤ 7 := by rw [List.length_take]; omega
    have h1 := subs_len hl
    (try simp only [ok_some, ok_none, ok_bind, ok_lift1, ok_lift2, ok_lift3, ok_lift4, ok_bind2, ok_app1, ok_app2, ok_app3, ok_app4, ok_bif, ok_andG, ok_orG, ok_chain, ok_bindOut, bo_nx, bo_rt, bo_bk, bo_ct, ok_finO, fo_nx, fo_rt, nx_nx, nx_rt, ok_mul, ok_mod, ok_div, ok_appG, ok_szG, ok_catG, decide_eq_true_eq, decide_eq_false_iff_not, Bool.not_eq_true', Bool.not_eq_false', cLe, cLt, reduceCtorEq, false_implies, true_implies, implies_true, and_true, true_and])
    refine ok_map (fun t => t ++ [x]) (fun t ht => ?_) ?_
    · rw [ok_iff]
      (try simp only [ok_some, ok_none, ok_bind, ok_lift1, ok_lift2, ok_lift3, ok_lift4, ok_bind2, ok_app1, ok_app2, ok_app3, ok_app4, ok_bif, ok_andG, ok_orG, ok_chain, ok_bindOut, bo_nx, bo_rt, bo_bk, bo_ct, ok_finO, fo_nx, fo_rt, nx_nx, nx_rt, ok_mul, ok_mod, ok_div, ok_appG, ok_szG, ok_catG, decide_eq_true_eq, decide_eq_false_iff_not, Bool.not_eq_true', Bool.not_eq_false', cLe, cLt, reduceCtorEq, false_implies, true_implies, implies_true, and_true, true_and])
      have := ((subs_fact _).2 t ht).length_le
      simp; omega
    · (try simp only [ok_some, ok_none, ok_bind, ok_lift1, ok_lift2, ok_lift3, ok_lift4, ok_bind2, ok_app1, ok_app2, ok_app3, ok_app4, ok_bif, ok_andG, ok_orG, ok_chain, ok_bindOut, bo_nx, bo_rt, bo_bk, bo_ct, ok_finO, fo_nx, fo_rt, nx_nx, nx_rt, ok_mul, ok_mod, ok_div, ok_appG, ok_szG, ok_catG, decide_eq_true_eq, decide_eq_false_iff_not, Bool.not_eq_true', Bool.not_eq_false', cLe, cLt, reduceCtorEq, false_implies, true_implies, implies_true, and_true, true_and])
      refine ⟨by simp; omega, ?_⟩
      rw [subs_take hx]; rfl
  · subst hf
    rw [List.take_length]
    (try simp only [ok_some, ok_none, ok_bind, ok_lift1, ok_lift2, ok_lift3, ok_lift4, ok_bind2, ok_app1, ok_app2, ok_app3, ok_app4, ok_bif, ok_andG, ok_orG, ok_chain, ok_bindOut, bo_nx, bo_rt, bo_bk, bo_ct, ok_finO, fo_nx, fo_rt, nx_nx, nx_rt, ok_mul, ok_mod, ok_div, ok_appG, ok_szG, ok_catG, decide_eq_true_eq, decide_eq_false_iff_not, Bool.not_eq_true', Bool.not_eq_false', cLe, cLt, reduceCtorEq, false_implies, true_implies, implies_true, and_true, true_and])
    refine ok_sortD rfl (by have := subs_len h; omega) ?_
    (try simp only [ok_some, ok_none, ok_bind, ok_lift1, ok_lift2, ok_lift3, ok_lift4, ok_bind2, ok_app1, ok_app2, ok_app3, ok_app4, ok_bif, ok_andG, ok_orG, ok_chain, ok_bindOut, bo_nx, bo_rt, bo_bk, bo_ct, ok_finO, fo_nx, fo_rt, nx_nx, nx_rt, ok_mul, ok_mod, ok_div, ok_appG, ok_szG, ok_catG, decide_eq_true_eq, decide_eq_false_iff_not, Bool.not_eq_true', Bool.not_eq_false', cLe, cLt, reduceCtorEq, false_implies, true_implies, implies_true, and_true, true_and])
    rfl
end Lay.K46

set_option Elab.async false
set_option linter.all false
set_option maxRecDepth 100000
namespace Lay.K46
open PySem PySem.Spec PyProof.Rows L2 Lay
open Lay.Enc (enc)
/-! ### packings and covers -/
def every (s : Sack) : List (List Int) := (sets (fits s)).filter fun t => decide (weight s t ≤ s.b)
def covers (s : Sack) : List (List Int) := (sets (fits s)).filter fun t => decide (s.b < weight s t)
theorem set_inr {s : Sack} {t : List Int} (h : t ∈ sets (fits s)) : ∀ k, k ∈ t → inr s k := fun k hk => (fits_mem.mp ((sets_sub h).subset hk)).1
theorem every_mem {s : Sack} {t : List Int} (h : t ∈ every s) : t ∈ sets (fits s) ∧ weight s t ≤ s.b := by
  unfold every at h
  rw [List.mem_filter] at h
  exact ⟨h.1, of_decide_eq_true h.2⟩
theorem covers_mem {s : Sack} {t : List Int} (h : t ∈ covers s) : t ∈ sets (fits s) ∧ s.b < weight s t := by
  unfold covers at h
  rw [List.mem_filter] at h
  exact ⟨h.1, of_decide_eq_true h.2⟩
theorem law_packings_eq {s : Sack} (h : SK s) : m__law_packings s = some (every s) := by
  rw [ok_iff]
  unfold m__law_packings b__law_packings
  (try simp only [ok_some, ok_none, ok_bind, ok_lift1, ok_lift2, ok_lift3, ok_lift4, ok_bind2, ok_app1, ok_app2, ok_app3, ok_app4, ok_bif, ok_andG, ok_orG, ok_chain, ok_bindOut, bo_nx, bo_rt, bo_bk, bo_ct, ok_finO, fo_nx, fo_rt, nx_nx, nx_rt, ok_mul, ok_mod, ok_div, ok_appG, ok_szG, ok_catG, decide_eq_true_eq, decide_eq_false_iff_not, Bool.not_eq_true', Bool.not_eq_false', cLe, cLt, reduceCtorEq, false_implies, true_implies, implies_true, and_true, true_and])
  refine ok_of (law_fits_eq h) (ok_of (law_sets_eq (fits_len h)) (ok_filter (fun t => decide (weight s t ≤ s.b)) (fun t ht => ?_) (by (try simp only [ok_some, ok_none, ok_bind, ok_lift1, ok_lift2, ok_lift3, ok_lift4, ok_bind2, ok_app1, ok_app2, ok_app3, ok_app4, ok_bif, ok_andG, ok_orG, ok_chain, ok_bindOut, bo_nx, bo_rt, bo_bk, bo_ct, ok_finO, fo_nx, fo_rt, nx_nx, nx_rt, ok_mul, ok_mod, ok_div, ok_appG, ok_szG, ok_catG, decide_eq_true_eq, decide_eq_false_iff_not, Bool.not_eq_true', Bool.not_eq_false', cLe, cLt, reduceCtorEq, false_implies, true_implies, implies_true, and_true, true_and]); rfl)))
  rw [ok_iff]
  (try simp only [ok_some, ok_none, ok_bind, ok_lift1, ok_lift2, ok_lift3, ok_lift4, ok_bind2, ok_app1, ok_app2, ok_app3, ok_app4, ok_bif, ok_andG, ok_orG, ok_chain, ok_bindOut, bo_nx, bo_rt, bo_bk, bo_ct, ok_finO, fo_nx, fo_rt, nx_nx, nx_rt, ok_mul, ok_mod, ok_div, ok_appG, ok_szG, ok_catG, decide_eq_true_eq, decide_eq_false_iff_not, Bool.not_eq_true', Bool.not_eq_false', cLe, cLt, reduceCtorEq, false_implies, true_implies, implies_true, and_true, true_and])
  exact ok_of (law_weight_eq (set_inr ht)) rfl
theorem packings_of_eq {s : Sack} (h : SK s) : m_packings_of s = some (every s) := by
  rw [ok_iff]
  unfold m_packings_of b_packings_of
  (try simp only [ok_some, ok_none, ok_bind, ok_lift1, ok_lift2, ok_lift3, ok_lift4, ok_bind2, ok_app1, ok_app2, ok_app3, ok_app4, ok_bif, ok_andG, ok_orG, ok_chain, ok_bindOut, bo_nx, bo_rt, bo_bk, bo_ct, ok_finO, fo_nx, fo_rt, nx_nx, nx_rt, ok_mul, ok_mod, ok_div, ok_appG, ok_szG, ok_catG, decide_eq_true_eq, decide_eq_false_iff_not, Bool.not_eq_true', Bool.not_eq_false', cLe, cLt, reduceCtorEq, false_implies, true_implies, implies_true, and_true, true_and])
  refine ok_of (fitting_eq h) (ok_of (sets_of_eq (fits_len h)) (ok_filter (fun t => decide (weight s t ≤ s.b)) (fun t ht => ?_) (by (try simp only [ok_some, ok_none, ok_bind, ok_lift1, ok_lift2, ok_lift3, ok_lift4, ok_bind2, ok_app1, ok_app2, ok_app3, ok_app4, ok_bif, ok_andG, ok_orG, ok_chain, ok_bindOut, bo_nx, bo_rt, bo_bk, bo_ct, ok_finO, fo_nx, fo_rt, nx_nx, nx_rt, ok_mul, ok_mod, ok_div, ok_appG, ok_szG, ok_catG, decide_eq_true_eq, decide_eq_false_iff_not, Bool.not_eq_true', Bool.not_eq_false', cLe, cLt, reduceCtorEq, false_implies, true_implies, implies_true, and_true, true_and]); rfl)))
  rw [ok_iff]
  (try simp only [ok_some, ok_none, ok_bind, ok_lift1, ok_lift2, ok_lift3, ok_lift4, ok_bind2, ok_app1, ok_app2, ok_app3, ok_app4, ok_bif, ok_andG, ok_orG, ok_chain, ok_bindOut, bo_nx, bo_rt, bo_bk, bo_ct, ok_finO, fo_nx, fo_rt, nx_nx, nx_rt, ok_mul, ok_mod, ok_div, ok_appG, ok_szG, ok_catG, decide_eq_true_eq, decide_eq_false_iff_not, Bool.not_eq_true', Bool.not_eq_false', cLe, cLt, reduceCtorEq, false_implies, true_implies, implies_true, and_true, true_and])
  exact ok_of (weight_of_eq (set_inr ht)) rfl
theorem packings_eq {s : Sack} (h : SK s) : m_packings s = some (every s) := by
  rw [ok_iff]
  unfold m_packings b_packings
  (try simp only [ok_some, ok_none, ok_bind, ok_lift1, ok_lift2, ok_lift3, ok_lift4, ok_bind2, ok_app1, ok_app2, ok_app3, ok_app4, ok_bif, ok_andG, ok_orG, ok_chain, ok_bindOut, bo_nx, bo_rt, bo_bk, bo_ct, ok_finO, fo_nx, fo_rt, nx_nx, nx_rt, ok_mul, ok_mod, ok_div, ok_appG, ok_szG, ok_catG, decide_eq_true_eq, decide_eq_false_iff_not, Bool.not_eq_true', Bool.not_eq_false', cLe, cLt, reduceCtorEq, false_implies, true_implies, implies_true, and_true, true_and])
  refine ok_mono (check_sack_ok h) fun _ _ => ok_of (packings_of_eq h) ?_
  (try simp only [ok_some, ok_none, ok_bind, ok_lift1, ok_lift2, ok_lift3, ok_lift4, ok_bind2, ok_app1, ok_app2, ok_app3, ok_app4, ok_bif, ok_andG, ok_orG, ok_chain, ok_bindOut, bo_nx, bo_rt, bo_bk, bo_ct, ok_finO, fo_nx, fo_rt, nx_nx, nx_rt, ok_mul, ok_mod, ok_div, ok_appG, ok_szG, ok_catG, decide_eq_true_eq, decide_eq_false_iff_not, Bool.not_eq_true', Bool.not_eq_false', cLe, cLt, reduceCtorEq, false_implies, true_implies, implies_true, and_true, true_and])
theorem is_cover_eq {s : Sack} (h : SK s) {t : List Int} (ht : t ∈ sets (fits s)) : m_is_cover s t = some (decide (s.b < weight s t)) := by
  rw [ok_iff]
  unfold m_is_cover b_is_cover
  (try simp only [ok_some, ok_none, ok_bind, ok_lift1, ok_lift2, ok_lift3, ok_lift4, ok_bind2, ok_app1, ok_app2, ok_app3, ok_app4, ok_bif, ok_andG, ok_orG, ok_chain, ok_bindOut, bo_nx, bo_rt, bo_bk, bo_ct, ok_finO, fo_nx, fo_rt, nx_nx, nx_rt, ok_mul, ok_mod, ok_div, ok_appG, ok_szG, ok_catG, decide_eq_true_eq, decide_eq_false_iff_not, Bool.not_eq_true', Bool.not_eq_false', cLe, cLt, reduceCtorEq, false_implies, true_implies, implies_true, and_true, true_and])
  refine ok_of (fitting_eq h) (ok_filter (fun k => decide (k ∈ t)) (fun k _ => rfl) ?_)
  rw [filter_sub fits_nodup (sets_sub ht)]
  refine ⟨fun c => absurd c (by simp), fun _ => ?_⟩
  (try simp only [ok_some, ok_none, ok_bind, ok_lift1, ok_lift2, ok_lift3, ok_lift4, ok_bind2, ok_app1, ok_app2, ok_app3, ok_app4, ok_bif, ok_andG, ok_orG, ok_chain, ok_bindOut, bo_nx, bo_rt, bo_bk, bo_ct, ok_finO, fo_nx, fo_rt, nx_nx, nx_rt, ok_mul, ok_mod, ok_div, ok_appG, ok_szG, ok_catG, decide_eq_true_eq, decide_eq_false_iff_not, Bool.not_eq_true', Bool.not_eq_false', cLe, cLt, reduceCtorEq, false_implies, true_implies, implies_true, and_true, true_and])
  exact ok_of (weight_of_eq (set_inr ht)) rfl
def leastB (s : Sack) (t : List Int) : Bool := decide (s.b < weight s t) && t.all fun k => decide (weight s t - W s k ≤ s.b)
theorem is_least_eq {s : Sack} (h : SK s) {t : List Int} (ht : t ∈ sets (fits s)) : m_is_least s t = some (leastB s t) := by
  rw [ok_iff]
  unfold m_is_least b_is_least
  (try simp only [ok_some, ok_none, ok_bind, ok_lift1, ok_lift2, ok_lift3, ok_lift4, ok_bind2, ok_app1, ok_app2, ok_app3, ok_app4, ok_bif, ok_andG, ok_orG, ok_chain, ok_bindOut, bo_nx, bo_rt, bo_bk, bo_ct, ok_finO, fo_nx, fo_rt, nx_nx, nx_rt, ok_mul, ok_mod, ok_div, ok_appG, ok_szG, ok_catG, decide_eq_true_eq, decide_eq_false_iff_not, Bool.not_eq_true', Bool.not_eq_false', cLe, cLt, reduceCtorEq, false_implies, true_implies, implies_true, and_true, true_and])
  refine ok_of (is_cover_eq h ht) ⟨fun c => ?_, fun c => ?_⟩
  · unfold leastB
    simp at c
    simp [Int.not_lt.mpr c]
  · simp at c
    (try simp only [ok_some, ok_none, ok_bind, ok_lift1, ok_lift2, ok_lift3, ok_lift4, ok_bind2, ok_app1, ok_app2, ok_app3, ok_app4, ok_bif, ok_andG, ok_orG, ok_chain, ok_bindOut, bo_nx, bo_rt, bo_bk, bo_ct, ok_finO, fo_nx, fo_rt, nx_nx, nx_rt, ok_mul, ok_mod, ok_div, ok_appG, ok_szG, ok_catG, decide_eq_true_eq, decide_eq_false_iff_not, Bool.not_eq_true', Bool.not_eq_false', cLe, cLt, reduceCtorEq, false_implies, true_implies, implies_true, and_true, true_and])
    refine ok_of (weight_of_eq (set_inr ht)) (ok_map (fun k => decide (weight s t - W s k ≤ s.b)) (fun k hk => ?_) ?_)
    · rw [ok_iff]
      (try simp only [ok_some, ok_none, ok_bind, ok_lift1, ok_lift2, ok_lift3, ok_lift4, ok_bind2, ok_app1, ok_app2, ok_app3, ok_app4, ok_bif, ok_andG, ok_orG, ok_chain, ok_bindOut, bo_nx, bo_rt, bo_bk, bo_ct, ok_finO, fo_nx, fo_rt, nx_nx, nx_rt, ok_mul, ok_mod, ok_div, ok_appG, ok_szG, ok_catG, decide_eq_true_eq, decide_eq_false_iff_not, Bool.not_eq_true', Bool.not_eq_false', cLe, cLt, reduceCtorEq, false_implies, true_implies, implies_true, and_true, true_and])
      exact ok_of (atW (set_inr ht k hk)) rfl
    · unfold leastB
      simp [c, List.all_map]
      try rfl
theorem law_is_least_eq {s : Sack} {t : List Int} (ht : t ∈ sets (fits s)) : m__law_is_least s t = some (leastB s t) := by
  rw [ok_iff]
  unfold m__law_is_least b__law_is_least
  (try simp only [ok_some, ok_none, ok_bind, ok_lift1, ok_lift2, ok_lift3, ok_lift4, ok_bind2, ok_app1, ok_app2, ok_app3, ok_app4, ok_bif, ok_andG, ok_orG, ok_chain, ok_bindOut, bo_nx, bo_rt, bo_bk, bo_ct, ok_finO, fo_nx, fo_rt, nx_nx, nx_rt, ok_mul, ok_mod, ok_div, ok_appG, ok_szG, ok_catG, decide_eq_true_eq, decide_eq_false_iff_not, Bool.not_eq_true', Bool.not_eq_false', cLe, cLt, reduceCtorEq, false_implies, true_implies, implies_true, and_true, true_and])
  refine ok_of (law_weight_eq (set_inr ht)) ⟨fun c => ?_, fun c => ?_⟩
  · refine ok_filter (fun k => decide (s.b < weight s t - W s k)) (fun k hk => ?_) ?_
    · rw [ok_iff]
      (try simp only [ok_some, ok_none, ok_bind, ok_lift1, ok_lift2, ok_lift3, ok_lift4, ok_bind2, ok_app1, ok_app2, ok_app3, ok_app4, ok_bif, ok_andG, ok_orG, ok_chain, ok_bindOut, bo_nx, bo_rt, bo_bk, bo_ct, ok_finO, fo_nx, fo_rt, nx_nx, nx_rt, ok_mul, ok_mod, ok_div, ok_appG, ok_szG, ok_catG, decide_eq_true_eq, decide_eq_false_iff_not, Bool.not_eq_true', Bool.not_eq_false', cLe, cLt, reduceCtorEq, false_implies, true_implies, implies_true, and_true, true_and])
      exact ok_of (atW (set_inr ht k hk)) rfl
    · refine ⟨by simp, ?_⟩
      unfold leastB
      rw [decide_eq_true c, Bool.true_and, Bool.eq_iff_iff, decide_eq_true_eq, List.filter_eq_nil_iff, List.all_eq_true]
      constructor
      · intro q k hk
        have := q k hk
        simp at this ⊢; omega
      · intro q k hk
        have := q k hk
        simp at this ⊢; omega
  · unfold leastB
    simp [c]
def least (s : Sack) : List (List Int) := (sets (fits s)).filter (leastB s)
theorem least_covers_eq {s : Sack} (h : SK s) : m_least_covers s = some (least s) := by
  rw [ok_iff]
  unfold m_least_covers b_least_covers
  (try simp only [ok_some, ok_none, ok_bind, ok_lift1, ok_lift2, ok_lift3, ok_lift4, ok_bind2, ok_app1, ok_app2, ok_app3, ok_app4, ok_bif, ok_andG, ok_orG, ok_chain, ok_bindOut, bo_nx, bo_rt, bo_bk, bo_ct, ok_finO, fo_nx, fo_rt, nx_nx, nx_rt, ok_mul, ok_mod, ok_div, ok_appG, ok_szG, ok_catG, decide_eq_true_eq, decide_eq_false_iff_not, Bool.not_eq_true', Bool.not_eq_false', cLe, cLt, reduceCtorEq, false_implies, true_implies, implies_true, and_true, true_and])
  refine ok_mono (check_sack_ok h) fun _ _ => ok_of (fitting_eq h) (ok_of (sets_of_eq (fits_len h)) (ok_filter (leastB s) (fun t ht => is_least_eq h ht) (by (try simp only [ok_some, ok_none, ok_bind, ok_lift1, ok_lift2, ok_lift3, ok_lift4, ok_bind2, ok_app1, ok_app2, ok_app3, ok_app4, ok_bif, ok_andG, ok_orG, ok_chain, ok_bindOut, bo_nx, bo_rt, bo_bk, bo_ct, ok_finO, fo_nx, fo_rt, nx_nx, nx_rt, ok_mul, ok_mod, ok_div, ok_appG, ok_szG, ok_catG, decide_eq_true_eq, decide_eq_false_iff_not, Bool.not_eq_true', Bool.not_eq_false', cLe, cLt, reduceCtorEq, false_implies, true_implies, implies_true, and_true, true_and]); rfl)))
theorem least_cov {s : Sack} : (covers s).filter (leastB s) = least s := by
  unfold covers least
  rw [List.filter_filter]
  apply List.filter_congr
  intro t _
  unfold leastB
  cases decide (s.b < weight s t) <;> simp
/-! ### the rows -/
def ind (c : List Int) (k : Int) : Int := if k ∈ c then 1 else 0
def rowOf (s : Sack) (c : List Int) : List Int := (rngL 0 s.a.length).map (ind c)
theorem check_cover_ok {s : Sack} (h : SK s) {c : List Int} (hc : c ∈ covers s) : Ok (m_check_cover s c) fun _ => True := by
  unfold m_check_cover b_check_cover
  (try simp only [ok_some, ok_none, ok_bind, ok_lift1, ok_lift2, ok_lift3, ok_lift4, ok_bind2, ok_app1, ok_app2, ok_app3, ok_app4, ok_bif, ok_andG, ok_orG, ok_chain, ok_bindOut, bo_nx, bo_rt, bo_bk, bo_ct, ok_finO, fo_nx, fo_rt, nx_nx, nx_rt, ok_mul, ok_mod, ok_div, ok_appG, ok_szG, ok_catG, decide_eq_true_eq, decide_eq_false_iff_not, Bool.not_eq_true', Bool.not_eq_false', cLe, cLt, reduceCtorEq, false_implies, true_implies, implies_true, and_true, true_and])
  obtain ⟨h1, h2⟩ := covers_mem hc
  refine ok_mono (check_sack_ok h) fun _ _ => ok_of (is_cover_eq h h1) (by simp; omega)
theorem cover_row_eq {s : Sack} (h : SK s) {c : List Int} (hc : c ∈ covers s) : m_cover_row s c = some ⟨rowOf s c, c.length - 1⟩ := by
  rw [ok_iff]
  unfold m_cover_row b_cover_row
  have h2 := h.l2
  (try simp only [ok_some, ok_none, ok_bind, ok_lift1, ok_lift2, ok_lift3, ok_lift4, ok_bind2, ok_app1, ok_app2, ok_app3, ok_app4, ok_bif, ok_andG, ok_orG, ok_chain, ok_bindOut, bo_nx, bo_rt, bo_bk, bo_ct, ok_finO, fo_nx, fo_rt, nx_nx, nx_rt, ok_mul, ok_mod, ok_div, ok_appG, ok_szG, ok_catG, decide_eq_true_eq, decide_eq_false_iff_not, Bool.not_eq_true', Bool.not_eq_false', cLe, cLt, reduceCtorEq, false_implies, true_implies, implies_true, and_true, true_and])
  refine ok_mono (check_cover_ok h hc) fun _ _ => ok_rng1 (by omega) (by omega) (ok_map (ind c) (fun k hk => ?_) ?_)
  · rw [ok_iff]
    (try simp only [ok_some, ok_none, ok_bind, ok_lift1, ok_lift2, ok_lift3, ok_lift4, ok_bind2, ok_app1, ok_app2, ok_app3, ok_app4, ok_bif, ok_andG, ok_orG, ok_chain, ok_bindOut, bo_nx, bo_rt, bo_bk, bo_ct, ok_finO, fo_nx, fo_rt, nx_nx, nx_rt, ok_mul, ok_mod, ok_div, ok_appG, ok_szG, ok_catG, decide_eq_true_eq, decide_eq_false_iff_not, Bool.not_eq_true', Bool.not_eq_false', cLe, cLt, reduceCtorEq, false_implies, true_implies, implies_true, and_true, true_and])
    unfold ind
    by_cases q : k ∈ c <;> simp [q]
  · rfl
/-- the wide set by the heaviest -/
def wideP (s : Sack) (c : List Int) (m : Int) (k : Int) : Bool := decide (k ∈ c) || decide (m ≤ W s k)
def wide (s : Sack) (c : List Int) (m : Int) : List Int := (fits s).filter (wideP s c m)
theorem cover_ne {s : Sack} (h : SK s) {c : List Int} (hc : c ∈ covers s) : c ≠ [] := by
  rintro rfl
  have h1 := (covers_mem hc).2
  have h2 := h.r1
  have : weight s [] = 0 := rfl
  omega
theorem wide_row_eq {s : Sack} (h : SK s) {c : List Int} (hc : c ∈ covers s) {P : T2 (List Int) Int → Prop} (hp : ∀ m, m ∈ c.map (W s) → (∀ x, x ∈ c.map (W s) → x ≤ m) → P ⟨rowOf s (wide s c m), c.length - 1⟩) : Ok (m_wide_row s c) P := by
  unfold m_wide_row b_wide_row
  have h2 := h.l2
  have h1 := (covers_mem hc).1
  (try simp only [ok_some, ok_none, ok_bind, ok_lift1, ok_lift2, ok_lift3, ok_lift4, ok_bind2, ok_app1, ok_app2, ok_app3, ok_app4, ok_bif, ok_andG, ok_orG, ok_chain, ok_bindOut, bo_nx, bo_rt, bo_bk, bo_ct, ok_finO, fo_nx, fo_rt, nx_nx, nx_rt, ok_mul, ok_mod, ok_div, ok_appG, ok_szG, ok_catG, decide_eq_true_eq, decide_eq_false_iff_not, Bool.not_eq_true', Bool.not_eq_false', cLe, cLt, reduceCtorEq, false_implies, true_implies, implies_true, and_true, true_and])
  refine ok_mono (check_cover_ok h hc) fun _ _ => ok_map (W s) (fun k hk => ?_) (maxL_ok (by simpa using cover_ne h hc) fun m hm hx => ok_of (fitting_eq h) (ok_filter (wideP s c m) (fun k hk => ?_) (ok_rng1 (by omega) (by omega) (ok_map (ind (wide s c m)) (fun k hk => ?_) (hp m hm hx)))))
  · rw [ok_iff]
    (try simp only [ok_some, ok_none, ok_bind, ok_lift1, ok_lift2, ok_lift3, ok_lift4, ok_bind2, ok_app1, ok_app2, ok_app3, ok_app4, ok_bif, ok_andG, ok_orG, ok_chain, ok_bindOut, bo_nx, bo_rt, bo_bk, bo_ct, ok_finO, fo_nx, fo_rt, nx_nx, nx_rt, ok_mul, ok_mod, ok_div, ok_appG, ok_szG, ok_catG, decide_eq_true_eq, decide_eq_false_iff_not, Bool.not_eq_true', Bool.not_eq_false', cLe, cLt, reduceCtorEq, false_implies, true_implies, implies_true, and_true, true_and])
    exact ok_of (atW (set_inr h1 k hk)) rfl
  · rw [ok_iff]
    (try simp only [ok_some, ok_none, ok_bind, ok_lift1, ok_lift2, ok_lift3, ok_lift4, ok_bind2, ok_app1, ok_app2, ok_app3, ok_app4, ok_bif, ok_andG, ok_orG, ok_chain, ok_bindOut, bo_nx, bo_rt, bo_bk, bo_ct, ok_finO, fo_nx, fo_rt, nx_nx, nx_rt, ok_mul, ok_mod, ok_div, ok_appG, ok_szG, ok_catG, decide_eq_true_eq, decide_eq_false_iff_not, Bool.not_eq_true', Bool.not_eq_false', cLe, cLt, reduceCtorEq, false_implies, true_implies, implies_true, and_true, true_and])
    unfold wideP
    refine ⟨fun q => by simp [q], fun q => ok_of (atW (fits_mem.mp hk).1) (by simp [q])⟩
  · rw [ok_iff]
    (try simp only [ok_some, ok_none, ok_bind, ok_lift1, ok_lift2, ok_lift3, ok_lift4, ok_bind2, ok_app1, ok_app2, ok_app3, ok_app4, ok_bif, ok_andG, ok_orG, ok_chain, ok_bindOut, bo_nx, bo_rt, bo_bk, bo_ct, ok_finO, fo_nx, fo_rt, nx_nx, nx_rt, ok_mul, ok_mod, ok_div, ok_appG, ok_szG, ok_catG, decide_eq_true_eq, decide_eq_false_iff_not, Bool.not_eq_true', Bool.not_eq_false', cLe, cLt, reduceCtorEq, false_implies, true_implies, implies_true, and_true, true_and])
    rfl
/-- the exchange: what is chosen by pd has no more items than what pc chooses, if it weighs less -/
theorem exchange {s : Sack} {h : Int} {pc pd : Int → Bool} : ∀ {l : List Int}, (∀ k, k ∈ l → pd k = true → pc k = false → h ≤ W s k) → (∀ k, k ∈ l → pc k = true → W s k ≤ h) →
    h * (l.filter pd).length + weight s (l.filter pc) ≤ h * (l.filter pc).length + weight s (l.filter pd)
  | [], _, _ => by simp [weight]
  | k :: l, h1, h2 => by
    have ih := exchange (s := s) (h := h) (l := l) (fun x hx => h1 x (by simp [hx])) (fun x hx => h2 x (by simp [hx]))
    have a1 := h1 k (by simp)
    have a2 := h2 k (by simp)
    cases qd : pd k <;> cases qc : pc k
    · rw [List.filter_cons_of_neg (by simp [qd]), List.filter_cons_of_neg (by simp [qc])]; exact ih
    · rw [List.filter_cons_of_neg (by simp [qd]), List.filter_cons_of_pos qc]
      have := a2 qc
      simp only [weight, List.map_cons, List.sum_cons, List.length_cons, Int.natCast_add, Int.mul_add, Int.natCast_one, Int.mul_one] at ih ⊢
      omega
    · rw [List.filter_cons_of_pos qd, List.filter_cons_of_neg (by simp [qc])]
      have := a1 qd qc
      simp only [weight, List.map_cons, List.sum_cons, List.length_cons, Int.natCast_add, Int.mul_add, Int.natCast_one, Int.mul_one] at ih ⊢
      omega
    · rw [List.filter_cons_of_pos qd, List.filter_cons_of_pos qc]
      simp only [weight, List.map_cons, List.sum_cons, List.length_cons, Int.natCast_add, Int.mul_add, Int.natCast_one, Int.mul_one] at ih ⊢
      omega
theorem weight_filter_le {s : Sack} (h : SK s) (p : Int → Bool) : ∀ {t : List Int}, (∀ k, k ∈ t → inr s k) → weight s (t.filter p) ≤ weight s t
  | [], _ => Int.le_refl _
  | k :: t, ht => by
    have ih := weight_filter_le h p (t := t) fun x hx => ht x (by simp [hx])
    have := h.w _ (W_mem (ht k (by simp)))
    cases q : p k
    · rw [List.filter_cons_of_neg (by simp [q])]
      simp only [weight, List.map_cons, List.sum_cons] at ih ⊢
      omega
    · rw [List.filter_cons_of_pos q]
      simp only [weight, List.map_cons, List.sum_cons] at ih ⊢
      omega
/-- no packing breaks a cover's row, wide or not -/
theorem row_holds {s : Sack} (h : SK s) {c t : List Int} (hc : c ∈ covers s) (ht : t ∈ every s) {m : Int} (hm : ∀ x, x ∈ c.map (W s) → x ≤ m) (m1 : 1 ≤ m) {q : Int → Bool} (hq : ∀ k, k ∈ t → q k = true → k ∈ c ∨ m ≤ W s k) : ((t.filter q).length : Int) ≤ c.length - 1 := by
  obtain ⟨hc1, hc2⟩ := covers_mem hc
  obtain ⟨ht1, ht2⟩ := every_mem ht
  have e1 := filter_sub fits_nodup (sets_sub hc1)
  have e2 : t.filter q = (fits s).filter fun k => decide (k ∈ t) && q k := by
    have := filter_sub fits_nodup (sets_sub ht1)
    conv => lhs; rw [← this]
    rw [List.filter_filter]
    apply List.filter_congr
    intro k _
    exact Bool.and_comm ..
  have ex := exchange (s := s) (h := m) (pc := fun k => decide (k ∈ c)) (pd := fun k => decide (k ∈ t) && q k) (l := fits s) (fun k _ h1 h2 => by
      simp at h1 h2
      exact (hq k h1.1 h1.2).resolve_left h2) (fun k _ h1 => hm _ (List.mem_map.mpr ⟨k, of_decide_eq_true h1, rfl⟩))
  rw [e1, ← e2] at ex
  have w1 := weight_filter_le h q (set_inr ht1)
  have hlt : m * ((t.filter q).length : Int) < m * (c.length : Int) := by omega
  have := Int.lt_of_mul_lt_mul_left hlt (by omega)
  omega
end Lay.K46

set_option Elab.async false
set_option linter.all false
set_option maxRecDepth 100000
namespace Lay.K46
open PySem PySem.Spec PyProof.Rows L2 Lay
open Lay.Enc (enc)
/-! ### fractions -/
abbrev Q := T2 Int Int
def frac (n d : Int) : Q := ⟨n / gcdI n d, d / gcdI n d⟩
theorem gcd_pos {n d : Int} (h : 0 < d) : 0 < gcdI n d := by
  unfold gcdI
  have : 0 < Nat.gcd n.natAbs d.natAbs := Nat.gcd_pos_of_pos_right _ (by omega)
  omega
theorem gcd_dvd {n d : Int} : (∃ a, n = gcdI n d * a) ∧ ∃ b, d = gcdI n d * b := by
  unfold gcdI
  exact ⟨Int.dvd_def .. ▸ Int.ofNat_dvd_left.mpr (Nat.gcd_dvd_left _ _), Int.dvd_def .. ▸ Int.ofNat_dvd_left.mpr (Nat.gcd_dvd_right _ _)⟩
theorem gcd_scale {n d c : Int} (h : 0 < c) : gcdI (n * c) (d * c) = gcdI n d * c := by
  unfold gcdI
  rw [Int.natAbs_mul, Int.natAbs_mul, Nat.gcd_mul_right, Int.natCast_mul]
  congr 1
  omega
theorem frac_scale {n d c : Int} (h : 0 < c) : frac (n * c) (d * c) = frac n d := by
  unfold frac
  rw [gcd_scale h, Int.mul_ediv_mul_of_pos_left _ _ h, Int.mul_ediv_mul_of_pos_left _ _ h]
theorem frac_eq {n d n' d' : Int} (h : 0 < d) (h' : 0 < d') (e : n * d' = n' * d) : frac n d = frac n' d' := by
  rw [← frac_scale (n := n) (d := d) h', ← frac_scale (n := n') (d := d') h, e, Int.mul_comm d d']
theorem frac_facts {n d : Int} (h : 0 < d) : 0 < (frac n d).b ∧ (frac n d).b ≤ d ∧ (frac n d).a * d = n * (frac n d).b ∧ (frac n d).a.natAbs ≤ n.natAbs := by
  obtain ⟨⟨a, ha⟩, ⟨b, hb⟩⟩ := gcd_dvd (n := n) (d := d)
  have g := gcd_pos (n := n) h
  have e1 : (frac n d).a = a := by
    show n / gcdI n d = a
    conv => lhs; rw [ha]
    have : gcdI (gcdI n d * a) d = gcdI n d := by rw [← ha]
    rw [this, Int.mul_ediv_cancel_left _ (by omega)]
  have e2 : (frac n d).b = b := by
    show d / gcdI n d = b
    conv => lhs; rw [hb]
    have : gcdI n (gcdI n d * b) = gcdI n d := by rw [← hb]
    rw [this, Int.mul_ediv_cancel_left _ (by omega)]
  rw [e1, e2]
  generalize gcdI n d = G at *
  have hb0 : 0 < b := by
    apply Int.pos_of_mul_pos_left (b := G) (by rw [Int.mul_comm, ← hb]; exact h) (by omega) <;> skip
  refine ⟨hb0, ?_, ?_, ?_⟩
  · rw [hb]
    have := Int.mul_le_mul_of_nonneg_right (show 1 ≤ G by omega) (show 0 ≤ b by omega)
    omega
  · rw [ha, hb]
    simp only [Int.mul_assoc, Int.mul_comm, Int.mul_left_comm]
  · rw [ha, Int.natAbs_mul]
    exact Nat.le_mul_of_pos_left _ (by omega)
theorem gcd_le {n d : Int} (h : 0 < d) : gcdI n d ≤ d := by
  unfold gcdI
  have := Nat.gcd_le_right n.natAbs (n := d.natAbs) (by omega)
  omega
theorem fraction_eq {n d : Int} (h : 0 < d) (h2 : d < 2 ^ 60) : m_fraction n d = some (frac n d) := by
  rw [ok_iff]
  unfold m_fraction b_fraction
  have g := gcd_pos (n := n) h
  have g2 := gcd_le (n := n) h
  (try simp only [ok_some, ok_none, ok_bind, ok_lift1, ok_lift2, ok_lift3, ok_lift4, ok_bind2, ok_app1, ok_app2, ok_app3, ok_app4, ok_bif, ok_andG, ok_orG, ok_chain, ok_bindOut, bo_nx, bo_rt, bo_bk, bo_ct, ok_finO, fo_nx, fo_rt, nx_nx, nx_rt, ok_mul, ok_mod, ok_div, ok_appG, ok_szG, ok_catG, decide_eq_true_eq, decide_eq_false_iff_not, Bool.not_eq_true', Bool.not_eq_false', cLe, cLt, reduceCtorEq, false_implies, true_implies, implies_true, and_true, true_and])
  refine ⟨fun c => absurd c (by omega), fun _ => ⟨divOk g (by omega), divOk g (by omega), rfl⟩⟩
theorem law_fraction_eq {n d : Int} (h : 0 < d) (h2 : d < 2 ^ 60) : m__law_fraction n d = some (frac n d) := by
  rw [ok_iff]
  unfold m__law_fraction b__law_fraction
  have g := gcd_pos (n := n) h
  have g2 := gcd_le (n := n) h
  have a1 : 0 ≤ (if n < 0 then -n else n) := by split <;> omega
  have a2 : 0 ≤ (if d < 0 then -d else d) := by split <;> omega
  have a3 : ((Nat.gcd (if n < 0 then -n else n).natAbs (if d < 0 then -d else d).natAbs : Nat) : Int) = gcdI n d := by
    unfold gcdI
    have e1 : (if n < 0 then -n else n).natAbs = n.natAbs := by split <;> omega
    have e2 : (if d < 0 then -d else d).natAbs = d.natAbs := by split <;> omega
    rw [e1, e2]
  (try simp only [ok_some, ok_none, ok_bind, ok_lift1, ok_lift2, ok_lift3, ok_lift4, ok_bind2, ok_app1, ok_app2, ok_app3, ok_app4, ok_bif, ok_andG, ok_orG, ok_chain, ok_bindOut, bo_nx, bo_rt, bo_bk, bo_ct, ok_finO, fo_nx, fo_rt, nx_nx, nx_rt, ok_mul, ok_mod, ok_div, ok_appG, ok_szG, ok_catG, decide_eq_true_eq, decide_eq_false_iff_not, Bool.not_eq_true', Bool.not_eq_false', cLe, cLt, reduceCtorEq, false_implies, true_implies, implies_true, and_true, true_and])
  refine ok_while (fun s => 0 ≤ s.1 ∧ 0 ≤ s.2 ∧ ((Nat.gcd s.1.natAbs s.2.natAbs : Nat) : Int) = gcdI n d) (fun s => s.2.natAbs) (fun s hs => ?_) _ _ ⟨a1, a2, a3⟩ (by omega)
  obtain ⟨s1, s2, s3⟩ := hs
  (try simp only [ok_some, ok_none, ok_bind, ok_lift1, ok_lift2, ok_lift3, ok_lift4, ok_bind2, ok_app1, ok_app2, ok_app3, ok_app4, ok_bif, ok_andG, ok_orG, ok_chain, ok_bindOut, bo_nx, bo_rt, bo_bk, bo_ct, ok_finO, fo_nx, fo_rt, nx_nx, nx_rt, ok_mul, ok_mod, ok_div, ok_appG, ok_szG, ok_catG, decide_eq_true_eq, decide_eq_false_iff_not, Bool.not_eq_true', Bool.not_eq_false', cLe, cLt, reduceCtorEq, false_implies, true_implies, implies_true, and_true, true_and])
  refine ⟨fun c => ?_, fun c => ?_⟩
  · have hp : 0 < s.2 := by omega
    have m1 := Int.emod_nonneg s.1 (show s.2 ≠ 0 by omega)
    have m2 := Int.emod_lt_of_pos s.1 hp
    refine ⟨hp, ⟨by omega, m1, ?_⟩, by omega⟩
    rw [← s3]
    have e : (s.1 % s.2).natAbs = s.1.natAbs % s.2.natAbs := Int.natAbs_emod_of_nonneg s1 _
    rw [e, Nat.gcd_comm, ← Nat.gcd_rec, Nat.gcd_comm]
  · have z : s.2 = 0 := by
      by_cases q : s.2 = 0
      · exact q
      · simp [q] at c
    rw [z] at s3
    have e : s.1 = gcdI n d := by rw [← s3]; simp; omega
    (try simp only [ok_some, ok_none, ok_bind, ok_lift1, ok_lift2, ok_lift3, ok_lift4, ok_bind2, ok_app1, ok_app2, ok_app3, ok_app4, ok_bif, ok_andG, ok_orG, ok_chain, ok_bindOut, bo_nx, bo_rt, bo_bk, bo_ct, ok_finO, fo_nx, fo_rt, nx_nx, nx_rt, ok_mul, ok_mod, ok_div, ok_appG, ok_szG, ok_catG, decide_eq_true_eq, decide_eq_false_iff_not, Bool.not_eq_true', Bool.not_eq_false', cLe, cLt, reduceCtorEq, false_implies, true_implies, implies_true, and_true, true_and])
    rw [e]
    refine ⟨fun c => absurd c (by omega), fun _ => ⟨divOk g (by omega), divOk g (by omega), rfl⟩⟩
/-- the fraction that is x sixths -/
def Fr (x : Int) : Q := frac x 6
theorem fr_facts (x : Int) : 0 < (Fr x).b ∧ (Fr x).b ≤ 6 ∧ (Fr x).a * 6 = x * (Fr x).b ∧ (Fr x).a.natAbs ≤ x.natAbs := frac_facts (by decide)
def Sx (x : Int) : Prop := x.natAbs ≤ 1000
theorem fr_small {x : Int} (h : Sx x) : (Fr x).a.natAbs ≤ 1000 ∧ (Fr x).b.natAbs ≤ 6 := by
  obtain ⟨h1, h2, h3, h4⟩ := fr_facts x
  unfold Sx at h
  omega
theorem fr_mul {x y : Int} (hx : Sx x) (hy : Sx y) : MulOk (Fr x).a (Fr y).b ∧ MulOk (Fr y).a (Fr x).b ∧ MulOk (Fr x).b (Fr y).b := by
  have h1 := fr_small hx
  have h2 := fr_small hy
  exact ⟨mulOk (by omega) (by omega), mulOk (by omega) (by omega), mulOk (by omega) (by omega)⟩
theorem fr_prod (x y : Int) : 0 < (Fr x).b * (Fr y).b ∧ (Fr x).b * (Fr y).b ≤ 36 := by
  obtain ⟨h1, h2, _⟩ := fr_facts x
  obtain ⟨h3, h4, _⟩ := fr_facts y
  refine ⟨Int.mul_pos h1 h3, ?_⟩
  have := Int.mul_le_mul h2 h4 (by omega) (by decide)
  omega
theorem fr_sum (x y : Int) : frac ((Fr x).a * (Fr y).b + (Fr y).a * (Fr x).b) ((Fr x).b * (Fr y).b) = Fr (x + y) := by
  obtain ⟨h1, h2, h3, _⟩ := fr_facts x
  obtain ⟨h4, h5, h6, _⟩ := fr_facts y
  refine frac_eq (fr_prod x y).1 (by decide) ?_
  generalize (Fr x).a = a at *
  generalize (Fr x).b = b at *
  generalize (Fr y).a = c at *
  generalize (Fr y).b = d at *
  rw [Int.add_mul, Int.add_mul, Int.mul_right_comm a, h3, Int.mul_right_comm c, h6, Int.mul_right_comm x, Int.mul_assoc x, Int.mul_assoc y, Int.mul_comm d b]
theorem fr_sub (x y : Int) : frac ((Fr x).a * (Fr y).b - (Fr y).a * (Fr x).b) ((Fr x).b * (Fr y).b) = Fr (x - y) := by
  obtain ⟨h1, h2, h3, _⟩ := fr_facts x
  obtain ⟨h4, h5, h6, _⟩ := fr_facts y
  refine frac_eq (fr_prod x y).1 (by decide) ?_
  generalize (Fr x).a = a at *
  generalize (Fr x).b = b at *
  generalize (Fr y).a = c at *
  generalize (Fr y).b = d at *
  rw [Int.sub_mul, Int.sub_mul, Int.mul_right_comm a, h3, Int.mul_right_comm c, h6, Int.mul_right_comm x, Int.mul_assoc x, Int.mul_assoc y, Int.mul_comm d b]
theorem plus_fr {x y : Int} (hx : Sx x) (hy : Sx y) : m_plus (Fr x) (Fr y) = some (Fr (x + y)) := by
  rw [ok_iff]
  unfold m_plus b_plus
  obtain ⟨h1, h2, h3⟩ := fr_mul hx hy
  have p := fr_prod x y
  (try simp only [ok_some, ok_none, ok_bind, ok_lift1, ok_lift2, ok_lift3, ok_lift4, ok_bind2, ok_app1, ok_app2, ok_app3, ok_app4, ok_bif, ok_andG, ok_orG, ok_chain, ok_bindOut, bo_nx, bo_rt, bo_bk, bo_ct, ok_finO, fo_nx, fo_rt, nx_nx, nx_rt, ok_mul, ok_mod, ok_div, ok_appG, ok_szG, ok_catG, decide_eq_true_eq, decide_eq_false_iff_not, Bool.not_eq_true', Bool.not_eq_false', cLe, cLt, reduceCtorEq, false_implies, true_implies, implies_true, and_true, true_and])
  exact ⟨h1, h2, h3, ok_of (fraction_eq p.1 (by omega)) (fr_sum x y)⟩
theorem minus_fr {x y : Int} (hx : Sx x) (hy : Sx y) : m_minus (Fr x) (Fr y) = some (Fr (x - y)) := by
  rw [ok_iff]
  unfold m_minus b_minus
  obtain ⟨h1, h2, h3⟩ := fr_mul hx hy
  have p := fr_prod x y
  (try simp only [ok_some, ok_none, ok_bind, ok_lift1, ok_lift2, ok_lift3, ok_lift4, ok_bind2, ok_app1, ok_app2, ok_app3, ok_app4, ok_bif, ok_andG, ok_orG, ok_chain, ok_bindOut, bo_nx, bo_rt, bo_bk, bo_ct, ok_finO, fo_nx, fo_rt, nx_nx, nx_rt, ok_mul, ok_mod, ok_div, ok_appG, ok_szG, ok_catG, decide_eq_true_eq, decide_eq_false_iff_not, Bool.not_eq_true', Bool.not_eq_false', cLe, cLt, reduceCtorEq, false_implies, true_implies, implies_true, and_true, true_and])
  exact ⟨h1, h2, h3, ok_of (fraction_eq p.1 (by omega)) (fr_sub x y)⟩
theorem law_plus_fr {x y : Int} (hx : Sx x) (hy : Sx y) : m__law_plus (Fr x) (Fr y) = some (Fr (x + y)) := by
  rw [ok_iff]
  unfold m__law_plus b__law_plus
  obtain ⟨h1, h2, h3⟩ := fr_mul hx hy
  have p := fr_prod x y
  (try simp only [ok_some, ok_none, ok_bind, ok_lift1, ok_lift2, ok_lift3, ok_lift4, ok_bind2, ok_app1, ok_app2, ok_app3, ok_app4, ok_bif, ok_andG, ok_orG, ok_chain, ok_bindOut, bo_nx, bo_rt, bo_bk, bo_ct, ok_finO, fo_nx, fo_rt, nx_nx, nx_rt, ok_mul, ok_mod, ok_div, ok_appG, ok_szG, ok_catG, decide_eq_true_eq, decide_eq_false_iff_not, Bool.not_eq_true', Bool.not_eq_false', cLe, cLt, reduceCtorEq, false_implies, true_implies, implies_true, and_true, true_and])
  exact ⟨h1, h2, h3, ok_of (law_fraction_eq p.1 (by omega)) (fr_sum x y)⟩
theorem law_minus_fr {x y : Int} (hx : Sx x) (hy : Sx y) : m__law_minus (Fr x) (Fr y) = some (Fr (x - y)) := by
  rw [ok_iff]
  unfold m__law_minus b__law_minus
  obtain ⟨h1, h2, h3⟩ := fr_mul hx hy
  have s1 := fr_small hx
  have s2 := fr_small hy
  have p := fr_prod x y
  (try simp only [ok_some, ok_none, ok_bind, ok_lift1, ok_lift2, ok_lift3, ok_lift4, ok_bind2, ok_app1, ok_app2, ok_app3, ok_app4, ok_bif, ok_andG, ok_orG, ok_chain, ok_bindOut, bo_nx, bo_rt, bo_bk, bo_ct, ok_finO, fo_nx, fo_rt, nx_nx, nx_rt, ok_mul, ok_mod, ok_div, ok_appG, ok_szG, ok_catG, decide_eq_true_eq, decide_eq_false_iff_not, Bool.not_eq_true', Bool.not_eq_false', cLe, cLt, reduceCtorEq, false_implies, true_implies, implies_true, and_true, true_and])
  unfold m__law_plus b__law_plus
  (try simp only [ok_some, ok_none, ok_bind, ok_lift1, ok_lift2, ok_lift3, ok_lift4, ok_bind2, ok_app1, ok_app2, ok_app3, ok_app4, ok_bif, ok_andG, ok_orG, ok_chain, ok_bindOut, bo_nx, bo_rt, bo_bk, bo_ct, ok_finO, fo_nx, fo_rt, nx_nx, nx_rt, ok_mul, ok_mod, ok_div, ok_appG, ok_szG, ok_catG, decide_eq_true_eq, decide_eq_false_iff_not, Bool.not_eq_true', Bool.not_eq_false', cLe, cLt, reduceCtorEq, false_implies, true_implies, implies_true, and_true, true_and])
  refine ⟨h1, mulOk (by omega) (by omega), h3, ok_of (law_fraction_eq p.1 (by omega)) ?_⟩
  rw [Int.neg_mul, ← Int.sub_eq_add_neg]
  exact fr_sub x y
theorem fr_less {x y : Int} : decide ((Fr x).a * (Fr y).b < (Fr y).a * (Fr x).b) = decide (x < y) := by
  obtain ⟨h1, h2, h3, _⟩ := fr_facts x
  obtain ⟨h4, h5, h6, _⟩ := fr_facts y
  have p := (fr_prod x y).1
  rw [decide_eq_decide]
  have e1 : (Fr x).a * (Fr y).b * 6 = x * ((Fr x).b * (Fr y).b) := by rw [Int.mul_right_comm, h3, Int.mul_assoc]
  have e2 : (Fr y).a * (Fr x).b * 6 = y * ((Fr x).b * (Fr y).b) := by rw [Int.mul_right_comm, h6, Int.mul_assoc, Int.mul_comm (Fr y).b]
  have k : x * ((Fr x).b * (Fr y).b) < y * ((Fr x).b * (Fr y).b) ↔ x < y := Int.mul_lt_mul_right p
  rw [← k, ← e1, ← e2]
  omega
theorem is_less_fr {x y : Int} (hx : Sx x) (hy : Sx y) : m_is_less (Fr x) (Fr y) = some (decide (x < y)) := by
  rw [ok_iff]
  unfold m_is_less b_is_less
  obtain ⟨h1, h2, h3⟩ := fr_mul hx hy
  (try simp only [ok_some, ok_none, ok_bind, ok_lift1, ok_lift2, ok_lift3, ok_lift4, ok_bind2, ok_app1, ok_app2, ok_app3, ok_app4, ok_bif, ok_andG, ok_orG, ok_chain, ok_bindOut, bo_nx, bo_rt, bo_bk, bo_ct, ok_finO, fo_nx, fo_rt, nx_nx, nx_rt, ok_mul, ok_mod, ok_div, ok_appG, ok_szG, ok_catG, decide_eq_true_eq, decide_eq_false_iff_not, Bool.not_eq_true', Bool.not_eq_false', cLe, cLt, reduceCtorEq, false_implies, true_implies, implies_true, and_true, true_and])
  exact ⟨h1, h2, fr_less⟩
theorem law_less_fr {x y : Int} (hx : Sx x) (hy : Sx y) : m__law_less (Fr x) (Fr y) = some (decide (x < y)) := by
  rw [ok_iff]
  unfold m__law_less b__law_less
  obtain ⟨h1, h2, h3⟩ := fr_mul hx hy
  (try simp only [ok_some, ok_none, ok_bind, ok_lift1, ok_lift2, ok_lift3, ok_lift4, ok_bind2, ok_app1, ok_app2, ok_app3, ok_app4, ok_bif, ok_andG, ok_orG, ok_chain, ok_bindOut, bo_nx, bo_rt, bo_bk, bo_ct, ok_finO, fo_nx, fo_rt, nx_nx, nx_rt, ok_mul, ok_mod, ok_div, ok_appG, ok_szG, ok_catG, decide_eq_true_eq, decide_eq_false_iff_not, Bool.not_eq_true', Bool.not_eq_false', cLe, cLt, reduceCtorEq, false_implies, true_implies, implies_true, and_true, true_and])
  exact ⟨h1, h2, fr_less⟩
def Small (l : List Int) : Prop := l.length ≤ 7 ∧ ∀ x, x ∈ l → 0 ≤ x ∧ x ≤ 6
theorem small_take {l : List Int} (h : Small l) (i : Nat) : Sx (l.take i).sum := by
  have := sum_bound (l := l.take i) (a := 0) (b := 6) fun w hw => h.2 w (List.mem_of_mem_take hw)
  have h2 : (l.take i).length ≤ 7 := by rw [List.length_take]; have := h.1; omega
  unfold Sx
  omega
theorem sum_take1 {l : List Int} {i : Nat} {x : Int} (h : l[i]? = some x) : (l.take (i + 1)).sum = (l.take i).sum + x := by
  rw [List.take_add_one, h, List.sum_append]
  simp
theorem total_fr {l : List Int} (h : Small l) : m_total (l.map Fr) = some (Fr l.sum) := by
  rw [ok_iff]
  unfold m_total b_total
  (try simp only [ok_some, ok_none, ok_bind, ok_lift1, ok_lift2, ok_lift3, ok_lift4, ok_bind2, ok_app1, ok_app2, ok_app3, ok_app4, ok_bif, ok_andG, ok_orG, ok_chain, ok_bindOut, bo_nx, bo_rt, bo_bk, bo_ct, ok_finO, fo_nx, fo_rt, nx_nx, nx_rt, ok_mul, ok_mod, ok_div, ok_appG, ok_szG, ok_catG, decide_eq_true_eq, decide_eq_false_iff_not, Bool.not_eq_true', Bool.not_eq_false', cLe, cLt, reduceCtorEq, false_implies, true_implies, implies_true, and_true, true_and])
  refine ok_for (fun i s => s = Fr (l.take i).sum) (show (⟨0, 1⟩ : Q) = Fr 0 from by decide +kernel) (fun i s y hy hs => ?_) fun s hs => ?_
  · subst hs
    rw [List.getElem?_map] at hy
    cases q : l[i]? with
    | none => rw [q] at hy; cases hy
    | some x =>
      rw [q] at hy
      cases hy
      have hx := h.2 x (List.mem_of_getElem? q)
      (try simp only [ok_some, ok_none, ok_bind, ok_lift1, ok_lift2, ok_lift3, ok_lift4, ok_bind2, ok_app1, ok_app2, ok_app3, ok_app4, ok_bif, ok_andG, ok_orG, ok_chain, ok_bindOut, bo_nx, bo_rt, bo_bk, bo_ct, ok_finO, fo_nx, fo_rt, nx_nx, nx_rt, ok_mul, ok_mod, ok_div, ok_appG, ok_szG, ok_catG, decide_eq_true_eq, decide_eq_false_iff_not, Bool.not_eq_true', Bool.not_eq_false', cLe, cLt, reduceCtorEq, false_implies, true_implies, implies_true, and_true, true_and])
      exact ok_of (plus_fr (small_take h i) (by unfold Sx; omega)) (by rw [sum_take1 q])
  · subst hs
    rw [List.length_map, List.take_length]
    (try simp only [ok_some, ok_none, ok_bind, ok_lift1, ok_lift2, ok_lift3, ok_lift4, ok_bind2, ok_app1, ok_app2, ok_app3, ok_app4, ok_bif, ok_andG, ok_orG, ok_chain, ok_bindOut, bo_nx, bo_rt, bo_bk, bo_ct, ok_finO, fo_nx, fo_rt, nx_nx, nx_rt, ok_mul, ok_mod, ok_div, ok_appG, ok_szG, ok_catG, decide_eq_true_eq, decide_eq_false_iff_not, Bool.not_eq_true', Bool.not_eq_false', cLe, cLt, reduceCtorEq, false_implies, true_implies, implies_true, and_true, true_and])
theorem law_added_fr {l : List Int} (h : Small l) : m__law_added (l.map Fr) = some (Fr l.sum) := by
  rw [ok_iff]
  unfold m__law_added b__law_added
  (try simp only [ok_some, ok_none, ok_bind, ok_lift1, ok_lift2, ok_lift3, ok_lift4, ok_bind2, ok_app1, ok_app2, ok_app3, ok_app4, ok_bif, ok_andG, ok_orG, ok_chain, ok_bindOut, bo_nx, bo_rt, bo_bk, bo_ct, ok_finO, fo_nx, fo_rt, nx_nx, nx_rt, ok_mul, ok_mod, ok_div, ok_appG, ok_szG, ok_catG, decide_eq_true_eq, decide_eq_false_iff_not, Bool.not_eq_true', Bool.not_eq_false', cLe, cLt, reduceCtorEq, false_implies, true_implies, implies_true, and_true, true_and])
  refine ok_for (fun i s => s = Fr (l.take i).sum) (show (⟨0, 1⟩ : Q) = Fr 0 from by decide +kernel) (fun i s y hy hs => ?_) fun s hs => ?_
  · subst hs
    rw [List.getElem?_map] at hy
    cases q : l[i]? with
    | none => rw [q] at hy; cases hy
    | some x =>
      rw [q] at hy
      cases hy
      have hx := h.2 x (List.mem_of_getElem? q)
      (try simp only [ok_some, ok_none, ok_bind, ok_lift1, ok_lift2, ok_lift3, ok_lift4, ok_bind2, ok_app1, ok_app2, ok_app3, ok_app4, ok_bif, ok_andG, ok_orG, ok_chain, ok_bindOut, bo_nx, bo_rt, bo_bk, bo_ct, ok_finO, fo_nx, fo_rt, nx_nx, nx_rt, ok_mul, ok_mod, ok_div, ok_appG, ok_szG, ok_catG, decide_eq_true_eq, decide_eq_false_iff_not, Bool.not_eq_true', Bool.not_eq_false', cLe, cLt, reduceCtorEq, false_implies, true_implies, implies_true, and_true, true_and])
      exact ok_of (law_plus_fr (small_take h i) (by unfold Sx; omega)) (by rw [sum_take1 q])
  · subst hs
    rw [List.length_map, List.take_length]
    (try simp only [ok_some, ok_none, ok_bind, ok_lift1, ok_lift2, ok_lift3, ok_lift4, ok_bind2, ok_app1, ok_app2, ok_app3, ok_app4, ok_bif, ok_andG, ok_orG, ok_chain, ok_bindOut, bo_nx, bo_rt, bo_bk, bo_ct, ok_finO, fo_nx, fo_rt, nx_nx, nx_rt, ok_mul, ok_mod, ok_div, ok_appG, ok_szG, ok_catG, decide_eq_true_eq, decide_eq_false_iff_not, Bool.not_eq_true', Bool.not_eq_false', cLe, cLt, reduceCtorEq, false_implies, true_implies, implies_true, and_true, true_and])
end Lay.K46

set_option Elab.async false
set_option linter.all false
set_option maxRecDepth 100000
namespace Lay.K46
open PySem PySem.Spec PyProof.Rows L2 Lay
open Lay.Enc (enc)
/-! ### points -/
def PT (s : Sack) (P : List Int) : Prop := P.length = s.a.length ∧ ∀ x, x ∈ P → 0 ≤ x ∧ x ≤ 6
def pk (P : List Int) (k : Int) : Int := P.getD k.toNat 0
theorem pk_at {s : Sack} {P : List Int} (h : PT s P) {k : Int} (hk : inr s k) : P[k.toNat]? = some (pk P k) ∧ 0 ≤ pk P k ∧ pk P k ≤ 6 := by
  have : k.toNat < P.length := by have := h.1; have := hk.1; have := hk.2; omega
  have e : P[k.toNat]? = some (pk P k) := by unfold pk; simp [List.getD, List.getElem?_eq_getElem this]
  exact ⟨e, h.2 _ (List.mem_of_getElem? e)⟩
theorem atP {s : Sack} {P : List Int} (h : PT s P) {k : Int} (hk : inr s k) : atI (P.map Fr) k = some (Fr (pk P k)) := by
  rw [atI_eq hk.1 (by rw [List.length_map, h.1]; exact hk.2), List.getElem?_map, (pk_at h hk).1]; rfl
theorem fr_cases {v : Int} (h1 : 0 ≤ v) (h2 : v ≤ 6) : 0 < (Fr v).b ∧ gcdI (Fr v).a (Fr v).b = 1 ∧ 0 ≤ (Fr v).a ∧ (Fr v).a ≤ (Fr v).b := by
  have : v = 0 ∨ v = 1 ∨ v = 2 ∨ v = 3 ∨ v = 4 ∨ v = 5 ∨ v = 6 := by omega
  rcases this with h | h | h | h | h | h | h <;> subst h <;> decide +kernel
theorem enum_get {α : Type} {l : List α} {i : Nat} {y : T2 Int α} (h : (enumL l)[i]? = some y) : y.a = i ∧ l[i]? = some y.b := by
  unfold enumL at h
  rw [List.getElem?_zipWith] at h
  by_cases c : i < l.length
  · rw [List.getElem?_range c, List.getElem?_eq_getElem c] at h
    cases h
    exact ⟨rfl, List.getElem?_eq_getElem c⟩
  · rw [List.getElem?_eq_none (by rw [List.length_range]; omega)] at h
    cases h
theorem check_point_ok {s : Sack} (h : SK s) {P : List Int} (hP : PT s P) : Ok (m_check_point s (P.map Fr)) fun _ => True := by
  unfold m_check_point b_check_point
  (try simp only [ok_some, ok_none, ok_bind, ok_lift1, ok_lift2, ok_lift3, ok_lift4, ok_bind2, ok_app1, ok_app2, ok_app3, ok_app4, ok_bif, ok_andG, ok_orG, ok_chain, ok_bindOut, bo_nx, bo_rt, bo_bk, bo_ct, ok_finO, fo_nx, fo_rt, nx_nx, nx_rt, ok_mul, ok_mod, ok_div, ok_appG, ok_szG, ok_catG, decide_eq_true_eq, decide_eq_false_iff_not, Bool.not_eq_true', Bool.not_eq_false', cLe, cLt, reduceCtorEq, false_implies, true_implies, implies_true, and_true, true_and])
  refine ok_mono (check_sack_ok h) fun _ _ => ⟨fun c => absurd c (by simp [hP.1]), fun _ => ok_for (fun _ _ => True) trivial (fun i u y hy _ => ?_) fun _ _ => ?_⟩
  · have hm := (enum_get hy).2
    rw [List.getElem?_map] at hm
    cases q : P[i]? with
    | none => rw [q] at hm; cases hm
    | some v =>
      rw [q] at hm
      have e : y.b = Fr v := (Option.some.inj hm).symm
      obtain ⟨h1, h2⟩ := hP.2 v (List.mem_of_getElem? q)
      obtain ⟨f1, f2, f3, f4⟩ := fr_cases h1 h2
      have fe : m_is_fraction (Fr v) = some true := by
        rw [ok_iff]
        unfold m_is_fraction b_is_fraction
        (try simp only [ok_some, ok_none, ok_bind, ok_lift1, ok_lift2, ok_lift3, ok_lift4, ok_bind2, ok_app1, ok_app2, ok_app3, ok_app4, ok_bif, ok_andG, ok_orG, ok_chain, ok_bindOut, bo_nx, bo_rt, bo_bk, bo_ct, ok_finO, fo_nx, fo_rt, nx_nx, nx_rt, ok_mul, ok_mod, ok_div, ok_appG, ok_szG, ok_catG, decide_eq_true_eq, decide_eq_false_iff_not, Bool.not_eq_true', Bool.not_eq_false', cLe, cLt, reduceCtorEq, false_implies, true_implies, implies_true, and_true, true_and])
        exact ⟨fun _ => by simp [f2], fun c => absurd c (by omega)⟩
      (try simp only [ok_some, ok_none, ok_bind, ok_lift1, ok_lift2, ok_lift3, ok_lift4, ok_bind2, ok_app1, ok_app2, ok_app3, ok_app4, ok_bif, ok_andG, ok_orG, ok_chain, ok_bindOut, bo_nx, bo_rt, bo_bk, bo_ct, ok_finO, fo_nx, fo_rt, nx_nx, nx_rt, ok_mul, ok_mod, ok_div, ok_appG, ok_szG, ok_catG, decide_eq_true_eq, decide_eq_false_iff_not, Bool.not_eq_true', Bool.not_eq_false', cLe, cLt, reduceCtorEq, false_implies, true_implies, implies_true, and_true, true_and])
      rw [e]
      refine ok_of fe ⟨fun c => absurd c (by simp), fun _ => ⟨fun c d => d f4, fun c => c f3⟩⟩
  · (try simp only [ok_some, ok_none, ok_bind, ok_lift1, ok_lift2, ok_lift3, ok_lift4, ok_bind2, ok_app1, ok_app2, ok_app3, ok_app4, ok_bif, ok_andG, ok_orG, ok_chain, ok_bindOut, bo_nx, bo_rt, bo_bk, bo_ct, ok_finO, fo_nx, fo_rt, nx_nx, nx_rt, ok_mul, ok_mod, ok_div, ok_appG, ok_szG, ok_catG, decide_eq_true_eq, decide_eq_false_iff_not, Bool.not_eq_true', Bool.not_eq_false', cLe, cLt, reduceCtorEq, false_implies, true_implies, implies_true, and_true, true_and])
theorem map_of {m : List Q} {R : Int → Prop} : (∀ y, y ∈ m → ∃ v, y = Fr v ∧ R v) → ∃ P : List Int, m = P.map Fr ∧ P.length = m.length ∧ ∀ v, v ∈ P → R v := by
  induction m with
  | nil => exact fun _ => ⟨[], rfl, rfl, fun v h => by simp at h⟩
  | cons y m ih =>
    intro h
    obtain ⟨v, e, r⟩ := h y (by simp)
    obtain ⟨P, e1, e2, e3⟩ := ih fun z hz => h z (by simp [hz])
    refine ⟨v :: P, by rw [List.map_cons, e, e1], by simp [e2], fun w hw => ?_⟩
    rw [List.mem_cons] at hw
    rcases hw with rfl | hw
    · exact r
    · exact e3 w hw
def cnt (so : List (List Int)) (k : Int) : Int := (so.filter fun t => decide (k ∈ t)).length
theorem double_count (so : List (List Int)) : ∀ c : List Int, (c.map (cnt so)).sum = (so.map fun t => ((c.filter fun k => decide (k ∈ t)).length : Int)).sum
  | [] => by
    induction so with
    | nil => rfl
    | cons t so ih => simpa using ih
  | k :: c => by
    have ih := double_count so c
    rw [List.map_cons, List.sum_cons, ih]
    clear ih
    unfold cnt
    induction so with
    | nil => rfl
    | cons t so ih =>
      rw [List.map_cons, List.sum_cons, List.map_cons, List.sum_cons, ← ih]
      by_cases q : k ∈ t
      · rw [List.filter_cons_of_pos (by simpa using q), List.filter_cons_of_pos (by simpa using q), List.length_cons, List.length_cons]
        omega
      · rw [List.filter_cons_of_neg (by simpa using q), List.filter_cons_of_neg (by simpa using q)]
        omega
theorem every_nil {s : Sack} (h : SK s) : [] ∈ every s := by
  unfold every
  rw [List.mem_filter]
  refine ⟨sets_nil, decide_eq_true ?_⟩
  show (0 : Int) ≤ s.b
  have := h.r1; omega
theorem every_len {s : Sack} (h : SK s) : 1 ≤ (every s).length ∧ (every s).length ≤ 128 := by
  refine ⟨List.length_pos_of_mem (every_nil h), ?_⟩
  have : (every s).length ≤ (sets (fits s)).length := List.length_filter_le ..
  have := sets_len (fits_len h)
  omega
theorem both {s : Sack} {c t : List Int} (hc : c ∈ sets (fits s)) (ht : t ∈ sets (fits s)) : (c.filter fun k => decide (k ∈ t)).length = (t.filter fun k => decide (k ∈ c)).length := by
  have e1 := filter_sub fits_nodup (sets_sub hc)
  have e2 := filter_sub fits_nodup (sets_sub ht)
  conv => lhs; rw [← e1]
  conv => rhs; rw [← e2]
  rw [List.filter_filter, List.filter_filter]
  congr 2
  funext k
  exact Bool.and_comm ..
theorem fr3 : (⟨1, 2⟩ : Q) = Fr 3 := by decide +kernel
theorem fr6 : (⟨1, 1⟩ : Q) = Fr 6 := by decide +kernel
theorem fr_third (n : Int) : frac n 3 = Fr (2 * n) := frac_eq (by decide) (by decide) (by omega)
theorem fr_whole (n : Int) : (⟨n, 1⟩ : Q) = Fr (6 * n) := by
  have h := frac_eq (n := n) (d := 1) (n' := 6 * n) (d' := 6) (by decide) (by decide) (by omega)
  have e : frac n 1 = ⟨n, 1⟩ := by
    unfold frac gcdI
    simp
  rw [← e, h]; rfl
theorem law_points_ok {ds : List Int} {first : Int} {s : Sack} (hd : DB ds) (h1 : 0 ≤ first) (h2 : first < 1000) (h : SK s) : Ok (m__law_points ds first s) fun pts => ∃ P0 P1 P2, pts = [P0.map Fr, P1.map Fr, P2.map Fr] ∧ PT s P0 ∧ PT s P1 ∧ PT s P2 ∧ ∀ c, c ∈ covers s → (c.map (pk P2)).sum ≤ 6 * ((c.length : Int) - 1) := by
  unfold m__law_points b__law_points
  have l2 := h.l2
  have el := every_len h
  (try simp only [ok_some, ok_none, ok_bind, ok_lift1, ok_lift2, ok_lift3, ok_lift4, ok_bind2, ok_app1, ok_app2, ok_app3, ok_app4, ok_bif, ok_andG, ok_orG, ok_chain, ok_bindOut, bo_nx, bo_rt, bo_bk, bo_ct, ok_finO, fo_nx, fo_rt, nx_nx, nx_rt, ok_mul, ok_mod, ok_div, ok_appG, ok_szG, ok_catG, decide_eq_true_eq, decide_eq_false_iff_not, Bool.not_eq_true', Bool.not_eq_false', cLe, cLt, reduceCtorEq, false_implies, true_implies, implies_true, and_true, true_and])
  refine ok_rng1 (by omega) (by omega) (ok_allP (fun y => ∃ v, y = Fr v ∧ 0 ≤ v ∧ v ≤ 6) (fun k hk => ?_) fun m0 hm0 hq0 => ⟨by simp, ok_of (repG_of (by omega) (by omega)) ⟨by simp, ok_of (law_packings_eq h) (ok_rng1 (by decide) (by decide) (ok_allP (fun t => t ∈ every s) (fun k hk => ?_) fun so hso hqs => ok_rng1 (by omega) (by omega) (ok_map (fun k => Fr (2 * cnt so k)) (fun k hk => ?_) ⟨by simp, ?_⟩)))⟩⟩)
  · have := mem_rng.mp hk
    (try simp only [ok_some, ok_none, ok_bind, ok_lift1, ok_lift2, ok_lift3, ok_lift4, ok_bind2, ok_app1, ok_app2, ok_app3, ok_app4, ok_bif, ok_andG, ok_orG, ok_chain, ok_bindOut, bo_nx, bo_rt, bo_bk, bo_ct, ok_finO, fo_nx, fo_rt, nx_nx, nx_rt, ok_mul, ok_mod, ok_div, ok_appG, ok_szG, ok_catG, decide_eq_true_eq, decide_eq_false_iff_not, Bool.not_eq_true', Bool.not_eq_false', cLe, cLt, reduceCtorEq, false_implies, true_implies, implies_true, and_true, true_and])
    refine ok_mono (mix_ok hd (by omega) (by omega) (by decide)) fun v hv => ok_of (law_fraction_eq (by decide) (by decide)) ⟨v, rfl, by omega, by omega⟩
  · have := mem_rng.mp hk
    (try simp only [ok_some, ok_none, ok_bind, ok_lift1, ok_lift2, ok_lift3, ok_lift4, ok_bind2, ok_app1, ok_app2, ok_app3, ok_app4, ok_bif, ok_andG, ok_orG, ok_chain, ok_bindOut, bo_nx, bo_rt, bo_bk, bo_ct, ok_finO, fo_nx, fo_rt, nx_nx, nx_rt, ok_mul, ok_mod, ok_div, ok_appG, ok_szG, ok_catG, decide_eq_true_eq, decide_eq_false_iff_not, Bool.not_eq_true', Bool.not_eq_false', cLe, cLt, reduceCtorEq, false_implies, true_implies, implies_true, and_true, true_and])
    refine ok_mono (mix_ok hd (by omega) (by omega) (by omega)) fun v hv => ok_atI hv.1 hv.2 fun x _ hx => hx
  · rw [ok_iff]
    (try simp only [ok_some, ok_none, ok_bind, ok_lift1, ok_lift2, ok_lift3, ok_lift4, ok_bind2, ok_app1, ok_app2, ok_app3, ok_app4, ok_bif, ok_andG, ok_orG, ok_chain, ok_bindOut, bo_nx, bo_rt, bo_bk, bo_ct, ok_finO, fo_nx, fo_rt, nx_nx, nx_rt, ok_mul, ok_mod, ok_div, ok_appG, ok_szG, ok_catG, decide_eq_true_eq, decide_eq_false_iff_not, Bool.not_eq_true', Bool.not_eq_false', cLe, cLt, reduceCtorEq, false_implies, true_implies, implies_true, and_true, true_and])
    refine ok_filter (fun t => decide (k ∈ t)) (fun _ _ => rfl) (ok_of (law_fraction_eq (by decide) (by decide)) (fr_third _))
  · obtain ⟨P0, e0, l0, r0⟩ := map_of hq0
    rw [rng_len] at hm0 hso
    have hso : so.length = 3 := hso
    refine ⟨P0, List.replicate s.a.length 3, (rngL 0 s.a.length).map fun k => 2 * cnt so k, ?_, ⟨by omega, r0⟩, ⟨by simp, fun x hx => by rw [List.eq_of_mem_replicate hx]; decide⟩, ⟨by simp, fun x hx => ?_⟩, fun c hc => ?_⟩
    · rw [e0, List.map_replicate, ← fr3, List.map_map]
      rfl
    · obtain ⟨k, _, rfl⟩ := List.mem_map.mp hx
      have : (so.filter fun t => decide (k ∈ t)).length ≤ so.length := List.length_filter_le ..
      unfold cnt
      omega
    · have hc1 := (covers_mem hc).1
      have e : c.map (pk ((rngL 0 s.a.length).map fun k => 2 * cnt so k)) = c.map fun k => 2 * cnt so k := by
        apply List.map_congr_left
        intro k hk
        have hi := set_inr hc1 k hk
        have hlt : k.toNat < s.a.length := by have := hi.1; have := hi.2; omega
        unfold pk rngL
        simp [List.getD, hlt]
        have := hi.1
        rw [show max k 0 = k by omega]
      rw [e]
      have e2 : (c.map fun k => 2 * cnt so k).sum = 2 * (c.map (cnt so)).sum := by
        clear e hc hc1
        induction c with
        | nil => rfl
        | cons k c ih => rw [List.map_cons, List.sum_cons, ih, List.map_cons, List.sum_cons, Int.mul_add]
      rw [e2, double_count]
      have hb := sum_bound (a := 0) (b := (c.length : Int) - 1) (l := so.map fun t => ((c.filter fun k => decide (k ∈ t)).length : Int)) fun w hw => by
        obtain ⟨t, ht, rfl⟩ := List.mem_map.mp hw
        have ht := hqs t ht
        rw [both hc1 (every_mem ht).1]
        refine ⟨by omega, row_holds h hc ht (m := 50) (fun x hx => ?_) (by decide) (fun k _ hk => .inl (of_decide_eq_true hk))⟩
        obtain ⟨k, hk, rfl⟩ := List.mem_map.mp hx
        exact (h.w _ (W_mem (set_inr hc1 k hk))).2
      rw [List.length_map, hso] at hb
      have := hb.2
      omega
/-! ### the worst cover -/
def xs (P c : List Int) : List Int := c.map fun k => 6 - pk P k
def xv (P c : List Int) : Int := (xs P c).sum
theorem cov_len {s : Sack} (h : SK s) {c : List Int} (hc : c ∈ sets (fits s)) : c.length ≤ 7 := by
  have := (sets_sub hc).length_le
  have := fits_len h
  omega
theorem xs_small {s : Sack} (h : SK s) {P c : List Int} (hP : PT s P) (hc : c ∈ sets (fits s)) : Small (xs P c) := by
  refine ⟨by unfold xs; rw [List.length_map]; exact cov_len h hc, fun x hx => ?_⟩
  obtain ⟨k, hk, rfl⟩ := List.mem_map.mp hx
  have := (pk_at hP (set_inr hc k hk)).2
  omega
theorem xv_sx {s : Sack} (h : SK s) {P c : List Int} (hP : PT s P) (hc : c ∈ sets (fits s)) : Sx (xv P c) := by
  have := small_take (xs_small h hP hc) (xs P c).length
  rw [List.take_length] at this
  exact this
def updI (P : List Int) (b : Option (Int × List Int)) (c : List Int) : Option (Int × List Int) := match b with
  | none => some (xv P c, c)
  | some p => if xv P c < p.1 then some (xv P c, c) else some p
def best (P : List Int) (cs : List (List Int)) : Option (Int × List Int) := cs.foldl (updI P) none
def eb (b : Option (Int × List Int)) : Option (T2 Q (List Int)) := b.map fun p => ⟨Fr p.1, p.2⟩
theorem best_snoc {P : List Int} {cs : List (List Int)} {c : List Int} : best P (cs ++ [c]) = updI P (best P cs) c := by unfold best; rw [List.foldl_append]; rfl
theorem best_fact (P : List Int) (cs : List (List Int)) : (∀ p, best P cs = some p → p.2 ∈ cs ∧ p.1 = xv P p.2) ∧ ∀ c, c ∈ cs → ∃ p, best P cs = some p ∧ p.1 ≤ xv P c := by
  have key : ∀ (n : Nat) (cs : List (List Int)), cs.length = n → (∀ p, best P cs = some p → p.2 ∈ cs ∧ p.1 = xv P p.2) ∧ ∀ c, c ∈ cs → ∃ p, best P cs = some p ∧ p.1 ≤ xv P c := by
    intro n
    induction n with
    | zero =>
      intro cs hl
      have : cs = [] := List.eq_nil_of_length_eq_zero hl
      subst this
      exact ⟨fun p h => (by cases h), fun c h => (by simp at h)⟩
    | succ n ih =>
      intro cs hl
      have hne : cs ≠ [] := by intro c; subst c; simp at hl
      rw [← List.dropLast_concat_getLast hne]
      generalize cs.getLast hne = c
      obtain ⟨h1, h2⟩ := ih cs.dropLast (by rw [List.length_dropLast]; omega)
      rw [best_snoc]
      generalize cs.dropLast = ds at *
      cases q : best P ds with
      | none =>
        refine ⟨fun p hp => ?_, fun d hd => ?_⟩
        · cases hp; exact ⟨by simp, rfl⟩
        · rw [List.mem_append, List.mem_singleton] at hd
          rcases hd with hd | rfl
          · obtain ⟨p, e, _⟩ := h2 d hd; rw [q] at e; cases e
          · exact ⟨_, rfl, Int.le_refl _⟩
      | some p0 =>
        obtain ⟨m0, v0⟩ := h1 p0 q
        unfold updI
        by_cases lt : xv P c < p0.1
        · rw [show (match some p0 with | none => some (xv P c, c) | some p => if xv P c < p.1 then some (xv P c, c) else some p) = some (xv P c, c) from if_pos lt]
          refine ⟨fun p hp => ?_, fun d hd => ⟨_, rfl, ?_⟩⟩
          · cases hp; exact ⟨by simp, rfl⟩
          · rw [List.mem_append, List.mem_singleton] at hd
            rcases hd with hd | rfl
            · obtain ⟨p, e, le⟩ := h2 d hd; rw [q] at e; cases e
              show xv P c ≤ _; omega
            · exact Int.le_refl _
        · rw [show (match some p0 with | none => some (xv P c, c) | some p => if xv P c < p.1 then some (xv P c, c) else some p) = some p0 from if_neg lt]
          refine ⟨fun p hp => ?_, fun d hd => ⟨_, rfl, ?_⟩⟩
          · cases hp; exact ⟨by simp [m0], v0⟩
          · rw [List.mem_append, List.mem_singleton] at hd
            rcases hd with hd | rfl
            · obtain ⟨p, e, le⟩ := h2 d hd; rw [q] at e; cases e; exact le
            · omega
  exact key cs.length cs rfl
end Lay.K46

set_option Elab.async false
set_option linter.all false
set_option maxRecDepth 100000
namespace Lay.K46
open PySem PySem.Spec PyProof.Rows L2 Lay
open Lay.Enc (enc)
theorem take_filter {α : Type} {l : List α} {p : α → Bool} {i : Nat} {x : α} (h : l[i]? = some x) : (l.take (i + 1)).filter p = (l.take i).filter p ++ if p x = true then [x] else [] := by
  rw [List.take_add_one, h, List.filter_append]
  congr 1
  cases q : p x
  · simp [q]
  · simp [q]
theorem eb_none {P : List Int} : eb (best P []) = none := rfl
theorem xs_map {P c : List Int} : (xs P c).map Fr = c.map fun k => Fr (6 - pk P k) := by unfold xs; rw [List.map_map]; rfl
theorem upd_ok {s : Sack} (h : SK s) {P : List Int} (hP : PT s P) {cs : List (List Int)} (hcs : ∀ c, c ∈ cs → c ∈ sets (fits s)) {c : List Int} (hc : c ∈ sets (fits s)) {R : Bool → Prop}
    (h1 : best P cs = none ∨ (∃ p, best P cs = some p ∧ xv P c < p.1) → R true) (h2 : ∀ p, best P cs = some p → ¬ xv P c < p.1 → R false) : ((eb (best P cs)).isNone = true → R true) ∧ ((eb (best P cs)).isNone = false → Ok (eb (best P cs)) fun b => Ok (m_is_less (Fr (xv P c)) b.a) R ∧ Ok (m__law_less (Fr (xv P c)) b.a) R) := by
  cases q : best P cs with
  | none => exact ⟨fun _ => h1 (.inl q), fun c => (by cases c)⟩
  | some p =>
    refine ⟨fun c => (by cases c), fun _ => ⟨_, rfl, ?_⟩⟩
    obtain ⟨m0, v0⟩ := (best_fact P cs).1 p q
    have sx : Sx p.1 := by rw [v0]; exact xv_sx h hP (hcs _ m0)
    have r : R (decide (xv P c < p.1)) := by
      by_cases lt : xv P c < p.1
      · rw [decide_eq_true lt]; exact h1 (.inr ⟨p, q, lt⟩)
      · rw [decide_eq_false lt]; exact h2 p q lt
    exact ⟨ok_of (is_less_fr (xv_sx h hP hc) sx) r, ok_of (law_less_fr (xv_sx h hP hc) sx) r⟩
theorem upd_yes {P : List Int} {cs : List (List Int)} {c : List Int} (h : best P cs = none ∨ ∃ p, best P cs = some p ∧ xv P c < p.1) : eb (best P (cs ++ [c])) = some ⟨Fr (xv P c), c⟩ := by
  rw [best_snoc]
  rcases h with h | ⟨p, h, lt⟩
  · rw [h]; rfl
  · rw [h]
    show eb (if xv P c < p.1 then some (xv P c, c) else some p) = _
    rw [if_pos lt]; rfl
theorem upd_no {P : List Int} {cs : List (List Int)} {c : List Int} {p : Int × List Int} (h : best P cs = some p) (lt : ¬ xv P c < p.1) : eb (best P (cs ++ [c])) = eb (best P cs) := by
  rw [best_snoc, h]
  show eb (if xv P c < p.1 then some (xv P c, c) else some p) = _
  rw [if_neg lt]
theorem worst_cover_eq {s : Sack} (h : SK s) {P : List Int} (hP : PT s P) : m_worst_cover s (P.map Fr) = some (eb (best P (covers s))) := by
  rw [ok_iff]
  unfold m_worst_cover b_worst_cover
  (try simp only [ok_some, ok_none, ok_bind, ok_lift1, ok_lift2, ok_lift3, ok_lift4, ok_bind2, ok_app1, ok_app2, ok_app3, ok_app4, ok_bif, ok_andG, ok_orG, ok_chain, ok_bindOut, bo_nx, bo_rt, bo_bk, bo_ct, ok_finO, fo_nx, fo_rt, nx_nx, nx_rt, ok_mul, ok_mod, ok_div, ok_appG, ok_szG, ok_catG, decide_eq_true_eq, decide_eq_false_iff_not, Bool.not_eq_true', Bool.not_eq_false', cLe, cLt, reduceCtorEq, false_implies, true_implies, implies_true, and_true, true_and])
  refine ok_mono (check_point_ok h hP) fun _ _ => ok_of (fitting_eq h) (ok_of (sets_of_eq (fits_len h)) (ok_for (fun i b => b = eb (best P (((sets (fits s)).take i).filter fun t => decide (s.b < weight s t)))) rfl (fun i b c hx hb => ?_) fun b hb => ?_))
  · subst hb
    have hc := List.mem_of_getElem? hx
    rw [take_filter hx]
    have hcs : ∀ c, c ∈ ((sets (fits s)).take i).filter (fun t => decide (s.b < weight s t)) → c ∈ sets (fits s) := fun c hc => List.mem_of_mem_take (List.mem_filter.mp hc |>.1)
    generalize ((sets (fits s)).take i).filter (fun t => decide (s.b < weight s t)) = cs at hcs ⊢
    (try simp only [ok_some, ok_none, ok_bind, ok_lift1, ok_lift2, ok_lift3, ok_lift4, ok_bind2, ok_app1, ok_app2, ok_app3, ok_app4, ok_bif, ok_andG, ok_orG, ok_chain, ok_bindOut, bo_nx, bo_rt, bo_bk, bo_ct, ok_finO, fo_nx, fo_rt, nx_nx, nx_rt, ok_mul, ok_mod, ok_div, ok_appG, ok_szG, ok_catG, decide_eq_true_eq, decide_eq_false_iff_not, Bool.not_eq_true', Bool.not_eq_false', cLe, cLt, reduceCtorEq, false_implies, true_implies, implies_true, and_true, true_and])
    refine ok_of (is_cover_eq h hc) ⟨fun w => ?_, fun w => ?_⟩
    · rw [if_pos (of_decide_eq_true w)]
      refine ok_map (fun k => Fr (6 - pk P k)) (fun k hk => ?_) ?_
      · rw [ok_iff]
        (try simp only [ok_some, ok_none, ok_bind, ok_lift1, ok_lift2, ok_lift3, ok_lift4, ok_bind2, ok_app1, ok_app2, ok_app3, ok_app4, ok_bif, ok_andG, ok_orG, ok_chain, ok_bindOut, bo_nx, bo_rt, bo_bk, bo_ct, ok_finO, fo_nx, fo_rt, nx_nx, nx_rt, ok_mul, ok_mod, ok_div, ok_appG, ok_szG, ok_catG, decide_eq_true_eq, decide_eq_false_iff_not, Bool.not_eq_true', Bool.not_eq_false', cLe, cLt, reduceCtorEq, false_implies, true_implies, implies_true, and_true, true_and])
        have hi := set_inr hc k hk
        have := (pk_at hP hi).2
        rw [fr6]
        exact ok_of (atP hP hi) (ok_of (minus_fr (by unfold Sx; omega) (by unfold Sx; omega)) rfl)
      · rw [← xs_map]
        refine ok_of (total_fr (xs_small h hP hc)) ?_
        have u := upd_ok h hP hcs hc (R := fun t => (t = true → some (⟨Fr (xv P c), c⟩ : T2 Q (List Int)) = eb (best P (cs ++ [c]))) ∧ (t = false → eb (best P cs) = eb (best P (cs ++ [c])))) (fun h => ⟨fun _ => (upd_yes h).symm, fun c => (by cases c)⟩) (fun p h lt => ⟨fun c => (by cases c), fun _ => (upd_no h lt).symm⟩)
        refine ⟨fun q => (u.1 q).1 rfl, fun q => ok_mono (u.2 q) fun b hb => ok_mono hb.1 fun t ht => ht⟩
    · rw [if_neg (of_decide_eq_false w), List.append_nil]
  · subst hb
    rw [List.take_length]
    (try simp only [ok_some, ok_none, ok_bind, ok_lift1, ok_lift2, ok_lift3, ok_lift4, ok_bind2, ok_app1, ok_app2, ok_app3, ok_app4, ok_bif, ok_andG, ok_orG, ok_chain, ok_bindOut, bo_nx, bo_rt, bo_bk, bo_ct, ok_finO, fo_nx, fo_rt, nx_nx, nx_rt, ok_mul, ok_mod, ok_div, ok_appG, ok_szG, ok_catG, decide_eq_true_eq, decide_eq_false_iff_not, Bool.not_eq_true', Bool.not_eq_false', cLe, cLt, reduceCtorEq, false_implies, true_implies, implies_true, and_true, true_and])
    rfl
end Lay.K46

set_option Elab.async false
set_option linter.all false
set_option maxRecDepth 100000
namespace Lay.K46
open PySem PySem.Spec PyProof.Rows L2 Lay
open Lay.Enc (enc)
theorem rp_ints {l : List Int} (h : ∀ k, k ∈ l → 0 ≤ k ∧ k ≤ 1000) (n : Nat) (hl : l.length ≤ n) : Rp.sm l ∧ Rp.len l ≤ n * 21 + 3 := by
  refine ⟨fun k hk => ?_, ?_⟩
  · have := h k hk
    show k.natAbs < 10 ^ 18
    omega
  · have := len_list (α := Int) 19 l fun _ _ => Nat.le_refl _
    have := Nat.mul_le_mul_right 21 hl
    omega
theorem rp_sack {s : Sack} (h : SK s) : reprD (enc s) = some (enc s : PyData).shown := by
  have h2 := h.l2
  have h3 := h.r1
  have h4 := h.r2
  obtain ⟨a, b⟩ := rp_ints (l := s.a) (fun w hw => by have := h.w w hw; omega) 7 h2
  have sm : Rp.sm s := ⟨a, by show s.b.natAbs < 10 ^ 18; omega⟩
  refine repr_ok sm ?_
  show Rp.len s.a + 19 + 7 ≤ _
  omega
theorem set_k {s : Sack} (h : SK s) {t : List Int} (ht : t ∈ sets (fits s)) : t.length ≤ 7 ∧ ∀ k, k ∈ t → 0 ≤ k ∧ k ≤ 1000 :=
  ⟨cov_len h ht, fun k hk => by have := set_inr ht k hk; have := h.l2; unfold inr at *; omega⟩
theorem rp_sets {s : Sack} (h : SK s) {L : List (List Int)} (hl : L.length ≤ 128) (hL : ∀ t, t ∈ L → t ∈ sets (fits s)) : reprD (enc L) = some (enc L : PyData).shown := by
  refine repr_ok (fun t ht => ?_) ?_
  · exact (rp_ints (set_k h (hL t ht)).2 7 (set_k h (hL t ht)).1).1
  · have := len_list (α := List Int) 150 L fun t ht => (rp_ints (set_k h (hL t ht)).2 7 (set_k h (hL t ht)).1).2
    have := Nat.mul_le_mul_right 152 hl
    omega
theorem covers_len {s : Sack} (h : SK s) : (covers s).length ≤ 128 := by
  have : (covers s).length ≤ (sets (fits s)).length := List.length_filter_le ..
  have := sets_len (fits_len h)
  omega
theorem least_len {s : Sack} (h : SK s) : (least s).length ≤ 128 := by
  have : (least s).length ≤ (sets (fits s)).length := List.length_filter_le ..
  have := sets_len (fits_len h)
  omega
theorem mem_cut {α : Type} {l : List α} {a b : Option Int} {x : α} (h : x ∈ cutL l a b) : x ∈ l := List.mem_of_mem_drop (List.mem_of_mem_take h)
theorem law_by_eq {s : Sack} {c t : List Int} (ht : ∀ k, k ∈ t → inr s k) : m__law_by (rowOf s c) t = some ((t.filter fun k => decide (k ∈ c)).length : Int) := by
  rw [ok_iff]
  unfold m__law_by b__law_by
  (try simp only [ok_some, ok_none, ok_bind, ok_lift1, ok_lift2, ok_lift3, ok_lift4, ok_bind2, ok_app1, ok_app2, ok_app3, ok_app4, ok_bif, ok_andG, ok_orG, ok_chain, ok_bindOut, bo_nx, bo_rt, bo_bk, bo_ct, ok_finO, fo_nx, fo_rt, nx_nx, nx_rt, ok_mul, ok_mod, ok_div, ok_appG, ok_szG, ok_catG, decide_eq_true_eq, decide_eq_false_iff_not, Bool.not_eq_true', Bool.not_eq_false', cLe, cLt, reduceCtorEq, false_implies, true_implies, implies_true, and_true, true_and])
  refine ok_map (ind c) (fun k hk => ?_) ?_
  · rw [ok_iff]
    (try simp only [ok_some, ok_none, ok_bind, ok_lift1, ok_lift2, ok_lift3, ok_lift4, ok_bind2, ok_app1, ok_app2, ok_app3, ok_app4, ok_bif, ok_andG, ok_orG, ok_chain, ok_bindOut, bo_nx, bo_rt, bo_bk, bo_ct, ok_finO, fo_nx, fo_rt, nx_nx, nx_rt, ok_mul, ok_mod, ok_div, ok_appG, ok_szG, ok_catG, decide_eq_true_eq, decide_eq_false_iff_not, Bool.not_eq_true', Bool.not_eq_false', cLe, cLt, reduceCtorEq, false_implies, true_implies, implies_true, and_true, true_and])
    have hi := ht k hk
    have hlt : k.toNat < s.a.length := by have := hi.1; have := hi.2; omega
    have e : atI (rowOf s c) k = some (ind c k) := by
      rw [atI_eq hi.1 (by unfold rowOf; simp; exact hi.2)]
      unfold rowOf rngL
      have := hi.1
      simp [hlt]
      congr 1
      omega
    exact ok_of e rfl
  · (try simp only [ok_some, ok_none, ok_bind, ok_lift1, ok_lift2, ok_lift3, ok_lift4, ok_bind2, ok_app1, ok_app2, ok_app3, ok_app4, ok_bif, ok_andG, ok_orG, ok_chain, ok_bindOut, bo_nx, bo_rt, bo_bk, bo_ct, ok_finO, fo_nx, fo_rt, nx_nx, nx_rt, ok_mul, ok_mod, ok_div, ok_appG, ok_szG, ok_catG, decide_eq_true_eq, decide_eq_false_iff_not, Bool.not_eq_true', Bool.not_eq_false', cLe, cLt, reduceCtorEq, false_implies, true_implies, implies_true, and_true, true_and])
    clear ht
    induction t with
    | nil => rfl
    | cons k t ih =>
      rw [List.map_cons, List.sum_cons, ih]
      unfold ind
      by_cases q : k ∈ c
      · rw [if_pos q, List.filter_cons_of_pos (by simpa using q), List.length_cons]; omega
      · rw [if_neg q, List.filter_cons_of_neg (by simpa using q)]; omega
theorem wide_mem {s : Sack} {c : List Int} {m k : Int} : k ∈ wide s c m ↔ (inr s k ∧ W s k ≤ s.b) ∧ (k ∈ c ∨ m ≤ W s k) := by
  unfold wide wideP
  rw [List.mem_filter, fits_mem]
  simp
theorem rp_pt {s : Sack} (h : SK s) {P : List Int} (hP : PT s P) : reprD (enc (P.map Fr)) = some (enc (P.map Fr) : PyData).shown := by
  have h2 := h.l2
  refine repr_ok (fun q hq => ?_) ?_
  · obtain ⟨x, hx, rfl⟩ := List.mem_map.mp hq
    have := hP.2 x hx
    have := fr_small (x := x) (by unfold Sx; omega)
    exact ⟨by show (Fr x).a.natAbs < 10 ^ 18; omega, by show (Fr x).b.natAbs < 10 ^ 18; omega⟩
  · have := len_list (α := Q) 45 (P.map Fr) fun _ _ => Nat.le_refl _
    rw [List.length_map, hP.1] at this
    have := Nat.mul_le_mul_right 47 h2
    omega
theorem rp_best {s : Sack} (h : SK s) {P : List Int} (hP : PT s P) : reprD (enc (eb (best P (covers s)))) = some (enc (eb (best P (covers s))) : PyData).shown := by
  have key : ∀ x, eb (best P (covers s)) = some x → Rp.sm x ∧ Rp.len x ≤ 1000 := by
    intro x hx
    cases q : best P (covers s) with
    | none => rw [q] at hx; cases hx
    | some p =>
      rw [q] at hx
      cases hx
      obtain ⟨m0, v0⟩ := (best_fact P (covers s)).1 p q
      have m1 := (covers_mem m0).1
      have sx : Sx p.1 := by rw [v0]; exact xv_sx h hP m1
      have := fr_small sx
      obtain ⟨a, b⟩ := rp_ints (set_k h m1).2 7 (set_k h m1).1
      refine ⟨⟨⟨by show (Fr p.1).a.natAbs < 10 ^ 18; omega, by show (Fr p.1).b.natAbs < 10 ^ 18; omega⟩, a⟩, ?_⟩
      show 19 + 19 + 7 + Rp.len p.2 + 7 ≤ 1000
      omega
  refine repr_ok (fun x hx => (key x hx).1) ?_
  cases q : eb (best P (covers s)) with
  | none => show 4 ≤ 16777216; decide
  | some x =>
    have := (key x q).2
    show Rp.len x ≤ 16777216
    omega
def ps (P c : List Int) : Int := (c.map (pk P)).sum
theorem xv_ps {P : List Int} : ∀ {c : List Int}, xv P c = 6 * c.length - ps P c
  | [] => rfl
  | k :: c => by
    have ih := xv_ps (P := P) (c := c)
    unfold xv xs ps at ih ⊢
    rw [List.map_cons, List.sum_cons, ih, List.map_cons, List.sum_cons, List.length_cons]
    omega
theorem ps_small {s : Sack} (h : SK s) {P c : List Int} (hP : PT s P) (hc : c ∈ sets (fits s)) : Small (c.map (pk P)) := by
  refine ⟨by rw [List.length_map]; exact cov_len h hc, fun x hx => ?_⟩
  obtain ⟨k, hk, rfl⟩ := List.mem_map.mp hx
  exact (pk_at hP (set_inr hc k hk)).2
/-- the row's cut is seen by a cover just where the least cover says so -/
theorem parted_eq {P : List Int} {cs : List (List Int)} : (∃ c, c ∈ cs ∧ 6 * ((c.length : Int) - 1) < ps P c) ↔ ∃ p, best P cs = some p ∧ p.1 < 6 := by
  obtain ⟨b1, b2⟩ := best_fact P cs
  constructor
  · rintro ⟨c, hc, h⟩
    obtain ⟨p, e, le⟩ := b2 c hc
    have := xv_ps (P := P) (c := c)
    exact ⟨p, e, by omega⟩
  · rintro ⟨p, e, lt⟩
    obtain ⟨m, v⟩ := b1 p e
    have := xv_ps (P := P) (c := p.2)
    exact ⟨p.2, m, by omega⟩
theorem pts_get {s : Sack} {P0 P1 P2 : List Int} {i : Nat} (h0 : PT s P0) (h1 : PT s P1) (h2 : PT s P2) (hp : ∀ c, c ∈ covers s → ps P2 c ≤ 6 * ((c.length : Int) - 1)) (hi : i < 3) : ∃ P, atI [P0.map Fr, P1.map Fr, P2.map Fr] (0 + (i : Int)) = some (P.map Fr) ∧ PT s P ∧ (i = 2 → ∀ c, c ∈ covers s → ps P c ≤ 6 * ((c.length : Int) - 1)) := by
  have : i = 0 ∨ i = 1 ∨ i = 2 := by omega
  rcases this with rfl | rfl | rfl
  · exact ⟨P0, rfl, h0, fun c => (by cases c)⟩
  · exact ⟨P1, rfl, h1, fun c => (by cases c)⟩
  · exact ⟨P2, rfl, h2, fun _ => hp⟩
theorem law_true (ns : List Int) (h : ns.length ≤ 63) : m_law ns = some true := by
  rw [ok_iff]
  unfold m_law b_law
  (try simp only [ok_some, ok_none, ok_bind, ok_lift1, ok_lift2, ok_lift3, ok_lift4, ok_bind2, ok_app1, ok_app2, ok_app3, ok_app4, ok_bif, ok_andG, ok_orG, ok_chain, ok_bindOut, bo_nx, bo_rt, bo_bk, bo_ct, ok_finO, fo_nx, fo_rt, nx_nx, nx_rt, ok_mul, ok_mod, ok_div, ok_appG, ok_szG, ok_catG, decide_eq_true_eq, decide_eq_false_iff_not, Bool.not_eq_true', Bool.not_eq_false', cLe, cLt, reduceCtorEq, false_implies, true_implies, implies_true, and_true, true_and])
  refine ok_mono (draws_ok ns h) fun ds hd => ok_rng1 (by decide) (by decide) (ok_for (fun _ _ => True) trivial (fun i u y hy _ => ?_) fun _ _ => ?_)
  · obtain ⟨hi, rfl⟩ := rng_get hy
    have hi : i < 2 := hi
    (try simp only [ok_some, ok_none, ok_bind, ok_lift1, ok_lift2, ok_lift3, ok_lift4, ok_bind2, ok_app1, ok_app2, ok_app3, ok_app4, ok_bif, ok_andG, ok_orG, ok_chain, ok_bindOut, bo_nx, bo_rt, bo_bk, bo_ct, ok_finO, fo_nx, fo_rt, nx_nx, nx_rt, ok_mul, ok_mod, ok_div, ok_appG, ok_szG, ok_catG, decide_eq_true_eq, decide_eq_false_iff_not, Bool.not_eq_true', Bool.not_eq_false', cLe, cLt, reduceCtorEq, false_implies, true_implies, implies_true, and_true, true_and])
    refine ⟨mulOk (by decide) (by omega), by simp, ok_mono (mix_ok hd (by decide) (by decide) (by decide)) fun a ha => ok_atI (by split <;> decide) (by split <;> decide) fun b _ hb => ⟨by simp, ok_atI (by omega) (by simp; omega) fun most _ hm => ?_⟩⟩
    have hmost : 1 ≤ most ∧ most ≤ 7 := by
      simp at hb hm
      omega
    refine ok_mono (sack_ok hd (by omega) (by omega) hmost.1 hmost.2) fun s hs => ?_
    have l2 := hs.l2
    have cl := covers_len hs
    refine ok_of (rp_sack hs) (ok_of (law_packings_eq hs) (ok_of (law_fits_eq hs) (ok_of (law_sets_eq (fits_len hs)) (ok_filter (fun t => decide (s.b < weight s t)) (fun t ht => ?_) ?_))))
    · rw [ok_iff]
      (try simp only [ok_some, ok_none, ok_bind, ok_lift1, ok_lift2, ok_lift3, ok_lift4, ok_bind2, ok_app1, ok_app2, ok_app3, ok_app4, ok_bif, ok_andG, ok_orG, ok_chain, ok_bindOut, bo_nx, bo_rt, bo_bk, bo_ct, ok_finO, fo_nx, fo_rt, nx_nx, nx_rt, ok_mul, ok_mod, ok_div, ok_appG, ok_szG, ok_catG, decide_eq_true_eq, decide_eq_false_iff_not, Bool.not_eq_true', Bool.not_eq_false', cLe, cLt, reduceCtorEq, false_implies, true_implies, implies_true, and_true, true_and])
      exact ok_of (law_weight_eq (set_inr ht)) rfl
    refine ok_of (packings_eq hs) (ok_of (least_covers_eq hs) (ok_of (rp_sets hs (every_len hs).2 fun t ht => (every_mem ht).1) (ok_of (rp_sets hs (every_len hs).2 fun t ht => (every_mem ht).1) ⟨fun c => absurd rfl c, fun _ => ?_⟩)))
    refine ok_of (rp_sets hs (least_len hs) fun t ht => (List.mem_filter.mp ht).1) (ok_filter (leastB s) (fun t ht => law_is_least_eq (List.mem_filter.mp ht).1) ?_)
    rw [show (List.filter (fun t => decide (s.b < weight s t)) (sets (fits s))) = covers s from rfl, least_cov]
    refine ok_of (rp_sets hs (least_len hs) fun t ht => (List.mem_filter.mp ht).1) ⟨fun c => absurd rfl c, fun _ => ⟨by simp, by have := every_len hs; omega, by simp, by have := least_len hs; omega, ok_for (fun _ _ => True) trivial (fun j u c hc _ => ?_) fun _ _ => ?_⟩⟩
    · have hc := mem_cut (List.mem_of_getElem? hc)
      (try simp only [ok_some, ok_none, ok_bind, ok_lift1, ok_lift2, ok_lift3, ok_lift4, ok_bind2, ok_app1, ok_app2, ok_app3, ok_app4, ok_bif, ok_andG, ok_orG, ok_chain, ok_bindOut, bo_nx, bo_rt, bo_bk, bo_ct, ok_finO, fo_nx, fo_rt, nx_nx, nx_rt, ok_mul, ok_mod, ok_div, ok_appG, ok_szG, ok_catG, decide_eq_true_eq, decide_eq_false_iff_not, Bool.not_eq_true', Bool.not_eq_false', cLe, cLt, reduceCtorEq, false_implies, true_implies, implies_true, and_true, true_and])
      refine ok_of (cover_row_eq hs hc) (wide_row_eq hs hc fun m hm hx => ?_)
      have hne : c.map (W s) ≠ [] := by simpa using cover_ne hs hc
      have hc1 := (covers_mem hc).1
      refine ok_map (W s) (fun k hk => ?_) (maxL_ok hne fun m' hm' hx' => ok_rng1 (by omega) (by omega) (ok_map (ind (wide s c m)) (fun k hk => ?_) (ok_rng1 (by omega) (by omega) (ok_map (ind c) (fun k hk => ?_) ⟨fun q => absurd rfl q, fun _ => ⟨fun q => absurd rfl q, fun _ => ok_for (fun _ _ => True) trivial (fun _ _ t ht _ => ?_) fun _ _ => ?_⟩⟩))))
      · rw [ok_iff]
        (try simp only [ok_some, ok_none, ok_bind, ok_lift1, ok_lift2, ok_lift3, ok_lift4, ok_bind2, ok_app1, ok_app2, ok_app3, ok_app4, ok_bif, ok_andG, ok_orG, ok_chain, ok_bindOut, bo_nx, bo_rt, bo_bk, bo_ct, ok_finO, fo_nx, fo_rt, nx_nx, nx_rt, ok_mul, ok_mod, ok_div, ok_appG, ok_szG, ok_catG, decide_eq_true_eq, decide_eq_false_iff_not, Bool.not_eq_true', Bool.not_eq_false', cLe, cLt, reduceCtorEq, false_implies, true_implies, implies_true, and_true, true_and])
        exact ok_of (atW (set_inr hc1 k hk)) rfl
      · have mm : m' = m := Int.le_antisymm (hx m' hm') (hx' m hm)
        subst mm
        have hk := mem_rng.mp hk
        have hi : inr s k := ⟨by omega, by omega⟩
        rw [ok_iff]
        (try simp only [ok_some, ok_none, ok_bind, ok_lift1, ok_lift2, ok_lift3, ok_lift4, ok_bind2, ok_app1, ok_app2, ok_app3, ok_app4, ok_bif, ok_andG, ok_orG, ok_chain, ok_bindOut, bo_nx, bo_rt, bo_bk, bo_ct, ok_finO, fo_nx, fo_rt, nx_nx, nx_rt, ok_mul, ok_mod, ok_div, ok_appG, ok_szG, ok_catG, decide_eq_true_eq, decide_eq_false_iff_not, Bool.not_eq_true', Bool.not_eq_false', cLe, cLt, reduceCtorEq, false_implies, true_implies, implies_true, and_true, true_and])
        have wm := wide_mem (s := s) (c := c) (m := m') (k := k)
        unfold ind
        refine ⟨fun q => ?_, fun q => ok_of (atW hi) ⟨fun a => ?_, fun a => ?_⟩⟩
        · have : k ∈ wide s c m' := wm.mpr ⟨fits_mem.mp ((sets_sub hc1).subset q), .inl q⟩
          simp [this]
        · by_cases r : W s k ≤ s.b
          · have : k ∈ wide s c m' := wm.mpr ⟨⟨hi, r⟩, .inr a⟩
            simp [this, r]
          · have : ¬ k ∈ wide s c m' := fun z => r (wm.mp z).1.2
            simp [this, r]
        · have : ¬ k ∈ wide s c m' := fun z => (wm.mp z).2.elim q a
          simp [this]
      · rw [ok_iff]
        (try simp only [ok_some, ok_none, ok_bind, ok_lift1, ok_lift2, ok_lift3, ok_lift4, ok_bind2, ok_app1, ok_app2, ok_app3, ok_app4, ok_bif, ok_andG, ok_orG, ok_chain, ok_bindOut, bo_nx, bo_rt, bo_bk, bo_ct, ok_finO, fo_nx, fo_rt, nx_nx, nx_rt, ok_mul, ok_mod, ok_div, ok_appG, ok_szG, ok_catG, decide_eq_true_eq, decide_eq_false_iff_not, Bool.not_eq_true', Bool.not_eq_false', cLe, cLt, reduceCtorEq, false_implies, true_implies, implies_true, and_true, true_and])
        unfold ind
        rfl
      · have ht := List.mem_of_getElem? ht
        have hi := set_inr (every_mem ht).1
        have m1 : 1 ≤ m := by
          obtain ⟨k, hk, rfl⟩ := List.mem_map.mp hm
          exact (hs.w _ (W_mem (set_inr hc1 k hk))).1
        have r1 := row_holds hs hc ht hx m1 (q := fun k => decide (k ∈ c)) fun k _ hk => .inl (of_decide_eq_true hk)
        have r2 := row_holds hs hc ht hx m1 (q := fun k => decide (k ∈ wide s c m)) fun k _ hk => (wide_mem.mp (of_decide_eq_true hk)).2
        (try simp only [ok_some, ok_none, ok_bind, ok_lift1, ok_lift2, ok_lift3, ok_lift4, ok_bind2, ok_app1, ok_app2, ok_app3, ok_app4, ok_bif, ok_andG, ok_orG, ok_chain, ok_bindOut, bo_nx, bo_rt, bo_bk, bo_ct, ok_finO, fo_nx, fo_rt, nx_nx, nx_rt, ok_mul, ok_mod, ok_div, ok_appG, ok_szG, ok_catG, decide_eq_true_eq, decide_eq_false_iff_not, Bool.not_eq_true', Bool.not_eq_false', cLe, cLt, reduceCtorEq, false_implies, true_implies, implies_true, and_true, true_and])
        exact ok_of (law_by_eq hi) ⟨fun q => absurd q (by omega), fun _ => ok_of (law_by_eq hi) (by omega)⟩
      · (try simp only [ok_some, ok_none, ok_bind, ok_lift1, ok_lift2, ok_lift3, ok_lift4, ok_bind2, ok_app1, ok_app2, ok_app3, ok_app4, ok_bif, ok_andG, ok_orG, ok_chain, ok_bindOut, bo_nx, bo_rt, bo_bk, bo_ct, ok_finO, fo_nx, fo_rt, nx_nx, nx_rt, ok_mul, ok_mod, ok_div, ok_appG, ok_szG, ok_catG, decide_eq_true_eq, decide_eq_false_iff_not, Bool.not_eq_true', Bool.not_eq_false', cLe, cLt, reduceCtorEq, false_implies, true_implies, implies_true, and_true, true_and])
    · (try simp only [ok_some, ok_none, ok_bind, ok_lift1, ok_lift2, ok_lift3, ok_lift4, ok_bind2, ok_app1, ok_app2, ok_app3, ok_app4, ok_bif, ok_andG, ok_orG, ok_chain, ok_bindOut, bo_nx, bo_rt, bo_bk, bo_ct, ok_finO, fo_nx, fo_rt, nx_nx, nx_rt, ok_mul, ok_mod, ok_div, ok_appG, ok_szG, ok_catG, decide_eq_true_eq, decide_eq_false_iff_not, Bool.not_eq_true', Bool.not_eq_false', cLe, cLt, reduceCtorEq, false_implies, true_implies, implies_true, and_true, true_and])
      refine ⟨mulOk (by decide) (by omega), ok_mono (law_points_ok hd (by omega) (by omega) hs) fun pts ⟨P0, P1, P2, e, h0, h1, h2, hp⟩ => ?_⟩
      subst e
      refine ok_rng1 (by decide) (by decide) (ok_for (fun _ _ => True) trivial (fun t u z hz _ => ?_) fun _ _ => ?_)
      · obtain ⟨ht, rfl⟩ := rng_get hz
        have ht : t < 3 := ht
        obtain ⟨P, eP, hP, hP2⟩ := pts_get h0 h1 h2 hp ht
        (try simp only [ok_some, ok_none, ok_bind, ok_lift1, ok_lift2, ok_lift3, ok_lift4, ok_bind2, ok_app1, ok_app2, ok_app3, ok_app4, ok_bif, ok_andG, ok_orG, ok_chain, ok_bindOut, bo_nx, bo_rt, bo_bk, bo_ct, ok_finO, fo_nx, fo_rt, nx_nx, nx_rt, ok_mul, ok_mod, ok_div, ok_appG, ok_szG, ok_catG, decide_eq_true_eq, decide_eq_false_iff_not, Bool.not_eq_true', Bool.not_eq_false', cLe, cLt, reduceCtorEq, false_implies, true_implies, implies_true, and_true, true_and])
        refine ok_of eP (ok_of (rp_pt hs hP) (ok_map (fun c => Fr (xv P c)) (fun c hc => ?_) (ok_rng1 (by omega) (by omega) (ok_for (fun i b => b = eb (best P ((covers s).take i))) rfl (fun i b k hk hb => ?_) fun b hb => ?_))))
        · have hc1 := (covers_mem hc).1
          rw [ok_iff]
          (try simp only [ok_some, ok_none, ok_bind, ok_lift1, ok_lift2, ok_lift3, ok_lift4, ok_bind2, ok_app1, ok_app2, ok_app3, ok_app4, ok_bif, ok_andG, ok_orG, ok_chain, ok_bindOut, bo_nx, bo_rt, bo_bk, bo_ct, ok_finO, fo_nx, fo_rt, nx_nx, nx_rt, ok_mul, ok_mod, ok_div, ok_appG, ok_szG, ok_catG, decide_eq_true_eq, decide_eq_false_iff_not, Bool.not_eq_true', Bool.not_eq_false', cLe, cLt, reduceCtorEq, false_implies, true_implies, implies_true, and_true, true_and])
          refine ok_map (fun k => Fr (6 - pk P k)) (fun k hk => ?_) ?_
          · rw [ok_iff]
            (try simp only [ok_some, ok_none, ok_bind, ok_lift1, ok_lift2, ok_lift3, ok_lift4, ok_bind2, ok_app1, ok_app2, ok_app3, ok_app4, ok_bif, ok_andG, ok_orG, ok_chain, ok_bindOut, bo_nx, bo_rt, bo_bk, bo_ct, ok_finO, fo_nx, fo_rt, nx_nx, nx_rt, ok_mul, ok_mod, ok_div, ok_appG, ok_szG, ok_catG, decide_eq_true_eq, decide_eq_false_iff_not, Bool.not_eq_true', Bool.not_eq_false', cLe, cLt, reduceCtorEq, false_implies, true_implies, implies_true, and_true, true_and])
            have hi := set_inr hc1 k hk
            have := (pk_at hP hi).2
            rw [fr6]
            exact ok_of (atP hP hi) (ok_of (law_minus_fr (by unfold Sx; omega) (by unfold Sx; omega)) rfl)
          · rw [← xs_map]
            exact ok_of (law_added_fr (xs_small hs hP hc1)) rfl
        · subst hb
          obtain ⟨hi, rfl⟩ := rng_get hk
          have hi : i < (covers s).length := by omega
          have hx : (covers s)[i]? = some (covers s)[i] := List.getElem?_eq_getElem hi
          have hc := List.mem_of_getElem? hx
          generalize (covers s)[i] = c at hx hc
          have hc1 := (covers_mem hc).1
          have a1 : atI ((covers s).map fun c => Fr (xv P c)) (0 + (i : Int)) = some (Fr (xv P c)) := by
            rw [atI_eq (by omega) (by rw [List.length_map]; omega), List.getElem?_map, show (0 + (i : Int)).toNat = i by omega, hx]; rfl
          have a2 : atI (covers s) (0 + (i : Int)) = some c := by
            rw [atI_eq (by omega) (by omega), show (0 + (i : Int)).toNat = i by omega, hx]
          rw [List.take_add_one, hx]
          have hcs : ∀ c, c ∈ (covers s).take i → c ∈ sets (fits s) := fun c hc => (covers_mem (List.mem_of_mem_take hc)).1
          show Ok _ (Nx fun b => b = eb (best P ((covers s).take i ++ [c])))
          generalize (covers s).take i = cs at hcs ⊢
          (try simp only [ok_some, ok_none, ok_bind, ok_lift1, ok_lift2, ok_lift3, ok_lift4, ok_bind2, ok_app1, ok_app2, ok_app3, ok_app4, ok_bif, ok_andG, ok_orG, ok_chain, ok_bindOut, bo_nx, bo_rt, bo_bk, bo_ct, ok_finO, fo_nx, fo_rt, nx_nx, nx_rt, ok_mul, ok_mod, ok_div, ok_appG, ok_szG, ok_catG, decide_eq_true_eq, decide_eq_false_iff_not, Bool.not_eq_true', Bool.not_eq_false', cLe, cLt, reduceCtorEq, false_implies, true_implies, implies_true, and_true, true_and])
          have u := upd_ok hs hP hcs hc1 (R := fun t => (t = true → some (⟨Fr (xv P c), c⟩ : T2 Q (List Int)) = eb (best P (cs ++ [c]))) ∧ (t = false → eb (best P cs) = eb (best P (cs ++ [c])))) (fun h => ⟨fun _ => (upd_yes h).symm, fun c => (by cases c)⟩) (fun p h lt => ⟨fun c => (by cases c), fun _ => (upd_no h lt).symm⟩)
          refine ⟨fun q => ok_of a1 (ok_of a2 ((u.1 q).1 rfl)), fun q => ok_of a1 (ok_mono (u.2 q) fun b hb => ok_mono hb.2 fun t ht => ⟨fun w => ok_of a1 (ok_of a2 (ht.1 w)), ht.2⟩)⟩
        · subst hb
          rw [show (Int.toNat ((covers s).length : Int)) = (covers s).length by omega, rng_len, List.take_length]
          (try simp only [ok_some, ok_none, ok_bind, ok_lift1, ok_lift2, ok_lift3, ok_lift4, ok_bind2, ok_app1, ok_app2, ok_app3, ok_app4, ok_bif, ok_andG, ok_orG, ok_chain, ok_bindOut, bo_nx, bo_rt, bo_bk, bo_ct, ok_finO, fo_nx, fo_rt, nx_nx, nx_rt, ok_mul, ok_mod, ok_div, ok_appG, ok_szG, ok_catG, decide_eq_true_eq, decide_eq_false_iff_not, Bool.not_eq_true', Bool.not_eq_false', cLe, cLt, reduceCtorEq, false_implies, true_implies, implies_true, and_true, true_and])
          refine ok_of (worst_cover_eq hs hP) (ok_of (rp_best hs hP) (ok_of (rp_best hs hP) ⟨fun q => absurd rfl q, fun _ => ok_of (rp_pt hs hP) ⟨fun q => absurd rfl q, fun _ => ok_filter (fun c => decide (6 * ((c.length : Int) - 1) < ps P c)) (fun c hc => ?_) ⟨by simp, ?_⟩⟩⟩))
          · have hc1 := (covers_mem hc).1
            have sm := ps_small hs hP hc1
            have cl7 := cov_len hs hc1
            rw [ok_iff]
            (try simp only [ok_some, ok_none, ok_bind, ok_lift1, ok_lift2, ok_lift3, ok_lift4, ok_bind2, ok_app1, ok_app2, ok_app3, ok_app4, ok_bif, ok_andG, ok_orG, ok_chain, ok_bindOut, bo_nx, bo_rt, bo_bk, bo_ct, ok_finO, fo_nx, fo_rt, nx_nx, nx_rt, ok_mul, ok_mod, ok_div, ok_appG, ok_szG, ok_catG, decide_eq_true_eq, decide_eq_false_iff_not, Bool.not_eq_true', Bool.not_eq_false', cLe, cLt, reduceCtorEq, false_implies, true_implies, implies_true, and_true, true_and])
            refine ok_map (fun k => Fr (pk P k)) (fun k hk => ?_) ?_
            · rw [ok_iff]
              (try simp only [ok_some, ok_none, ok_bind, ok_lift1, ok_lift2, ok_lift3, ok_lift4, ok_bind2, ok_app1, ok_app2, ok_app3, ok_app4, ok_bif, ok_andG, ok_orG, ok_chain, ok_bindOut, bo_nx, bo_rt, bo_bk, bo_ct, ok_finO, fo_nx, fo_rt, nx_nx, nx_rt, ok_mul, ok_mod, ok_div, ok_appG, ok_szG, ok_catG, decide_eq_true_eq, decide_eq_false_iff_not, Bool.not_eq_true', Bool.not_eq_false', cLe, cLt, reduceCtorEq, false_implies, true_implies, implies_true, and_true, true_and])
              exact ok_of (atP hP (set_inr hc1 k hk)) rfl
            · rw [show (c.map fun k => Fr (pk P k)) = (c.map (pk P)).map Fr by rw [List.map_map]; rfl]
              have sx := small_take sm (c.map (pk P)).length
              rw [List.take_length] at sx
              refine ok_of (law_added_fr sm) ?_
              rw [fr_whole]
              exact ok_of (law_less_fr (by unfold Sx; omega) sx) rfl
          · have e := parted_eq (P := P) (cs := covers s)
            generalize hL : (covers s).filter (fun c => decide (6 * ((c.length : Int) - 1) < ps P c)) = L
            have eL : L ≠ [] ↔ ∃ p, best P (covers s) = some p ∧ p.1 < 6 := by
              rw [← e, ← hL]
              constructor
              · intro q
                obtain ⟨c, hc⟩ := List.exists_mem_of_ne_nil _ q
                rw [List.mem_filter] at hc
                exact ⟨c, hc.1, of_decide_eq_true hc.2⟩
              · rintro ⟨c, hc, lt⟩ q
                have : c ∈ (covers s).filter (fun c => decide (6 * ((c.length : Int) - 1) < ps P c)) := List.mem_filter.mpr ⟨hc, decide_eq_true lt⟩
                rw [q] at this
                simp at this
            have nt : t = 2 → L = [] := by
              intro t2
              by_cases q : L = []
              · exact q
              · obtain ⟨c, hc, lt⟩ := e.mpr (eL.mp q)
                have := hP2 t2 c hc
                omega
            have last : 0 + (t : Int) = 2 → ¬ L = [] → False := fun a b => b (nt (by omega))
            cases q : best P (covers s) with
            | none =>
              have nL : L = [] := by
                by_cases z : L = []
                · exact z
                · obtain ⟨p, e1, _⟩ := eL.mp z
                  rw [q] at e1; cases e1
              exact ⟨fun c => (by cases c), fun _ => ⟨fun c => (by rw [decide_eq_true nL] at c; cases c), fun _ => last⟩⟩
            | some p =>
              obtain ⟨m0, v0⟩ := (best_fact P (covers s)).1 p q
              have sx : Sx p.1 := by rw [v0]; exact xv_sx hs hP (covers_mem m0).1
              refine ⟨fun _ => ⟨_, rfl, ?_⟩, fun c => (by cases c)⟩
              rw [fr6]
              refine ok_of (law_less_fr sx (by unfold Sx; omega)) ⟨fun c => ?_, fun _ => last⟩
              by_cases z : L = []
              · have : ¬ p.1 < 6 := fun lt => eL.mpr ⟨p, q, lt⟩ z
                rw [decide_eq_true z, decide_eq_false this] at c
                cases c
              · obtain ⟨p', e1, lt⟩ := eL.mp z
                rw [q] at e1
                cases e1
                rw [decide_eq_false z, decide_eq_true lt] at c
                cases c
      · (try simp only [ok_some, ok_none, ok_bind, ok_lift1, ok_lift2, ok_lift3, ok_lift4, ok_bind2, ok_app1, ok_app2, ok_app3, ok_app4, ok_bif, ok_andG, ok_orG, ok_chain, ok_bindOut, bo_nx, bo_rt, bo_bk, bo_ct, ok_finO, fo_nx, fo_rt, nx_nx, nx_rt, ok_mul, ok_mod, ok_div, ok_appG, ok_szG, ok_catG, decide_eq_true_eq, decide_eq_false_iff_not, Bool.not_eq_true', Bool.not_eq_false', cLe, cLt, reduceCtorEq, false_implies, true_implies, implies_true, and_true, true_and])
        exact ok_of (packings_eq hs) (ok_of (rp_sets hs (every_len hs).2 fun t ht => (every_mem ht).1) (ok_of (rp_sets hs (every_len hs).2 fun t ht => (every_mem ht).1) ⟨fun q => absurd rfl q, fun _ => ok_of (rp_sack hs) fun q => absurd rfl q⟩))
  · (try simp only [ok_some, ok_none, ok_bind, ok_lift1, ok_lift2, ok_lift3, ok_lift4, ok_bind2, ok_app1, ok_app2, ok_app3, ok_app4, ok_bif, ok_andG, ok_orG, ok_chain, ok_bindOut, bo_nx, bo_rt, bo_bk, bo_ct, ok_finO, fo_nx, fo_rt, nx_nx, nx_rt, ok_mul, ok_mod, ok_div, ok_appG, ok_szG, ok_catG, decide_eq_true_eq, decide_eq_false_iff_not, Bool.not_eq_true', Bool.not_eq_false', cLe, cLt, reduceCtorEq, false_implies, true_implies, implies_true, and_true, true_and])
end Lay.K46

open PySem PySem.W PyProof.Rows
set_option maxHeartbeats 0 in
theorem PySem.Challenge.cw_wholebest_k46_covers_and_the_worst_one_holds : PySem.Challenge.rw_wholebest_k46_covers_and_the_worst_one.Holds := by
  w_on; o_law; k_head; (case hw => w_witness2)
  k_fill
  refine Lay.law_walk (l := PySem.Challenge.rw_wholebest_k46_covers_and_the_worst_one) (n := 63) (k := 5) (x := "script") (sp := fun K => Lay.spR K false Lay.K46.m_law) rfl (by decide) rfl ⟨rfl, by decide, by decide⟩ (fun w h Y => PySem.W.kIn_of Y) ?F (fun K H a ns hl hO hS => Lay.law_sp Lay.K46.law_true K H a ns hl hO hS)
  case F =>
    intro w mg fa h KX G hmg
    refine' Lay.K46.all_mk KX G hmg ?a0 ?l0 ?c0 ?k0 ?a1 ?l1 ?c1 ?k1 ?a2 ?l2 ?c2 ?k2 ?a3 ?l3 ?c3 ?k3 ?a4 ?l4 ?c4 ?k4 ?a5 ?l5 ?c5 ?k5 ?a6 ?l6 ?c6 ?k6 ?a7 ?l7 ?c7 ?k7 ?a8 ?l8 ?c8 ?k8 ?a9 ?l9 ?c9 ?k9 ?a10 ?l10 ?c10 ?k10 ?a11 ?l11 ?c11 ?k11 ?a12 ?l12 ?c12 ?k12 ?a13 ?l13 ?c13 ?k13 ?a14 ?l14 ?c14 ?k14 ?a15 ?l15 ?c15 ?k15 ?a16 ?l16 ?c16 ?k16 ?a17 ?l17 ?c17 ?k17 ?a18 ?l18 ?c18 ?k18 ?a19 ?l19 ?c19 ?k19 ?a20 ?l20 ?c20 ?k20 ?a21 ?l21 ?c21 ?k21 ?a22 ?l22 ?c22 ?k22 ?a23 ?l23 ?c23 ?k23 ?a24 ?l24 ?c24 ?k24 ?a25 ?l25 ?c25 ?k25 ?a26 ?l26 ?c26 ?k26 ?a27 ?l27 ?c27 ?k27 ?a28 ?l28 ?c28 ?k28 ?a29 ?l29 ?c29 ?k29 ?a30 ?l30 ?c30 ?k30 ?a31 ?l31 ?c31 ?k31 ?a32 ?l32 ?c32 ?k32 ?a33 ?l33 ?c33 ?k33 ?a34 ?l34 ?c34 ?k34 ?a35 ?l35 ?c35 ?k35 ?z0 ?z1 ?z2 ?z3 ?z4 ?z5 ?z6 ?z7 ?z8 ?z9 ?z10 ?z11 ?z12 ?z13 ?z14
    (case a0 => k_is)
    (case l0 => k_is)
    (case c0 => k_is)
    (case k0 => k_is)
    (case a1 => k_is)
    (case l1 => k_is)
    (case c1 => k_is)
    (case k1 => k_is)
    (case a2 => k_is)
    (case l2 => k_is)
    (case c2 => k_is)
    (case k2 => k_is)
    (case a3 => k_is)
    (case l3 => k_is)
    (case c3 => k_is)
    (case k3 => k_is)
    (case a4 => k_is)
    (case l4 => k_is)
    (case c4 => k_is)
    (case k4 => k_is)
    (case a5 => k_is)
    (case l5 => k_is)
    (case c5 => k_is)
    (case k5 => k_is)
    (case a6 => k_is)
    (case l6 => k_is)
    (case c6 => k_is)
    (case k6 => k_is)
    (case a7 => k_is)
    (case l7 => k_is)
    (case c7 => k_is)
    (case k7 => k_is)
    (case a8 => k_is)
    (case l8 => k_is)
    (case c8 => k_is)
    (case k8 => k_is)
    (case a9 => k_is)
    (case l9 => k_is)
    (case c9 => k_is)
    (case k9 => k_is)
    (case a10 => k_is)
    (case l10 => k_is)
    (case c10 => k_is)
    (case k10 => k_is)
    (case a11 => k_is)
    (case l11 => k_is)
    (case c11 => k_is)
    (case k11 => k_is)
    (case a12 => k_is)
    (case l12 => k_is)
    (case c12 => k_is)
    (case k12 => k_is)
    (case a13 => k_is)
    (case l13 => k_is)
    (case c13 => k_is)
    (case k13 => k_is)
    (case a14 => k_is)
    (case l14 => k_is)
    (case c14 => k_is)
    (case k14 => k_is)
    (case a15 => k_is)
    (case l15 => k_is)
    (case c15 => k_is)
    (case k15 => k_is)
    (case a16 => k_is)
    (case l16 => k_is)
    (case c16 => k_is)
    (case k16 => k_is)
    (case a17 => k_is)
    (case l17 => k_is)
    (case c17 => k_is)
    (case k17 => k_is)
    (case a18 => k_is)
    (case l18 => k_is)
    (case c18 => k_is)
    (case k18 => k_is)
    (case a19 => k_is)
    (case l19 => k_is)
    (case c19 => k_is)
    (case k19 => k_is)
    (case a20 => k_is)
    (case l20 => k_is)
    (case c20 => k_is)
    (case k20 => k_is)
    (case a21 => k_is)
    (case l21 => k_is)
    (case c21 => k_is)
    (case k21 => k_is)
    (case a22 => k_is)
    (case l22 => k_is)
    (case c22 => k_is)
    (case k22 => k_is)
    (case a23 => k_is)
    (case l23 => k_is)
    (case c23 => k_is)
    (case k23 => k_is)
    (case a24 => k_is)
    (case l24 => k_is)
    (case c24 => k_is)
    (case k24 => k_is)
    (case a25 => k_is)
    (case l25 => k_is)
    (case c25 => k_is)
    (case k25 => k_is)
    (case a26 => k_is)
    (case l26 => k_is)
    (case c26 => k_is)
    (case k26 => k_is)
    (case a27 => k_is)
    (case l27 => k_is)
    (case c27 => k_is)
    (case k27 => k_is)
    (case a28 => k_is)
    (case l28 => k_is)
    (case c28 => k_is)
    (case k28 => k_is)
    (case a29 => k_is)
    (case l29 => k_is)
    (case c29 => k_is)
    (case k29 => k_is)
    (case a30 => k_is)
    (case l30 => k_is)
    (case c30 => k_is)
    (case k30 => k_is)
    (case a31 => k_is)
    (case l31 => k_is)
    (case c31 => k_is)
    (case k31 => k_is)
    (case a32 => k_is)
    (case l32 => k_is)
    (case c32 => k_is)
    (case k32 => k_is)
    (case a33 => k_is)
    (case l33 => k_is)
    (case c33 => k_is)
    (case k33 => k_is)
    (case a34 => k_is)
    (case l34 => k_is)
    (case c34 => k_is)
    (case k34 => k_is)
    (case a35 => k_is)
    (case l35 => k_is)
    (case c35 => k_is)
    (case k35 => k_is)
    (case z0 => k_is)
    (case z1 => k_is)
    (case z2 => k_is)
    (case z3 => k_is)
    (case z4 => k_is)
    (case z5 => k_is)
    (case z6 => k_is)
    (case z7 => k_is)
    (case z8 => k_is)
    (case z9 => k_is)
    (case z10 => k_is)
    (case z11 => k_is)
    (case z12 => k_is)
    (case z13 => k_is)
    (case z14 => k_is)
