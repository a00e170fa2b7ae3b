import PyProof.Rows.All
import Wide.All
import OpenK.AllK
import Wide.FinOn
import HandS.ForMost
import HandS.Wide
import HandS.Star
import HandS.ExcCtx
import HandS.Zip
import HandS.SortInts
import HandS.TupAny
import HandS.Deep
import KE.GoesMore
import KE.GoesEnum
import HandS.Gcd
import HandS.Conv
import KE.SortData
import HandS.NoneIn
import HandS.Style
import HandS.TupMul
import HandS.HotCalls
import HandS.Comp
import KE.KExcIs
import HandS.ExcIs
import HandS.ExcField
import KE.KExcSuper
import KE.KSuper
import HandS.ExcInit
import HandS.Nested
import HandS.Flow
import KE.KRevSl
import PySem.Challenge.RW_wholebest_k42_errors_of_sure
set_option Elab.async false
set_option linter.all false
set_option maxRecDepth 100000
/-! Lay1: typed data over HandS: what slots hold, expressions, statements. -/
namespace Lay
open PySem PySem.Spec PyProof.Rows L2

/-! ### typed data -/
class Enc (α : Type) where
  enc : α → PyData
open Enc (enc)
instance : Enc Int := ⟨PyData.int⟩
instance : Enc Bool := ⟨PyData.bool⟩
instance : Enc Str := ⟨PyData.str⟩
instance : Enc Unit := ⟨fun _ => PyData.none⟩
instance {α : Type} [Enc α] : Enc (List α) := ⟨fun l => PyData.list (l.map enc)⟩
instance {α : Type} [Enc α] : Enc (Option α) := ⟨fun o => match o with | none => PyData.none | some x => enc x⟩
/-- a tuple of any length -/
structure Tup (α : Type) where
  l : List α
  deriving DecidableEq
instance {α : Type} [Enc α] : Enc (Tup α) := ⟨fun t => PyData.tuple (t.l.map enc)⟩
structure T2 (α β : Type) where
  a : α
  b : β
  deriving DecidableEq
structure T3 (α β γ : Type) where
  a : α
  b : β
  c : γ
  deriving DecidableEq
structure T4 (α β γ δ : Type) where
  a : α
  b : β
  c : γ
  d : δ
  deriving DecidableEq
instance {α β : Type} [Enc α] [Enc β] : Enc (T2 α β) := ⟨fun t => PyData.tuple [enc t.a, enc t.b]⟩
instance {α β γ : Type} [Enc α] [Enc β] [Enc γ] : Enc (T3 α β γ) := ⟨fun t => PyData.tuple [enc t.a, enc t.b, enc t.c]⟩
instance {α β γ δ : Type} [Enc α] [Enc β] [Enc γ] [Enc δ] : Enc (T4 α β γ δ) := ⟨fun t => PyData.tuple [enc t.a, enc t.b, enc t.c, enc t.d]⟩

/-! ### the data at a value: lists and tuples that are tracked (or known) -/
mutual
inductive Dq (H : Hp) : V → PyData → Prop
  | non : Dq H .non .none
  | bl (b : Bool) : Dq H (.bl b) (.bool b)
  | int (i : Int) : Dq H (.int i) (.int i)
  | str (x : Str) : Dq H (.str x) (.str x)
  | lst {a : Addr} {xs : List V} {ds : List PyData} : Rd H a (.lst xs) → DqAll H xs ds → Dq H (.ref a) (.list ds)
  | tup {a : Addr} {xs : List V} {ds : List PyData} : Rd H a (.tup xs) → DqAll H xs ds → Dq H (.ref a) (.tuple ds)
inductive DqAll (H : Hp) : List V → List PyData → Prop
  | nil : DqAll H [] []
  | cons {v : V} {vs : List V} {d : PyData} {ds : List PyData} : Dq H v d → DqAll H vs ds → DqAll H (v :: vs) (d :: ds)
end
theorem rd_mono {H H' : Hp} {a : Addr} {u : HO} (e : Same H H') (h : Rd H a u) : Rd H' a u := h.imp (e _ _) fun ⟨o, q⟩ => ⟨o, e _ _ q⟩
mutual
theorem Dq_mono {H H' : Hp} (e : Same H H') : ∀ (d : PyData) (v : V), Dq H v d → Dq H' v d
  | .none, _, h => by cases h; exact .non
  | .bool b, _, h => by cases h; exact .bl _
  | .int i, _, h => by cases h; exact .int _
  | .str x, _, h => by cases h; exact .str _
  | .list ds, _, h => by cases h with | lst h1 h2 => exact .lst (rd_mono e h1) (DqAll_mono e _ _ h2)
  | .tuple ds, _, h => by cases h with | tup h1 h2 => exact .tup (rd_mono e h1) (DqAll_mono e _ _ h2)
  | .dict _, _, h => by cases h
theorem DqAll_mono {H H' : Hp} (e : Same H H') : ∀ (ds : List PyData) (vs : List V), DqAll H vs ds → DqAll H' vs ds
  | [], _, h => by cases h; exact .nil
  | d :: ds, _, h => by cases h with | cons h1 h2 => exact .cons (Dq_mono e _ _ h1) (DqAll_mono e _ _ h2)
end
mutual
theorem Dq_dp {K : PySem.W.Frag} {H : Hp} : ∀ (d : PyData) (v : V), Dq H v d → Dp K H v d
  | .none, _, h => by cases h; exact .non
  | .bool b, _, h => by cases h; exact .bl _
  | .int i, _, h => by cases h; exact .int _
  | .str x, _, h => by cases h; exact .str _
  | .list ds, _, h => by cases h with | lst h1 h2 => exact .lst (.inl h1) (DqAll_dp _ _ h2)
  | .tuple ds, _, h => by cases h with | tup h1 h2 => exact .tup (.inl h1) (DqAll_dp _ _ h2)
  | .dict _, _, h => by cases h
theorem DqAll_dp {K : PySem.W.Frag} {H : Hp} : ∀ (ds : List PyData) (vs : List V), DqAll H vs ds → DpAll K H vs ds
  | [], _, h => by cases h; exact .nil
  | d :: ds, _, h => by cases h with | cons h1 h2 => exact .cons (Dq_dp _ _ h1) (DqAll_dp _ _ h2)
end
section
variable {H H' : Hp}
theorem DqAll.len : ∀ {vs : List V} {ds : List PyData}, DqAll H vs ds → vs.length = ds.length
  | _, _, .nil => rfl
  | _, _, .cons _ h => by simp [DqAll.len h]
theorem DqAll.app : ∀ {vs ws : List V} {ds es : List PyData}, DqAll H vs ds → DqAll H ws es → DqAll H (vs ++ ws) (ds ++ es)
  | _, _, _, _, .nil, h => h
  | _, _, _, _, .cons h t, h' => .cons h (DqAll.app t h')
theorem DqAll.at : ∀ {vs : List V} {ds : List PyData} {i : Nat} {d : PyData}, DqAll H vs ds → ds[i]? = some d → ∃ v, vs[i]? = some v ∧ Dq H v d
  | _, _, _, _, .nil, h => by simp at h
  | _, _, 0, _, .cons h _, e => by simp at e; subst e; exact ⟨_, rfl, h⟩
  | _, _, i + 1, _, .cons _ t, e => by
    obtain ⟨v, h1, h2⟩ := DqAll.at (i := i) t (by simpa using e)
    exact ⟨v, by simpa using h1, h2⟩
theorem DqAll.set : ∀ {vs : List V} {ds : List PyData} {v : V} {d : PyData} (i : Nat), DqAll H vs ds → Dq H v d → DqAll H (vs.set i v) (ds.set i d)
  | _, _, _, _, _, .nil, _ => .nil
  | _, _, _, _, 0, .cons _ t, h => .cons h t
  | _, _, _, _, i + 1, .cons h0 t, h => .cons h0 (DqAll.set i t h)
theorem DqAll.take : ∀ {vs : List V} {ds : List PyData} (n : Nat), DqAll H vs ds → DqAll H (vs.take n) (ds.take n)
  | _, _, 0, _ => .nil
  | _, _, _ + 1, .nil => .nil
  | _, _, n + 1, .cons h t => .cons h (DqAll.take n t)
theorem DqAll.drop : ∀ {vs : List V} {ds : List PyData} (n : Nat), DqAll H vs ds → DqAll H (vs.drop n) (ds.drop n)
  | _, _, 0, h => h
  | _, _, _ + 1, .nil => .nil
  | _, _, n + 1, .cons _ t => DqAll.drop n t
end

/-! ### slots -/
/-- what stands for others and is read here: an instance with some of its fields, a list that is locked -/
inductive Sq where
  | obj (C : Addr) (fs : List (Str × Option PyData))
  | rf (ds : List PyData)
  | xc (a dd : Addr) (n : Int)
/-- what is known of a slot: nothing; persistent data; a list of the def's own -/
inductive Sl where
  | un
  | dat (d : PyData)
  | own (ds : List PyData)
  | rd (ds : List PyData)
  | old (d : PyData)
  | nw (d : PyData)
  | st (q : Sq)
/-- what is known in I and F both -/
def rgO (F I : Hp) : Hp := fun a => match F a with | none => none | some _ => I a
/-- what is known in I; lists only where they are not in F -/
def rgN (F I : Hp) : Hp := fun a => match I a with
  | some (.lst xs) => (match F a with | none => some (.lst xs) | some _ => none)
  | some (.frz _ (.lst _)) => none
  | o => o
theorem rgO_le {F I : Hp} : Same (rgO F I) I := fun a u h => by
  unfold rgO at h; split at h
  · cases h
  · exact h
theorem rgN_le {F I : Hp} : Same (rgN F I) I := fun a u h => by
  unfold rgN at h; split at h
  · rename_i xs e
    split at h
    · rw [e]; exact h
    · cases h
  · cases h
  · exact h
theorem rgO_mono {F I I' : Hp} (e : Same I I') : Same (rgO F I) (rgO F I') := fun a u h => by
  unfold rgO at h ⊢
  split at h
  · cases h
  · exact e _ _ h
theorem rgN_mono {F I I' : Hp} (e : Same I I') : Same (rgN F I) (rgN F I') := fun a u h => by
  have h' := rgN_le _ _ h
  have h2 := e _ _ h'
  unfold rgN at h ⊢
  rw [h'] at h; rw [h2]
  exact h
theorem rgO_same {F F' I : Hp} (h : ∀ a, I a ≠ none → (F' a = none ↔ F a = none)) : rgO F' I = rgO F I := funext fun a => by
  unfold rgO
  by_cases c : I a = none
  · cases F' a <;> cases F a <;> simp [c]
  · have := h a c
    cases e : F' a <;> cases e' : F a <;> simp_all
theorem rgN_same {F F' I : Hp} (h : ∀ a, I a ≠ none → (F' a = none ↔ F a = none)) : rgN F' I = rgN F I := funext fun a => by
  unfold rgN
  split
  · rename_i xs e
    have := h a (by rw [e]; simp)
    cases e : F' a <;> cases e' : F a <;> simp_all
  · rfl
  · rfl
def slAt : List Sl → Nat → Sl
  | [], _ => .un
  | s :: _, 0 => s
  | _ :: r, i + 1 => slAt r i
theorem slAt_set_self {s : Sl} : ∀ {G : List Sl} {i : Nat}, i < G.length → slAt (G.set i s) i = s
  | [], _, h => by simp at h
  | _ :: _, 0, _ => rfl
  | _ :: r, i + 1, h => slAt_set_self (G := r) (i := i) (by simpa using h)
theorem slAt_set_ne {s : Sl} : ∀ {G : List Sl} {i j : Nat}, i ≠ j → slAt (G.set i s) j = slAt G j
  | [], _, _, _ => rfl
  | _ :: _, 0, 0, h => absurd rfl h
  | _ :: _, 0, _ + 1, _ => rfl
  | _ :: _, _ + 1, 0, _ => rfl
  | _ :: r, i + 1, j + 1, h => slAt_set_ne (G := r) (i := i) (j := j) (by omega)
theorem slAt_out {G : List Sl} {i : Nat} (h : G.length ≤ i) : slAt G i = .un := by
  induction G generalizing i with
  | nil => rfl
  | cons s r ih => cases i with
    | zero => simp at h
    | succ i => exact ih (by simpa using h)

/-- the fields of an instance, some of them as data -/
def FldAll (I : Hp) (kv : List (Str × V)) (fs : List (Str × Option PyData)) : Prop := kv.map Prod.fst = fs.map Prod.fst ∧ ∀ x d, (x, some d) ∈ fs → ∃ w, kv.lookup x = some w ∧ Dq I w d
theorem FldAll.mono {I I' : Hp} {kv : List (Str × V)} {fs : List (Str × Option PyData)} (h : FldAll I kv fs) (s : Same I I') : FldAll I' kv fs := ⟨h.1, fun x d m => let ⟨w, h1, h2⟩ := h.2 x d m; ⟨w, h1, Dq_mono s _ _ h2⟩⟩
def StR (F I : Hp) : Sq → Option V → Prop
  | .obj C fs, v => ∃ a dx vs, v = some (.ref a) ∧ F a = some (.ins C dx vs) ∧ FldAll I vs fs
  | .rf ds, v => ∃ a o xs, v = some (.ref a) ∧ F a = some (.frz o (.lst xs)) ∧ DqAll I xs ds
  | .xc a dd n, v => v = some (.ref a) ∧ F dd = some (.xd [(("at" : Str), .int n)])
theorem StR.mono {F I I' : Hp} {q : Sq} {v : Option V} (h : StR F I q v) (e : Same I I') : StR F I' q v := by
  cases q with
  | obj C fs => obtain ⟨a, dx, vs, e1, e2, k⟩ := h; exact ⟨a, dx, vs, e1, e2, k.mono e⟩
  | rf ds => obtain ⟨a, o, xs, e1, e2, k⟩ := h; exact ⟨a, o, xs, e1, e2, DqAll_mono e _ _ k⟩
  | xc a dd n => exact h
def Fix : HO → Prop
  | .ins _ _ _ => True
  | .frz _ _ => True
  | .xd _ => True
  | _ => False
theorem StR.fr {F F' I : Hp} {q : Sq} {v : Option V} (h : StR F I q v) (k : ∀ a o, F a = some o → Fix o → F' a = some o) : StR F' I q v := by
  cases q with
  | obj C fs => obtain ⟨a, dx, vs, e1, e2, z⟩ := h; exact ⟨a, dx, vs, e1, k _ _ e2 True.intro, z⟩
  | rf ds => obtain ⟨a, o, xs, e1, e2, z⟩ := h; exact ⟨a, o, xs, e1, k _ _ e2 True.intro, z⟩
  | xc a dd n => exact ⟨h.1, k _ _ h.2 True.intro⟩
theorem fix_in {F : Hp} {D : Addr} {u : HO} (h : F D = none) : ∀ a o, F a = some o → Fix o → upd F D u a = some o := fun a o e _ => by
  rw [upd_ne (fun c : a = D => by rw [c, h] at e; cases e)]; exact e
theorem fix_out {F : Hp} {D : Addr} {u : HO} (n : ¬ Fix u) : ∀ a o, upd F D u a = some o → Fix o → F a = some o := fun a o e f => by
  by_cases c : a = D
  · subst c; rw [upd_same] at e; cases e; exact absurd f n
  · rw [upd_ne c] at e; exact e
def SlR (K : PySem.W.Frag) (F I H : Hp) : Sl → Option V → Option Addr → Prop
  | .un, _, p => p = none
  | .old d, v, p => p = none ∧ ∃ x, v = some x ∧ Dq (rgO F I) x d
  | .nw d, v, p => p = none ∧ ∃ x, v = some x ∧ Dq (rgN F I) x d
  | .dat d, v, p => p = none ∧ ∃ x, v = some x ∧ Dq I x d
  | .own ds, v, p => ∃ a xs, p = some a ∧ v = some (.ref a) ∧ I a = none ∧ H a = some (.lst xs) ∧ DqAll I xs ds
  | .rd ds, v, p => p = none ∧ ∃ a xs, v = some (.ref a) ∧ SqL K I a xs ∧ DqAll I xs ds
  | .st q, v, p => p = none ∧ StR F I q v

/-- the state: F what stands for others (kept), I the persistent data, ps the def's own lists -/
structure RS (K : PySem.W.Frag) (F : Hp) (G : List Sl) (σ : L2.St) (H I : Hp) (ps : Nat → Option Addr) : Prop where
  si : Same I H
  sf : Same F H
  fo : ∀ i a, ps i = some a → F a = none
  len : G.length = σ.length
  sl : ∀ i, i < G.length → ∃ v, σ[i]? = some v ∧ SlR K F I H (slAt G i) v (ps i)
  out : ∀ i, G.length ≤ i → ps i = none
  dis : ∀ i j a, ps i = some a → ps j = some a → i = j
/-- the persistent part grows outside of F -/
structure Grow (F I I' : Hp) : Prop where
  same : Same I I'
  out : ∀ a, I' a ≠ none → I a ≠ none ∨ F a = none
theorem Grow.refl {F I : Hp} : Grow F I I := ⟨Same.refl _, fun _ h => .inl h⟩
theorem Grow.trans {F I J L : Hp} (a : Grow F I J) (b : Grow F J L) : Grow F I L :=
  ⟨a.same.trans b.same, fun x h => (b.out x h).elim (a.out x) .inr⟩
theorem Same.none {H H' : Hp} (e : Same H H') {a : Addr} (h : H' a = none) : H a = none := e.free h
theorem same_upd {H : Hp} {p : Addr} {o : HO} (h : H p = none) : Same H (upd H p o) := fun b x e => by
  rw [upd_ne (ne_of_none e h)]; exact e
theorem same_upd2 {H J : Hp} {p : Addr} {o : HO} (e : Same J H) (h : J p = none) : Same J (upd H p o) := fun b x q => by
  rw [upd_ne (ne_of_none q h)]; exact e _ _ q
theorem upd_iff {F I : Hp} {D : Addr} {o : HO} (n : I D = none) : ∀ a, I a ≠ none → (upd F D o a = none ↔ F a = none) := fun a h => by
  rw [upd_ne (fun c : a = D => h (by rw [c]; exact n))]
theorem Grow.new {F I : Hp} {p : Addr} {o : HO} (hI : I p = none) (hF : F p = none) : Grow F I (upd I p o) := by
  refine ⟨same_upd hI, fun a h => ?_⟩
  by_cases e : a = p
  · subst e; exact .inr hF
  · rw [upd_ne e] at h; exact .inl h

section
variable {K : PySem.W.Frag} {F : Hp} {G : List Sl} {σ : L2.St} {H H' I I' : Hp} {ps : Nat → Option Addr}
theorem SlR.mono {s : Sl} {v : Option V} {p : Option Addr} (h : SlR K F I H s v p) (e : Same I I') (hp : ∀ a, p = some a → I' a = none ∧ ∀ o, H a = some o → H' a = some o) : SlR K F I' H' s v p := by
  cases s with
  | un => exact h
  | old d => obtain ⟨e1, x, e2, q⟩ := h; exact ⟨e1, x, e2, Dq_mono (rgO_mono e) _ _ q⟩
  | nw d => obtain ⟨e1, x, e2, q⟩ := h; exact ⟨e1, x, e2, Dq_mono (rgN_mono e) _ _ q⟩
  | dat d => obtain ⟨e1, x, e2, q⟩ := h; exact ⟨e1, x, e2, Dq_mono e _ _ q⟩
  | own ds =>
    obtain ⟨a, xs, e1, e2, n, q, r⟩ := h
    obtain ⟨n', k⟩ := hp a e1
    exact ⟨a, xs, e1, e2, n', k _ q, DqAll_mono e _ _ r⟩
  | rd ds => obtain ⟨e1, a, xs, e2, q, d⟩ := h; exact ⟨e1, a, xs, e2, Same.seq e q, DqAll_mono e _ _ d⟩
  | st q => exact ⟨h.1, h.2.mono e⟩
/-- an own list's address, as it is known -/
theorem RS.own_at (R : RS K F G σ H I ps) {i : Nat} {a : Addr} (h : ps i = some a) : I a = none ∧ F a = none ∧ ∃ xs, H a = some (.lst xs) := by
  have hi : i < G.length := by
    by_cases c : i < G.length
    · exact c
    · rw [R.out i (by omega)] at h; cases h
  obtain ⟨v, _, q⟩ := R.sl i hi
  cases s : slAt G i with
  | un => rw [s] at q; rw [show ps i = none from q] at h; cases h
  | dat d => rw [s] at q; rw [q.1] at h; cases h
  | rd d => rw [s] at q; rw [q.1] at h; cases h
  | st d => rw [s] at q; rw [q.1] at h; cases h
  | old d => rw [s] at q; rw [q.1] at h; cases h
  | nw d => rw [s] at q; rw [q.1] at h; cases h
  | own ds =>
    rw [s] at q
    obtain ⟨b, xs, e1, e2, n, q, r⟩ := q
    rw [h] at e1; cases e1
    exact ⟨n, R.fo i a h, xs, q⟩
/-- the heap grows to H', the persistent part to I' -/
theorem RS.grow (R : RS K F G σ H I ps) (e : Same H H') (si : Same I' H') (g : Same I I') (n : ∀ i a, ps i = some a → I' a = none) : RS K F G σ H' I' ps where
  si := si
  sf := R.sf.trans e
  fo := R.fo
  len := R.len
  sl := fun i hi => by
    obtain ⟨v, h1, h2⟩ := R.sl i hi
    exact ⟨v, h1, h2.mono g fun a ha => ⟨n i a ha, fun o q => e _ _ q⟩⟩
  out := R.out
  dis := R.dis
/-- a new persistent object -/
theorem RS.new (R : RS K F G σ H I ps) {p : Addr} {o : HO} (h : H p = none) : RS K F G σ (upd H p o) (upd I p o) ps := by
  have hI : I p = none := R.si.free h
  refine R.grow (same_upd h) (fun b x q => ?_) (same_upd hI) fun i a ha => ?_
  · by_cases e : b = p
    · subst e; rw [upd_same] at q ⊢; exact q
    · rw [upd_ne e] at q ⊢; exact R.si _ _ q
  · obtain ⟨n, _, xs, q⟩ := R.own_at ha
    rw [upd_ne (ne_of_none q h)]; exact n
theorem RS.grow_new (R : RS K F G σ H I ps) {p : Addr} {o : HO} (h : H p = none) : Grow F I (upd I p o) := Grow.new (R.si.free h) (R.sf.free h)
/-- a new object that is not persistent (yet) -/
theorem RS.newOwn (R : RS K F G σ H I ps) {p : Addr} {o : HO} (h : H p = none) : RS K F G σ (upd H p o) I ps :=
  R.grow (same_upd h) (R.si.trans (same_upd h)) (Same.refl _) fun i a ha => (R.own_at ha).1
/-- an object outside all is written -/
theorem RS.wr (R : RS K F G σ H I ps) {p : Addr} {o : HO} (hI : I p = none) (hF : F p = none) (hp : ∀ i, ps i ≠ some p) : RS K F G σ (upd H p o) I ps where
  si := same_upd2 R.si hI
  sf := same_upd2 R.sf hF
  fo := R.fo
  len := R.len
  sl := fun i hi => by
    obtain ⟨v, h1, h2⟩ := R.sl i hi
    refine ⟨v, h1, h2.mono (Same.refl _) fun a ha => ⟨(R.own_at ha).1, fun o q => ?_⟩⟩
    rw [upd_ne (fun e : a = p => hp i (by rw [← e]; exact ha))]; exact q
  out := R.out
  dis := R.dis
/-- what stands for others may be named otherwise -/
theorem RS.frame (R : RS K F G σ H I ps) {F' : Hp} (s : Same F' H) (n : ∀ i a, ps i = some a → F' a = none) (h : ∀ a, I a ≠ none → (F' a = none ↔ F a = none)) (hk : ∀ a o, F a = some o → Fix o → F' a = some o) : RS K F' G σ H I ps := ⟨R.si, s, n, R.len, fun i hi => by
  obtain ⟨v, h1, h2⟩ := R.sl i hi
  refine ⟨v, h1, ?_⟩
  cases e : slAt G i with
  | un => rw [e] at h2; exact h2
  | dat d => rw [e] at h2; exact h2
  | own d => rw [e] at h2; exact h2
  | rd d => rw [e] at h2; exact h2
  | st d => rw [e] at h2; exact ⟨h2.1, h2.2.fr hk⟩
  | old d => rw [e] at h2; obtain ⟨e1, x, e2, q⟩ := h2; exact ⟨e1, x, e2, by rw [rgO_same h]; exact q⟩
  | nw d => rw [e] at h2; obtain ⟨e1, x, e2, q⟩ := h2; exact ⟨e1, x, e2, by rw [rgN_same h]; exact q⟩, R.out, R.dis⟩
/-- a slot is stored: persistent data -/
def psDel (ps : Nat → Option Addr) (i : Nat) : Nat → Option Addr := fun j => if j = i then none else ps j
def psSet (ps : Nat → Option Addr) (i : Nat) (a : Addr) : Nat → Option Addr := fun j => if j = i then some a else ps j
theorem RS.setDat (R : RS K F G σ H I ps) {i : Nat} {v : V} {d : PyData} (h : Dq I v d) : RS K F (G.set i (.dat d)) (σ.set i (some v)) H I (psDel ps i) where
  si := R.si
  sf := R.sf
  fo := fun j a h => by
    unfold psDel at h; split at h
    · cases h
    · exact R.fo j a h
  len := by simp [R.len]
  sl := fun j hj => by
    rw [List.length_set] at hj
    obtain ⟨w, h1, h2⟩ := R.sl j hj
    by_cases e : j = i
    · subst e
      refine ⟨some v, List.getElem?_set_self (by rw [← R.len]; exact hj), ?_⟩
      rw [slAt_set_self hj]
      exact ⟨if_pos rfl, v, rfl, h⟩
    · refine ⟨w, by rw [List.getElem?_set_ne (Ne.symm e)]; exact h1, ?_⟩
      rw [slAt_set_ne (Ne.symm e), show psDel ps i j = ps j from if_neg e]
      exact h2
  out := fun j hj => by
    unfold psDel; split
    · rfl
    · exact R.out j (by simpa using hj)
  dis := fun j l a h1 h2 => by
    unfold psDel at h1 h2
    split at h1
    · cases h1
    · split at h2
      · cases h2
      · exact R.dis j l a h1 h2
theorem RS.setOwn (R : RS K F G σ H I ps) {i : Nat} {p : Addr} {xs : List V} {ds : List PyData} (hi : i < G.length) (hI : I p = none) (hF : F p = none) (hp : ∀ j, ps j ≠ some p) (hH : H p = some (.lst xs)) (h : DqAll I xs ds) :
    RS K F (G.set i (.own ds)) (σ.set i (some (.ref p))) H I (psSet ps i p) where
  si := R.si
  sf := R.sf
  fo := fun j a h => by
    unfold psSet at h; split at h
    · cases h; exact hF
    · exact R.fo j a h
  len := by simp [R.len]
  sl := fun j hj => by
    rw [List.length_set] at hj
    obtain ⟨w, h1, h2⟩ := R.sl j hj
    by_cases e : j = i
    · subst e
      refine ⟨some (.ref p), List.getElem?_set_self (by rw [← R.len]; exact hj), ?_⟩
      rw [slAt_set_self hj]
      exact ⟨p, xs, if_pos rfl, rfl, hI, hH, h⟩
    · refine ⟨w, by rw [List.getElem?_set_ne (Ne.symm e)]; exact h1, ?_⟩
      rw [slAt_set_ne (Ne.symm e), show psSet ps i p j = ps j from if_neg e]
      exact h2
  out := fun j hj => by
    unfold psSet; split
    · rename_i e; subst e; rw [List.length_set] at hj; omega
    · exact R.out j (by simpa using hj)
  dis := fun j l a h1 h2 => by
    unfold psSet at h1 h2
    split at h1
    · cases h1
      split at h2
      · omega
      · exact absurd h2 (hp l)
    · split at h2
      · cases h2; exact absurd h1 (hp j)
      · exact R.dis j l a h1 h2
/-- nothing is known of a slot any more -/
theorem RS.setUn (R : RS K F G σ H I ps) {i : Nat} {v : Option V} : RS K F (G.set i .un) (σ.set i v) H I (psDel ps i) where
  si := R.si
  sf := R.sf
  fo := fun j a h => by
    unfold psDel at h; split at h
    · cases h
    · exact R.fo j a h
  len := by simp [R.len]
  sl := fun j hj => by
    rw [List.length_set] at hj
    obtain ⟨w, h1, h2⟩ := R.sl j hj
    by_cases e : j = i
    · subst e
      refine ⟨v, List.getElem?_set_self (by rw [← R.len]; exact hj), ?_⟩
      rw [slAt_set_self hj]
      exact if_pos rfl
    · refine ⟨w, by rw [List.getElem?_set_ne (Ne.symm e)]; exact h1, ?_⟩
      rw [slAt_set_ne (Ne.symm e), show psDel ps i j = ps j from if_neg e]
      exact h2
  out := fun j hj => by
    unfold psDel; split
    · rfl
    · exact R.out j (by simpa using hj)
  dis := fun j l a h1 h2 => by
    unfold psDel at h1 h2
    split at h1
    · cases h1
    · split at h2
      · cases h2
      · exact R.dis j l a h1 h2
/-- an own list is written -/
theorem RS.wrOwn (R : RS K F G σ H I ps) {i : Nat} {p : Addr} {ys : List V} {es : List PyData} (hp : ps i = some p) (h : DqAll I ys es) : RS K F (G.set i (.own es)) σ (upd H p (.lst ys)) I ps where
  si := same_upd2 R.si (R.own_at hp).1
  sf := same_upd2 R.sf (R.own_at hp).2.1
  fo := R.fo
  len := by simp [R.len]
  sl := fun j hj => by
    rw [List.length_set] at hj
    obtain ⟨w, h1, h2⟩ := R.sl j hj
    by_cases e : j = i
    · subst e
      refine ⟨w, h1, ?_⟩
      rw [slAt_set_self hj]
      refine ⟨p, ys, hp, ?_, (R.own_at hp).1, upd_same, h⟩
      cases s : slAt G j with
      | un => rw [s] at h2; rw [show ps j = none from h2] at hp; cases hp
      | dat d => rw [s] at h2; rw [h2.1] at hp; cases hp
      | rd d => rw [s] at h2; rw [h2.1] at hp; cases hp
      | st d => rw [s] at h2; rw [h2.1] at hp; cases hp
      | old d => rw [s] at h2; rw [h2.1] at hp; cases hp
      | nw d => rw [s] at h2; rw [h2.1] at hp; cases hp
      | own ds =>
        rw [s] at h2
        obtain ⟨a, xs, e1, e2, _⟩ := h2
        rw [hp] at e1; cases e1; exact e2
    · refine ⟨w, h1, ?_⟩
      rw [slAt_set_ne (Ne.symm e)]
      refine h2.mono (Same.refl _) fun a ha => ⟨(R.own_at ha).1, fun o q => ?_⟩
      rw [upd_ne (fun z : a = p => e (R.dis j i a ha (by rw [z]; exact hp)))]; exact q
  out := fun j hj => R.out j (by simpa using hj)
  dis := R.dis
/-- an own list becomes persistent -/
theorem RS.frz (R : RS K F G σ H I ps) {i : Nat} {ds : List PyData} (hs : slAt G i = .own ds) : ∃ I', Grow F I I' ∧ RS K F (G.set i (.dat (.list ds))) σ H I' (psDel ps i) := by
  have hi : i < G.length := by
    by_cases c : i < G.length
    · exact c
    · rw [slAt_out (by omega)] at hs; cases hs
  obtain ⟨v, h1, h2⟩ := R.sl i hi
  rw [hs] at h2
  obtain ⟨a, xs, e1, e2, n, q, r⟩ := h2
  have g : Same I (upd I a (.lst xs)) := same_upd n
  refine ⟨upd I a (.lst xs), Grow.new n (R.fo i a e1), ?_⟩
  refine ⟨fun b x z => ?_, R.sf, fun j b z => ?_, by simp [R.len], fun j hj => ?_, fun j hj => ?_, fun j l b z1 z2 => ?_⟩
  · by_cases e : b = a
    · subst e; rw [upd_same] at z; cases z; exact q
    · rw [upd_ne e] at z; exact R.si _ _ z
  · unfold psDel at z; split at z
    · cases z
    · exact R.fo j b z
  · rw [List.length_set] at hj
    obtain ⟨w, k1, k2⟩ := R.sl j hj
    by_cases e : j = i
    · subst e
      rw [h1] at k1; cases k1
      refine ⟨v, h1, ?_⟩
      rw [slAt_set_self hj]
      refine ⟨if_pos rfl, .ref a, e2, .lst (.inl upd_same) (DqAll_mono g _ _ r)⟩
    · refine ⟨w, k1, ?_⟩
      rw [slAt_set_ne (Ne.symm e), show psDel ps i j = ps j from if_neg e]
      refine k2.mono g fun b hb => ⟨?_, fun o z => z⟩
      rw [upd_ne (fun z : b = a => e (R.dis j i a (by rw [← z]; exact hb) e1))]
      exact (R.own_at hb).1
  · unfold psDel; split
    · rfl
    · exact R.out j (by simpa using hj)
  · unfold psDel at z1 z2
    split at z1
    · cases z1
    · split at z2
      · cases z2
      · exact R.dis j l b z1 z2
end
end Lay

set_option Elab.async false
set_option linter.all false
set_option maxRecDepth 100000
/-! Lay2: expressions. -/
namespace Lay
open PySem PySem.Spec PyProof.Rows L2
open Lay.Enc (enc)

/-! ### the context of a def's body or of a comprehension's block -/
def fnOf : Option Scope → Str → Bool
  | none => fun _ => true
  | some scope => fun x => scope.names.lookup x == some .cell
structure Ctx (X : Cx) (N : List Str) (sc : Scope) (fs : Option Scope) (k : Nat) : Prop where
  n : X.N = N
  s : X.env.scope = sc
  fk : sc.kind = .function
  calm : X.calm = true
  nd : N.Nodup
  gd : X.A.guards = some []
  rm : Room k X.A
  px : PassesOwn (model X.prog X.w) X.A X.env X.xe
  fn : X.fn = fnOf fs
theorem Ctx.blk {X : Cx} {N : List Str} {sc : Scope} {fs : Option Scope} {k : Nat} (C : Ctx X N sc fs k) (s : Shared) (H : Hp) (scope : Scope) (Ca : Addr) (cl : List (Str × Addr)) (fp : List Addr) (hk : scope.kind = .function) :
    Ctx (X.blk s H scope (compEnvC scope cl Ca X.env) fp) N (relS scope sc) (some scope) k :=
  ⟨C.n, by show relS scope X.env.scope = _; rw [C.s], hk, C.calm, C.nd, C.gd, C.rm, PassesOwn.never, rfl⟩
/-- the name in slot i is seen in the scope -/
def visB (N : List Str) (sc : Scope) (i : Nat) (x : Str) : Bool :=
  decide (N[i]? = some x) && (match sc.names.lookup x with | some .local => true | some .cell => true | some .free => true | _ => false) && !(x == ("__debug__" : Str)) && !(x == ("__classdict__" : Str))
/-- the name in slot i is the scope's own -/
def locB (N : List Str) (sc : Scope) (fs : Option Scope) (i : Nat) (x : Str) : Bool :=
  decide (N[i]? = some x) && (match sc.names.lookup x with | some .local => true | some .cell => fnOf fs x | _ => false)
def glbB (sc : Scope) (x : Str) : Bool := (match sc.names.lookup x with | some .globalImplicit => true | _ => false) && !(x == ("__debug__" : Str))

/-! ### what is wanted of an expression -/
def tD (K : PySem.W.Frag) (G : List Sl) (d : PyData) : TE := fun σ H Q => ∃ F I ps, RS K F G σ H I ps ∧ ∀ v H' I', Grow F I I' → RS K F G σ H' I' ps → Dq I' v d → Q v H'
def tO (K : PySem.W.Frag) (G : List Sl) (ds : List PyData) : TE := fun σ H Q => ∃ F I ps, RS K F G σ H I ps ∧ ∀ p xs H' I', Grow F I I' → RS K F G σ H' I' ps → I' p = none → F p = none → (∀ i, ps i ≠ some p) → H' p = some (.lst xs) → DqAll I' xs ds → Q (.ref p) H'
def tR (K : PySem.W.Frag) (G : List Sl) (ds : List PyData) : TE := fun σ H Q => ∃ F I ps, RS K F G σ H I ps ∧ ∀ a xs H' I', Grow F I I' → RS K F G σ H' I' ps → SqL K H' a xs → DqAll I' xs ds → Q (.ref a) H'
def tB (K : PySem.W.Frag) (G : List Sl) (b : Bool) : TT := fun σ H Q => ∃ F I ps, RS K F G σ H I ps ∧ ∀ H' I', Grow F I I' → RS K F G σ H' I' ps → Q b H'
def tA (K : PySem.W.Frag) (G : List Sl) (ds : List PyData) : TA := fun σ H Q => ∃ F I ps, RS K F G σ H I ps ∧ ∀ vs H' I', Grow F I I' → RS K F G σ H' I' ps → DqAll I' vs ds → Q vs H'

/-- the expression gives the data o (if o is some) -/
def ED (X : Cx) (G : List Sl) {α : Type} [Enc α] (e : Expr) (o : Option α) : Prop := ∀ x, o = some x → PE X e (tD X.K G (enc x))
/-- .. a new list that nothing else holds -/
def EO (X : Cx) (G : List Sl) {α : Type} [Enc α] (e : Expr) (o : Option (List α)) : Prop := ∀ l, o = some l → PE X e (tO X.K G (l.map enc))
/-- .. a list that may be read -/
def ER (X : Cx) (G : List Sl) {α : Type} [Enc α] (e : Expr) (o : Option (List α)) : Prop := ∀ l, o = some l → PE X e (tR X.K G (l.map enc))
/-- .. a test -/
def EB (X : Cx) (G : List Sl) (e : Expr) (o : Option Bool) : Prop := ∀ b, o = some b → PT X e (tB X.K G b)
/-- .. in a chain of and, or -/
def EW (X : Cx) (G : List Sl) (e : Expr) (o : Option Bool) : Prop := ∀ b, o = some b → PW X e (tB X.K G b)
def AD (X : Cx) (G : List Sl) (es : List Expr) (o : Option (List PyData)) : Prop := ∀ ds, o = some ds → PA X es (tA X.K G ds)

theorem _root_.L2.PE.imp {X : Cx} {e : Expr} {t t' : TE} (h : PE X e t) (w : ∀ σ H Q, t' σ H Q → t σ H Q) : PE X e t' := ⟨fun pins s σ H Q I q => h.run pins s σ H Q I (w σ H Q q)⟩
theorem _root_.L2.PT.imp {X : Cx} {e : Expr} {t t' : TT} (h : PT X e t) (w : ∀ σ H Q, t' σ H Q → t σ H Q) : PT X e t' := ⟨fun pins s σ H Q I q => h.run pins s σ H Q I (w σ H Q q)⟩
theorem _root_.L2.PW.imp {X : Cx} {e : Expr} {t t' : TT} (h : PW X e t) (w : ∀ σ H Q, t' σ H Q → t σ H Q) : PW X e t' := ⟨fun wh pins s σ H Q I q => h.run wh pins s σ H Q I (w σ H Q q)⟩
theorem _root_.L2.PA.imp {X : Cx} {e : List Expr} {t t' : TA} (h : PA X e t) (w : ∀ σ H Q, t' σ H Q → t σ H Q) : PA X e t' := ⟨fun pos pins s σ H Q I q => h.run pos pins s σ H Q I (w σ H Q q)⟩

def lift1 {α β : Type} (f : α → β) (a : Option α) : Option β := a.bind fun x => some (f x)
def lift2 {α β γ : Type} (f : α → β → γ) (a : Option α) (b : Option β) : Option γ := a.bind fun x => b.bind fun y => some (f x y)
def bind2 {α β γ : Type} (f : α → β → Option γ) (a : Option α) (b : Option β) : Option γ := a.bind fun x => b.bind fun y => f x y
@[simp] theorem lift1_some {α β : Type} (f : α → β) (a : α) : lift1 f (some a) = some (f a) := rfl
@[simp] theorem lift2_some {α β γ : Type} (f : α → β → γ) (a : α) (b : β) : lift2 f (some a) (some b) = some (f a b) := rfl
@[simp] theorem bind2_some {α β γ : Type} (f : α → β → Option γ) (a : α) (b : β) : bind2 f (some a) (some b) = f a b := rfl
theorem bind2_get {α β γ : Type} {f : α → β → Option γ} {a : Option α} {b : Option β} {z : γ} (h : bind2 f a b = some z) : ∃ x y, a = some x ∧ b = some y ∧ f x y = some z := by
  cases a with
  | none => cases h
  | some x => cases b with
    | none => cases h
    | some y => exact ⟨x, y, rfl, rfl, h⟩
theorem lift2_get {α β γ : Type} {f : α → β → γ} {a : Option α} {b : Option β} {z : γ} (h : lift2 f a b = some z) : ∃ x y, a = some x ∧ b = some y ∧ f x y = z := by
  obtain ⟨x, y, h1, h2, h3⟩ := bind2_get (f := fun x y => some (f x y)) h
  exact ⟨x, y, h1, h2, Option.some.inj h3⟩
theorem bind_get {α β : Type} {f : α → Option β} {a : Option α} {z : β} (h : a.bind f = some z) : ∃ x, a = some x ∧ f x = some z := by
  cases a with
  | none => cases h
  | some x => exact ⟨x, rfl, h⟩
theorem lift1_get {α β : Type} {f : α → β} {a : Option α} {z : β} (h : lift1 f a = some z) : ∃ x, a = some x ∧ f x = z := by
  obtain ⟨x, h1, h2⟩ := bind_get (f := fun x => some (f x)) h
  exact ⟨x, h1, Option.some.inj h2⟩

section
variable {X : Cx} {G : List Sl} {α β γ : Type} [Enc α] [Enc β] [Enc γ]

/-! ### from one form to another -/
theorem er_of_ed {e : Expr} {o : Option (List α)} (h : ED X G e o) : ER X G e o := fun l hl => (h l hl).imp fun σ H Q ⟨F, I, ps, R, q⟩ => ⟨F, I, ps, R, fun v H' I' g R' d => by
  cases d with | lst h1 h2 => exact q _ _ _ _ g R' (.inl (rd_mono R'.si h1)) h2⟩
theorem er_of_eo {e : Expr} {o : Option (List α)} (h : EO X G e o) : ER X G e o := fun l hl => (h l hl).imp fun σ H Q ⟨F, I, ps, R, q⟩ => ⟨F, I, ps, R, fun p xs H' I' g R' _ _ _ hp d => q _ _ _ _ g R' (.inl (.inl hp)) d⟩
/-- a new list that becomes persistent at once -/
theorem frz_new {K : PySem.W.Frag} {F H' I I' : Hp} {σ : L2.St} {ps : Nat → Option Addr} {p : Addr} {xs : List V} {ds : List PyData} (g : Grow F I I') (R' : RS K F G σ H' I' ps) (hI : I' p = none) (hF : F p = none) (hp : ∀ i, ps i ≠ some p) (hH : H' p = some (.lst xs)) (d : DqAll I' xs ds) :
    Grow F I (upd I' p (.lst xs)) ∧ RS K F G σ H' (upd I' p (.lst xs)) ps ∧ Dq (upd I' p (.lst xs)) (.ref p) (.list ds) := by
  have s := same_upd (o := .lst xs) hI
  refine ⟨g.trans (Grow.new hI hF), R'.grow (Same.refl _) (fun b x q => ?_) s fun i a ha => ?_, .lst (.inl upd_same) (DqAll_mono s _ _ d)⟩
  · by_cases e : b = p
    · subst e; rw [upd_same] at q; cases q; exact hH
    · rw [upd_ne e] at q; exact R'.si _ _ q
  · rw [upd_ne (fun z : a = p => hp i (by rw [← z]; exact ha))]; exact (R'.own_at ha).1
theorem ed_of_eo {e : Expr} {o : Option (List α)} (h : EO X G e o) : ED X G e o := fun l hl => (h l hl).imp fun σ H Q ⟨F, I, ps, R, q⟩ => ⟨F, I, ps, R, fun p xs H' I' g R' hI hF hp hH d => by
  obtain ⟨g', R'', d'⟩ := frz_new g R' hI hF hp hH d
  exact q _ _ _ g' R'' d'⟩
/-- another type with the same data -/
theorem ed_coe {e : Expr} {o : Option α} (c : α → β) (hc : ∀ x, enc (c x) = enc x) (h : ED X G e o) : ED X G e (lift1 c o) := fun y hy => by
  obtain ⟨x, h1, h2⟩ := lift1_get hy
  rw [← h2, hc]; exact h x h1
theorem ed_coeP {e : Expr} {o : Option α} (c : α → Option β) (hc : ∀ x y, c x = some y → enc y = enc x) (h : ED X G e o) : ED X G e (o.bind c) := fun y hy => by
  obtain ⟨x, h1, h2⟩ := bind_get hy
  rw [hc x y h2]; exact h x h1
theorem ed_some {e : Expr} {o : Option α} (h : ED X G e o) : ED X G e (lift1 (some : α → Option α) o) := ed_coe _ (fun _ => rfl) h
theorem ed_get {e : Expr} {o : Option (Option α)} (h : ED X G e o) : ED X G e (o.bind id) := ed_coeP _ (fun x y h => by have h : x = some y := h; subst h; rfl) h
theorem eo_coe {e : Expr} {o : Option (List α)} (c : α → β) (hc : ∀ x, enc (c x) = enc x) (h : EO X G e o) : EO X G e (lift1 (List.map c) o) := fun y hy => by
  obtain ⟨x, h1, h2⟩ := lift1_get hy
  rw [← h2, List.map_map, show (enc ∘ c : α → PyData) = enc from funext hc]; exact h x h1
theorem er_coe {e : Expr} {o : Option (List α)} (c : α → β) (hc : ∀ x, enc (c x) = enc x) (h : ER X G e o) : ER X G e (lift1 (List.map c) o) := fun y hy => by
  obtain ⟨x, h1, h2⟩ := lift1_get hy
  rw [← h2, List.map_map, show (enc ∘ c : α → PyData) = enc from funext hc]; exact h x h1
theorem enc_map (c : α → β) (hc : ∀ x, enc (c x) = enc x) (l : List α) : enc (l.map c) = enc l := by
  show PyData.list ((l.map c).map enc) = PyData.list (l.map enc)
  rw [List.map_map, show (enc ∘ c : α → PyData) = enc from funext hc]

/-! ### names and constants -/
theorem ed_var {N : List Str} {sc : Scope} {fs : Option Scope} {k i : Nat} {x : Str} {v : α} {pos : Pos} (C : Ctx X N sc fs k) (hv : visB N sc i x = true) (hs : slAt G i = .dat (enc v)) : ED X G (.Name x pos) (some v) := fun y hy => by
  cases hy
  unfold visB at hv
  simp only [Bool.and_eq_true, decide_eq_true_eq, Bool.not_eq_true'] at hv
  obtain ⟨⟨⟨h1, h2⟩, h3⟩, h4⟩ := hv
  have hvis : Vis X.env.scope x := by
    rw [C.s]; unfold Vis
    split at h2 <;> simp_all
  refine (pe_var (by rw [C.n]; exact h1) hvis h3 h4).imp fun σ H Q ⟨F, I, ps, R, q⟩ => ?_
  have hi : i < G.length := by
    by_cases c : i < G.length
    · exact c
    · rw [slAt_out (by omega)] at hs; cases hs
  obtain ⟨w, k1, k2⟩ := R.sl i hi
  rw [hs] at k2
  obtain ⟨_, z, e, d⟩ := k2
  subst e
  exact ⟨z, k1, q z H I Grow.refl R d⟩
theorem er_own {N : List Str} {sc : Scope} {fs : Option Scope} {k i : Nat} {x : Str} {l : List α} {pos : Pos} (C : Ctx X N sc fs k) (hv : visB N sc i x = true) (hs : slAt G i = .own (l.map enc)) : ER X G (.Name x pos) (some l) := fun y hy => by
  cases hy
  unfold visB at hv
  simp only [Bool.and_eq_true, decide_eq_true_eq, Bool.not_eq_true'] at hv
  obtain ⟨⟨⟨h1, h2⟩, h3⟩, h4⟩ := hv
  have hvis : Vis X.env.scope x := by
    rw [C.s]; unfold Vis
    split at h2 <;> simp_all
  refine (pe_var (by rw [C.n]; exact h1) hvis h3 h4).imp fun σ H Q ⟨F, I, ps, R, q⟩ => ?_
  have hi : i < G.length := by
    by_cases c : i < G.length
    · exact c
    · rw [slAt_out (by omega)] at hs; cases hs
  obtain ⟨w, k1, k2⟩ := R.sl i hi
  rw [hs] at k2
  obtain ⟨a, xs, e1, e2, n, hH, d⟩ := k2
  subst e2
  exact ⟨_, k1, q a xs H I Grow.refl R (.inl (.inl hH)) d⟩
theorem tC_ed {v : V} {d : PyData} (hd : ∀ H : Hp, Dq H v d) {K : PySem.W.Frag} (σ : L2.St) (H : Hp) (Q : VK) (h : tD K G d σ H Q) : tC v σ H Q := by
  obtain ⟨F, I, ps, R, q⟩ := h
  exact q v H I Grow.refl R (hd _)
theorem ed_num {i : Int} {j : Nat} {pos : Pos} : ED X G (.Constant (.int i) j pos) (some i) := fun y hy => by
  cases hy; exact pe_int.imp (tC_ed fun _ => .int _)
theorem ed_bl {b : Bool} {j : Nat} {pos : Pos} : ED X G (.Constant (.bool b) j pos) (some b) := fun y hy => by
  cases hy; exact pe_bl.imp (tC_ed fun _ => .bl _)
theorem ed_str {b : Str} {j : Nat} {pos : Pos} : ED X G (.Constant (.str b) j pos) (some b) := fun y hy => by
  cases hy; exact pe_str.imp (tC_ed fun _ => .str _)
theorem ed_none {j : Nat} {pos : Pos} : ED X G (.Constant .none j pos) (some (none : Option α)) := fun y hy => by
  cases hy; exact pe_non.imp (tC_ed fun _ => .non)
theorem ed_unit {j : Nat} {pos : Pos} : ED X G (.Constant .none j pos) (some ()) := fun y hy => by
  cases hy; exact pe_non.imp (tC_ed fun _ => .non)

/-! ### operators -/
/-- what a rule of two values gives on data -/
def Sem2 (K : PySem.W.Frag) (r : R2) (d1 d2 d : PyData) : Prop :=
  ∀ (F : Hp) (G : List Sl) (σ : L2.St) (H I : Hp) (ps : Nat → Option Addr) (v w : V) (Q : VK), RS K F G σ H I ps → Dq I v d1 → Dq I w d2 → (∀ u H' I', Grow F I I' → RS K F G σ H' I' ps → Dq I' u d → Q u H') → r v w H Q
theorem tD_op {K : PySem.W.Frag} {r : R2} {d1 d2 d : PyData} (h : Sem2 K r d1 d2 d) (σ : L2.St) (H : Hp) (Q : VK) (t : tD K G d σ H Q) : tOp r (tD K G d1) (tD K G d2) σ H Q := by
  obtain ⟨F, I, ps, R, q⟩ := t
  refine ⟨F, I, ps, R, fun v H1 I1 g1 R1 dv => ⟨F, I1, ps, R1, fun w H2 I2 g2 R2 dw => ?_⟩⟩
  exact h F G σ H2 I2 ps v w Q R2 (Dq_mono g2.same _ _ dv) dw fun u H3 I3 g3 R3 du => q u H3 I3 (g1.trans (g2.trans g3)) R3 du
theorem ed_op2 {op : Operator} {a b : Expr} {pos : Pos} {oa : Option α} {ob : Option β} {f : α → β → Option γ} {r : R2} (ho : OpR X (binaryOp op) r) (hr : ∀ x y z, f x y = some z → Sem2 X.K r (enc x) (enc y) (enc z))
    (ha : ED X G a oa) (hb : ED X G b ob) : ED X G (.BinOp a op b pos) (bind2 f oa ob) := fun z hz => by
  obtain ⟨x, y, h1, h2, h3⟩ := bind2_get hz
  exact (pe_op ho (ha x h1) (hb y h2)).imp (tD_op (hr x y z h3))
theorem Sem2.int {K : PySem.W.Frag} {C : Int → Int → Prop} {g : Int → Int → Int} {i j : Int} (hc : C i j) : Sem2 K (rI C fun i j => .int (g i j)) (.int i) (.int j) (.int (g i j)) := by
  intro F G σ H I ps v w Q R hv hw q
  cases hv; cases hw
  exact ⟨i, j, rfl, rfl, hc, q _ _ _ Grow.refl R (.int _)⟩
theorem Sem2.int0 {K : PySem.W.Frag} {g : Int → Int → Int} {i j : Int} : Sem2 K (rI0 fun i j => .int (g i j)) (.int i) (.int j) (.int (g i j)) := by
  intro F G σ H I ps v w Q R hv hw q
  cases hv; cases hw
  exact ⟨i, j, rfl, rfl, q _ _ _ Grow.refl R (.int _)⟩
theorem Sem2.bool0 {K : PySem.W.Frag} {g : Int → Int → Bool} {i j : Int} : Sem2 K (rI0 fun i j => .bl (g i j)) (.int i) (.int j) (.bool (g i j)) := by
  intro F G σ H I ps v w Q R hv hw q
  cases hv; cases hw
  exact ⟨i, j, rfl, rfl, q _ _ _ Grow.refl R (.bl _)⟩

def mulG (i j : Int) : Option Int := if i.natAbs.log2 + j.natAbs.log2 < 1000000 then some (i * j) else none
def divG (i j : Int) : Option Int := if 0 < j ∧ j.natAbs.log2 < 9000 then some (i / j) else none
def modG (i j : Int) : Option Int := if 0 < j then some (i % j) else none
def powG (i j : Int) : Option Int := if 0 ≤ j ∧ j ≤ 1000000 ∧ i.natAbs < 2 ^ 64 then some (i ^ j.toNat) else none
theorem ite_get {α : Type} {c : Prop} [Decidable c] {x z : α} (h : (if c then some x else none) = some z) : c ∧ x = z := by
  by_cases e : c
  · rw [if_pos e] at h; exact ⟨e, Option.some.inj h⟩
  · rw [if_neg e] at h; cases h
variable {a b c : Expr} {pos : Pos} {oa ob oc : Option Int}
theorem ed_add (ha : ED X G a oa) (hb : ED X G b ob) : ED X G (.BinOp a .Add b pos) (lift2 (· + ·) oa ob) :=
  ed_op2 (f := fun i j => some (i + j)) op_add (fun x y z h => by cases h; exact Sem2.int0) ha hb
theorem ed_sub (ha : ED X G a oa) (hb : ED X G b ob) : ED X G (.BinOp a .Sub b pos) (lift2 (· - ·) oa ob) :=
  ed_op2 (f := fun i j => some (i - j)) op_sub (fun x y z h => by cases h; exact Sem2.int0) ha hb
theorem ed_mul (ha : ED X G a oa) (hb : ED X G b ob) : ED X G (.BinOp a .Mult b pos) (bind2 mulG oa ob) :=
  ed_op2 (f := mulG) op_mulW (fun x y z h => by obtain ⟨h1, h2⟩ := ite_get h; subst h2; exact Sem2.int h1) ha hb
theorem ed_fdiv (ha : ED X G a oa) (hb : ED X G b ob) : ED X G (.BinOp a .FloorDiv b pos) (bind2 divG oa ob) :=
  ed_op2 (f := divG) op_fdivW (fun x y z h => by obtain ⟨h1, h2⟩ := ite_get h; subst h2; exact Sem2.int h1) ha hb
theorem ed_mod (ha : ED X G a oa) (hb : ED X G b ob) : ED X G (.BinOp a .Mod b pos) (bind2 modG oa ob) :=
  ed_op2 (f := modG) op_mod (fun x y z h => by obtain ⟨h1, h2⟩ := ite_get h; subst h2; exact Sem2.int h1) ha hb
theorem ed_pow (ha : ED X G a oa) (hb : ED X G b ob) : ED X G (.BinOp a .Pow b pos) (bind2 powG oa ob) :=
  ed_op2 (f := powG) op_pow (fun x y z h => by obtain ⟨h1, h2⟩ := ite_get h; subst h2; exact Sem2.int h1) ha hb
theorem ed_neg (ha : ED X G a oa) : ED X G (.UnaryOp .USub a pos) (lift1 (fun i => -i) oa) := fun z hz => by
  obtain ⟨x, h1, h2⟩ := lift1_get hz
  subst h2
  refine (pe_un un_neg (ha x h1)).imp fun σ H Q ⟨F, I, ps, R, q⟩ => ⟨F, I, ps, R, fun v H' I' g R' d => ?_⟩
  cases d
  exact ⟨x, rfl, q _ _ _ g R' (.int _)⟩

/-! ### comparisons -/
theorem eb_of_ed {e : Expr} {o : Option Bool} (h : ED X G e o) (he : ∀ whole, isTrue e X.env whole = (do let v ← whole; standAt e.pos; holding [v] (truthy v)) := by intro _; rfl) : EB X G e o := fun k hk =>
  (pt_val (h k hk) he).imp fun σ H Q ⟨F, I, ps, R, q⟩ => ⟨F, I, ps, R, fun v H' I' g R' d => by cases d; exact ⟨k, rfl, q _ _ g R'⟩⟩
/-- a comparison, as a value and as a test -/
def EC (X : Cx) (G : List Sl) (op : CmpOp) (a b : Expr) (o : Option Bool) : Prop := ∀ k, o = some k → ∃ r ta tb, OpR X (compareOp op) r ∧ PE X a ta ∧ PE X b tb ∧ behindInMarks op b = false ∧ ∀ σ H Q, tD X.K G (.bool k) σ H Q → tOp r ta tb σ H Q
theorem ed_cmp {op : CmpOp} {o : Option Bool} (h : EC X G op a b o) : ED X G (.Compare a [op] [b] pos) o := fun k hk => by
  obtain ⟨r, ta, tb, h1, h2, h3, h4, h5⟩ := h k hk
  exact (pe_cmpR h1 h2 h3 h4).imp h5
theorem eb_cmp {op : CmpOp} {o : Option Bool} (h : EC X G op a b o) : EB X G (.Compare a [op] [b] pos) o := fun k hk => by
  obtain ⟨r, ta, tb, h1, h2, h3, h4, h5⟩ := h k hk
  refine (pt_cmpR h1 h2 h3 h4).imp fun σ H Q t => ?_
  refine h5 σ H _ ?_
  obtain ⟨F, I, ps, R, q⟩ := t
  exact ⟨F, I, ps, R, fun v H' I' g R' d => by cases d; exact ⟨k, rfl, q _ _ g R'⟩⟩
theorem ec_of {op : CmpOp} {r : R2} {f : α → β → Bool} {oa : Option α} {ob : Option β} (ho : OpR X (compareOp op) r) (hr : ∀ x y, Sem2 X.K r (enc x) (enc y) (.bool (f x y))) (hm : behindInMarks op b = false)
    (ha : ED X G a oa) (hb : ED X G b ob) : EC X G op a b (lift2 f oa ob) := fun k hk => by
  obtain ⟨x, y, h1, h2, h3⟩ := lift2_get hk
  subst h3
  exact ⟨r, _, _, ho, ha x h1, hb y h2, hm, tD_op (hr x y)⟩
theorem ec_lt (ha : ED X G a oa) (hb : ED X G b ob) : EC X G .Lt a b (lift2 (fun i j => decide (i < j)) oa ob) := ec_of op_lt (fun _ _ => Sem2.bool0) (nomark _) ha hb
theorem ec_le (ha : ED X G a oa) (hb : ED X G b ob) : EC X G .LtE a b (lift2 (fun i j => decide (i ≤ j)) oa ob) := ec_of op_le (fun _ _ => Sem2.bool0) (nomark _) ha hb
theorem ec_gt (ha : ED X G a oa) (hb : ED X G b ob) : EC X G .Gt a b (lift2 (fun i j => decide (j < i)) oa ob) := ec_of op_gt (fun _ _ => Sem2.bool0) (nomark _) ha hb
theorem ec_ge (ha : ED X G a oa) (hb : ED X G b ob) : EC X G .GtE a b (lift2 (fun i j => decide (j ≤ i)) oa ob) := ec_of op_ge (fun _ _ => Sem2.bool0) (nomark _) ha hb
theorem ec_eqI (ha : ED X G a oa) (hb : ED X G b ob) : EC X G .Eq a b (lift2 (fun i j => decide (i = j)) oa ob) := ec_of op_eq (fun x y => by
  intro F G σ H I ps v w Q R hv hw q
  cases hv; cases hw
  refine ⟨rfl, ?_⟩
  rw [show decide (V.int x = V.int y) = decide (x = y) by by_cases e : x = y <;> simp [e]]
  exact q _ _ _ Grow.refl R (.bl _)) (nomark _) ha hb
theorem ec_neI (ha : ED X G a oa) (hb : ED X G b ob) : EC X G .NotEq a b (lift2 (fun i j => !decide (i = j)) oa ob) := ec_of op_ne (fun x y => by
  intro F G σ H I ps v w Q R hv hw q
  cases hv; cases hw
  refine ⟨rfl, ?_⟩
  rw [show (!decide (V.int x = V.int y)) = !decide (x = y) by by_cases e : x = y <;> simp [e]]
  exact q _ _ _ Grow.refl R (.bl _)) (nomark _) ha hb
theorem ec_eqB {oa ob : Option Bool} (ha : ED X G a oa) (hb : ED X G b ob) : EC X G .Eq a b (lift2 (fun i j => i == j) oa ob) := ec_of op_eq (fun x y => by
  intro F G σ H I ps v w Q R hv hw q
  cases hv; cases hw
  refine ⟨rfl, ?_⟩
  rw [show decide (V.bl x = V.bl y) = (x == y) by cases x <;> cases y <;> rfl]
  exact q _ _ _ Grow.refl R (.bl _)) (nomark _) ha hb
theorem ec_neB {oa ob : Option Bool} (ha : ED X G a oa) (hb : ED X G b ob) : EC X G .NotEq a b (lift2 (fun i j => i != j) oa ob) := ec_of op_ne (fun x y => by
  intro F G σ H I ps v w Q R hv hw q
  cases hv; cases hw
  refine ⟨rfl, ?_⟩
  rw [show (!decide (V.bl x = V.bl y)) = (x != y) by cases x <;> cases y <;> rfl]
  exact q _ _ _ Grow.refl R (.bl _)) (nomark _) ha hb
theorem ec_eqS {oa ob : Option Str} (ha : ED X G a oa) (hb : ED X G b ob) : EC X G .Eq a b (lift2 (fun i j => decide (i = j)) oa ob) := ec_of op_eq (fun x y => by
  intro F G σ H I ps v w Q R hv hw q
  cases hv; cases hw
  refine ⟨rfl, ?_⟩
  rw [show decide (V.str x = V.str y) = decide (x = y) by by_cases e : x = y <;> simp [e]]
  exact q _ _ _ Grow.refl R (.bl _)) (nomark _) ha hb
theorem ec_neS {oa ob : Option Str} (ha : ED X G a oa) (hb : ED X G b ob) : EC X G .NotEq a b (lift2 (fun i j => !decide (i = j)) oa ob) := ec_of op_ne (fun x y => by
  intro F G σ H I ps v w Q R hv hw q
  cases hv; cases hw
  refine ⟨rfl, ?_⟩
  rw [show (!decide (V.str x = V.str y)) = !decide (x = y) by by_cases e : x = y <;> simp [e]]
  exact q _ _ _ Grow.refl R (.bl _)) (nomark _) ha hb

/-- a < b < c -/
def chainG (f g : Int → Int → Bool) (oa ob oc : Option Int) : Option Bool := oa.bind fun x => ob.bind fun y => bif f x y then oc.bind (fun z => some (g y z)) else some false
theorem pe_never {e : Expr} : PE X e (fun _ _ _ => False) := ⟨fun _ _ _ _ _ _ h => h.elim⟩
theorem tD_chain {r r' : R2} {f g : Int → Int → Bool} (hr : ∀ x y : Int, Sem2 X.K r (enc x) (enc y) (.bool (f x y))) (hr' : ∀ x y : Int, Sem2 X.K r' (enc x) (enc y) (.bool (g x y))) {tc : TE} {x y : Int} {k : Bool}
    (h : (f x y = true ∧ ∃ z, tc = tD X.K G (enc z) ∧ k = g y z) ∨ (f x y = false ∧ k = false)) (σ : L2.St) (H : Hp) (Q : VK) (t : tD X.K G (.bool k) σ H Q) : tChain r r' (tD X.K G (enc x)) (tD X.K G (enc y)) tc σ H Q := by
  obtain ⟨F, I, ps, R, q⟩ := t
  refine ⟨F, I, ps, R, fun v H1 I1 g1 R1 dv => ⟨F, I1, ps, R1, fun w H2 I2 g2 R2 dw => ?_⟩⟩
  refine hr x y F G σ H2 I2 ps v w _ R2 (Dq_mono g2.same _ _ dv) dw fun u H3 I3 g3 R3 du => ?_
  cases du
  refine ⟨f x y, rfl, ?_⟩
  rcases h with ⟨hf, z, rfl, rfl⟩ | ⟨hf, rfl⟩
  · rw [hf, if_pos rfl]
    refine ⟨F, I3, ps, R3, fun w' H4 I4 g4 R4 dw' => ?_⟩
    exact hr' y z F G σ H4 I4 ps w w' Q R4 (Dq_mono (g3.same.trans g4.same) _ _ dw) dw' fun u H5 I5 g5 R5 du => q u H5 I5 (g1.trans (g2.trans (g3.trans (g4.trans g5)))) R5 du
  · rw [hf, if_neg (by decide)]
    exact q _ _ _ (g1.trans (g2.trans g3)) R3 (.bl _)
theorem chainG_get {f g : Int → Int → Bool} {k : Bool} (hk : chainG f g oa ob oc = some k) : ∃ x y, oa = some x ∧ ob = some y ∧ ((f x y = true ∧ ∃ z, oc = some z ∧ k = g y z) ∨ (f x y = false ∧ k = false)) := by
  unfold chainG at hk
  obtain ⟨x, h1, hk⟩ := bind_get hk
  obtain ⟨y, h2, hk⟩ := bind_get hk
  refine ⟨x, y, h1, h2, ?_⟩
  cases hf : f x y with
  | true =>
    rw [hf, cond_true] at hk
    obtain ⟨z, h3, hk⟩ := bind_get hk
    cases hk
    exact .inl ⟨rfl, z, h3, rfl⟩
  | false =>
    rw [hf, cond_false] at hk
    cases hk
    exact .inr ⟨rfl, rfl⟩
theorem ed_chain {op op' : CmpOp} {r r' : R2} {f g : Int → Int → Bool} (ho : OpR X (compareOp op) r) (ho' : OpR X (compareOp op') r') (hr : ∀ x y : Int, Sem2 X.K r (enc x) (enc y) (.bool (f x y))) (hr' : ∀ x y : Int, Sem2 X.K r' (enc x) (enc y) (.bool (g x y)))
    (hm : lastMarks [op, op'] [b, c] = false) (ha : ED X G a oa) (hb : ED X G b ob) (hc : ED X G c oc) : ED X G (.Compare a [op, op'] [b, c] pos) (chainG f g oa ob oc) := fun k hk => by
  obtain ⟨x, y, h1, h2, h⟩ := chainG_get hk
  rcases h with ⟨hf, z, h3, e⟩ | ⟨hf, e⟩
  · exact (pe_chain ho ho' (ha x h1) (hb y h2) (hc z h3) hm).imp (tD_chain hr hr' (.inl ⟨hf, z, rfl, e⟩))
  · exact (pe_chain ho ho' (ha x h1) (hb y h2) pe_never hm).imp (tD_chain hr hr' (.inr ⟨hf, e⟩))
theorem eb_chain {op op' : CmpOp} {r r' : R2} {f g : Int → Int → Bool} (ho : OpR X (compareOp op) r) (ho' : OpR X (compareOp op') r') (hr : ∀ x y : Int, Sem2 X.K r (enc x) (enc y) (.bool (f x y))) (hr' : ∀ x y : Int, Sem2 X.K r' (enc x) (enc y) (.bool (g x y)))
    (hm : lastMarks [op, op'] [b, c] = false) (ha : ED X G a oa) (hb : ED X G b ob) (hc : ED X G c oc) : EB X G (.Compare a [op, op'] [b, c] pos) (chainG f g oa ob oc) := fun k hk => by
  obtain ⟨x, y, h1, h2, h⟩ := chainG_get hk
  have fin : ∀ σ H Q, tB X.K G k σ H Q → tD X.K G (.bool k) σ H (fun x H' => ∃ k, x = .bl k ∧ Q k H') := fun σ H Q ⟨F, I, ps, R, q⟩ => ⟨F, I, ps, R, fun v H' I' g R' d => by cases d; exact ⟨k, rfl, q _ _ g R'⟩⟩
  rcases h with ⟨hf, z, h3, e⟩ | ⟨hf, e⟩
  · exact (pt_chain ho ho' (ha x h1) (hb y h2) (hc z h3) hm).imp fun σ H Q t => tD_chain hr hr' (.inl ⟨hf, z, rfl, e⟩) σ H _ (fin σ H Q t)
  · exact (pt_chain ho ho' (ha x h1) (hb y h2) pe_never hm).imp fun σ H Q t => tD_chain hr hr' (.inr ⟨hf, e⟩) σ H _ (fin σ H Q t)
abbrev cLt : Int → Int → Bool := fun i j => decide (i < j)
abbrev cLe : Int → Int → Bool := fun i j => decide (i ≤ j)
theorem ed_chLeLe (hm : lastMarks [.LtE, .LtE] [b, c] = false) (ha : ED X G a oa) (hb : ED X G b ob) (hc : ED X G c oc) : ED X G (.Compare a [.LtE, .LtE] [b, c] pos) (chainG cLe cLe oa ob oc) := ed_chain op_le op_le (fun _ _ => Sem2.bool0) (fun _ _ => Sem2.bool0) hm ha hb hc
theorem ed_chLeLt (hm : lastMarks [.LtE, .Lt] [b, c] = false) (ha : ED X G a oa) (hb : ED X G b ob) (hc : ED X G c oc) : ED X G (.Compare a [.LtE, .Lt] [b, c] pos) (chainG cLe cLt oa ob oc) := ed_chain op_le op_lt (fun _ _ => Sem2.bool0) (fun _ _ => Sem2.bool0) hm ha hb hc
theorem ed_chLtLe (hm : lastMarks [.Lt, .LtE] [b, c] = false) (ha : ED X G a oa) (hb : ED X G b ob) (hc : ED X G c oc) : ED X G (.Compare a [.Lt, .LtE] [b, c] pos) (chainG cLt cLe oa ob oc) := ed_chain op_lt op_le (fun _ _ => Sem2.bool0) (fun _ _ => Sem2.bool0) hm ha hb hc
theorem ed_chLtLt (hm : lastMarks [.Lt, .Lt] [b, c] = false) (ha : ED X G a oa) (hb : ED X G b ob) (hc : ED X G c oc) : ED X G (.Compare a [.Lt, .Lt] [b, c] pos) (chainG cLt cLt oa ob oc) := ed_chain op_lt op_lt (fun _ _ => Sem2.bool0) (fun _ _ => Sem2.bool0) hm ha hb hc
theorem eb_chLeLe (hm : lastMarks [.LtE, .LtE] [b, c] = false) (ha : ED X G a oa) (hb : ED X G b ob) (hc : ED X G c oc) : EB X G (.Compare a [.LtE, .LtE] [b, c] pos) (chainG cLe cLe oa ob oc) := eb_chain op_le op_le (fun _ _ => Sem2.bool0) (fun _ _ => Sem2.bool0) hm ha hb hc
theorem eb_chLeLt (hm : lastMarks [.LtE, .Lt] [b, c] = false) (ha : ED X G a oa) (hb : ED X G b ob) (hc : ED X G c oc) : EB X G (.Compare a [.LtE, .Lt] [b, c] pos) (chainG cLe cLt oa ob oc) := eb_chain op_le op_lt (fun _ _ => Sem2.bool0) (fun _ _ => Sem2.bool0) hm ha hb hc
theorem eb_chLtLe (hm : lastMarks [.Lt, .LtE] [b, c] = false) (ha : ED X G a oa) (hb : ED X G b ob) (hc : ED X G c oc) : EB X G (.Compare a [.Lt, .LtE] [b, c] pos) (chainG cLt cLe oa ob oc) := eb_chain op_lt op_le (fun _ _ => Sem2.bool0) (fun _ _ => Sem2.bool0) hm ha hb hc
theorem eb_chLtLt (hm : lastMarks [.Lt, .Lt] [b, c] = false) (ha : ED X G a oa) (hb : ED X G b ob) (hc : ED X G c oc) : EB X G (.Compare a [.Lt, .Lt] [b, c] pos) (chainG cLt cLt oa ob oc) := eb_chain op_lt op_lt (fun _ _ => Sem2.bool0) (fun _ _ => Sem2.bool0) hm ha hb hc
/-! ### is None -/
def isNoneD : PyData → Bool
  | .none => true
  | _ => false
theorem Dq.non_iff {H : Hp} {v : V} {d : PyData} (h : Dq H v d) : decide (v = .non) = isNoneD d := by
  cases h <;> rfl
class NonNone (α : Type) [Enc α] : Prop where
  ne : ∀ x : α, enc x ≠ PyData.none
instance : NonNone Int := ⟨fun _ h => by cases h⟩
instance : NonNone Bool := ⟨fun _ h => by cases h⟩
instance : NonNone Str := ⟨fun _ h => by cases h⟩
instance {α : Type} [Enc α] : NonNone (List α) := ⟨fun _ h => by cases h⟩
instance {α : Type} [Enc α] : NonNone (Tup α) := ⟨fun _ h => by cases h⟩
instance {α β : Type} [Enc α] [Enc β] : NonNone (T2 α β) := ⟨fun _ h => by cases h⟩
instance {α β γ : Type} [Enc α] [Enc β] [Enc γ] : NonNone (T3 α β γ) := ⟨fun _ h => by cases h⟩
instance {α β γ δ : Type} [Enc α] [Enc β] [Enc γ] [Enc δ] : NonNone (T4 α β γ δ) := ⟨fun _ h => by cases h⟩
theorem isN_enc {α : Type} [Enc α] [NonNone α] (o : Option α) : isNoneD (enc o) = o.isNone := by
  cases o with
  | none => rfl
  | some x =>
    have h := NonNone.ne x
    show isNoneD (enc x) = false
    cases e : (enc x : PyData) <;> first | rfl | exact absurd e h
theorem ec_isN [NonNone α] {o : Option (Option α)} {j pos'} (ha : ED X G a o) : EC X G .Is a (.Constant .none j pos') (lift1 Option.isNone o) := fun k hk => by
  obtain ⟨x, h1, h2⟩ := lift1_get hk
  refine ⟨_, _, _, op_isN, ha x h1, pe_non, nomark _, fun σ H Q ⟨F, I, ps, R, q⟩ => ⟨F, I, ps, R, fun v H' I' g R' d => ⟨rfl, ?_⟩⟩⟩
  rw [d.non_iff, isN_enc, h2]
  exact q _ _ _ g R' (.bl _)
theorem ec_notN [NonNone α] {o : Option (Option α)} {j pos'} (ha : ED X G a o) : EC X G .IsNot a (.Constant .none j pos') (lift1 Option.isSome o) := fun k hk => by
  obtain ⟨x, h1, h2⟩ := lift1_get hk
  refine ⟨_, _, _, op_notN, ha x h1, pe_non, nomark _, fun σ H Q ⟨F, I, ps, R, q⟩ => ⟨F, I, ps, R, fun v H' I' g R' d => ⟨rfl, ?_⟩⟩⟩
  rw [d.non_iff, isN_enc]
  rw [show (!x.isNone) = k by rw [← h2]; cases x <;> rfl]
  exact q _ _ _ g R' (.bl _)

/-! ### and, or, not, if-else -/
theorem ew_and1 {o : Option Bool} (h : EB X G a o) : EW X G (.BoolOp .And [a] pos) o := fun k hk => pw_and1 (h k hk)
theorem ew_or1 {o : Option Bool} (h : EB X G a o) : EW X G (.BoolOp .Or [a] pos) o := fun k hk => pw_or1 (h k hk)
def andG (o p : Option Bool) : Option Bool := o.bind fun x => bif x then p else some false
def orG (o p : Option Bool) : Option Bool := o.bind fun x => bif x then some true else p
@[simp] theorem andG_some (x : Bool) (p : Option Bool) : andG (some x) p = bif x then p else some false := rfl
@[simp] theorem orG_some (x : Bool) (p : Option Bool) : orG (some x) p = bif x then some true else p := rfl
theorem pw_never {e : Expr} : PW X e (fun _ _ _ => False) := ⟨fun _ _ _ _ _ _ _ h => h.elim⟩
theorem pt_never {e : Expr} : PT X e (fun _ _ _ => False) := ⟨fun _ _ _ _ _ _ h => h.elim⟩
theorem ew_and {rest : List Expr} {o p : Option Bool} (h : EB X G a o) (h' : EW X G (.BoolOp .And (b :: rest) pos) p) : EW X G (.BoolOp .And (a :: b :: rest) pos) (andG o p) := fun k hk => by
  obtain ⟨x, h1, hk⟩ := bind_get hk
  cases x with
  | true =>
    exact (pw_and (h _ h1) (h' k hk)).imp fun σ H Q ⟨F, I, ps, R, q⟩ => ⟨F, I, ps, R, fun H' I' g R' => iteT (⟨F, I', ps, R', fun H2 I2 g2 R2 => q _ _ (g.trans g2) R2⟩)⟩
  | false =>
    cases hk
    exact (pw_and (h _ h1) pw_never).imp fun σ H Q ⟨F, I, ps, R, q⟩ => ⟨F, I, ps, R, fun H' I' g R' => iteF (q _ _ g R')⟩
theorem ew_or {rest : List Expr} {o p : Option Bool} (h : EB X G a o) (h' : EW X G (.BoolOp .Or (b :: rest) pos) p) : EW X G (.BoolOp .Or (a :: b :: rest) pos) (orG o p) := fun k hk => by
  obtain ⟨x, h1, hk⟩ := bind_get hk
  cases x with
  | false =>
    exact (pw_or (h _ h1) (h' k hk)).imp fun σ H Q ⟨F, I, ps, R, q⟩ => ⟨F, I, ps, R, fun H' I' g R' => iteF (⟨F, I', ps, R', fun H2 I2 g2 R2 => q _ _ (g.trans g2) R2⟩)⟩
  | true =>
    cases hk
    exact (pw_or (h _ h1) pw_never).imp fun σ H Q ⟨F, I, ps, R, q⟩ => ⟨F, I, ps, R, fun H' I' g R' => iteT (q _ _ g R')⟩
theorem eb_bool {e : Expr} {o : Option Bool} (h : EW X G e o) : EB X G e o := fun k hk => (h k hk).pt
theorem eb_not {o : Option Bool} (h : EB X G a o) : EB X G (.UnaryOp .Not a pos) (lift1 (fun x => !x) o) := fun k hk => by
  obtain ⟨x, h1, h2⟩ := lift1_get hk
  subst h2
  exact (pt_not (h x h1)).imp fun σ H Q ⟨F, I, ps, R, q⟩ => ⟨F, I, ps, R, fun H' I' g R' => q _ _ g R'⟩
theorem ed_one {op} {e : Expr} {o : Option α} (h : ED X G e o) : ED X G (.BoolOp op [e] pos) o := fun k hk => pe_one (h k hk)
theorem ed_and {rest : List Expr} {o p : Option Bool} (h : ED X G a o) (h' : ED X G (.BoolOp .And (b :: rest) pos) p) : ED X G (.BoolOp .And (a :: b :: rest) pos) (andG o p) := fun k hk => by
  obtain ⟨x, h1, hk⟩ := bind_get hk
  cases x with
  | true =>
    exact (pe_and (h _ h1) (h' k hk)).imp fun σ H Q ⟨F, I, ps, R, q⟩ => ⟨F, I, ps, R, fun v H' I' g R' d => by
      cases d
      exact ⟨true, rfl, iteT ⟨F, I', ps, R', fun v H2 I2 g2 R2 d => q _ _ _ (g.trans g2) R2 d⟩⟩⟩
  | false =>
    cases hk
    exact (pe_and (h _ h1) pe_never).imp fun σ H Q ⟨F, I, ps, R, q⟩ => ⟨F, I, ps, R, fun v H' I' g R' d => by
      cases d
      exact ⟨false, rfl, iteF (q _ _ _ g R' (.bl _))⟩⟩
theorem ed_or {rest : List Expr} {o p : Option Bool} (h : ED X G a o) (h' : ED X G (.BoolOp .Or (b :: rest) pos) p) : ED X G (.BoolOp .Or (a :: b :: rest) pos) (orG o p) := fun k hk => by
  obtain ⟨x, h1, hk⟩ := bind_get hk
  cases x with
  | false =>
    exact (pe_or (h _ h1) (h' k hk)).imp fun σ H Q ⟨F, I, ps, R, q⟩ => ⟨F, I, ps, R, fun v H' I' g R' d => by
      cases d
      exact ⟨false, rfl, iteF ⟨F, I', ps, R', fun v H2 I2 g2 R2 d => q _ _ _ (g.trans g2) R2 d⟩⟩⟩
  | true =>
    cases hk
    exact (pe_or (h _ h1) pe_never).imp fun σ H Q ⟨F, I, ps, R, q⟩ => ⟨F, I, ps, R, fun v H' I' g R' d => by
      cases d
      exact ⟨true, rfl, iteT (q _ _ _ g R' (.bl _))⟩⟩
theorem ed_not {o : Option Bool} (h : ED X G a o) : ED X G (.UnaryOp .Not a pos) (lift1 (fun x => !x) o) := fun k hk => by
  obtain ⟨x, h1, h2⟩ := lift1_get hk
  subst h2
  exact (pe_not (h x h1)).imp fun σ H Q ⟨F, I, ps, R, q⟩ => ⟨F, I, ps, R, fun v H' I' g R' d => by cases d; exact ⟨x, rfl, q _ _ _ g R' (.bl _)⟩⟩
theorem ed_if {t : Expr} {oc : Option Bool} {oa ob : Option α} (hc : EB X G t oc) (ha : ED X G a oa) (hb : ED X G b ob) : ED X G (.IfExp t a b pos) (oc.bind fun c => bif c then oa else ob) := fun k hk => by
  obtain ⟨x, h1, hk⟩ := bind_get hk
  cases x with
  | true =>
    exact (pe_ifExp (hc _ h1) (ha k hk) pe_never).imp fun σ H Q ⟨F, I, ps, R, q⟩ => ⟨F, I, ps, R, fun H' I' g R' => iteT (⟨F, I', ps, R', fun v H2 I2 g2 R2 d => q _ _ _ (g.trans g2) R2 d⟩)⟩
  | false =>
    exact (pe_ifExp (hc _ h1) pe_never (hb k hk)).imp fun σ H Q ⟨F, I, ps, R, q⟩ => ⟨F, I, ps, R, fun H' I' g R' => iteF (⟨F, I', ps, R', fun v H2 I2 g2 R2 d => q _ _ _ (g.trans g2) R2 d⟩)⟩
end
end Lay

set_option Elab.async false
set_option linter.all false
set_option maxRecDepth 100000
/-! Lay3: defs with the guards told (repr wants them), their calls, the law's end. -/
namespace Lay
open PySem PySem.Spec PyProof.Rows L2
open Lay.Enc (enc)

section
variable (P : Program) (w : World) (K : PySem.W.Frag) (mg : Str → Option Value) (base : Heap) (CX : CXT)
/-- a def's promise at depth k, where no guarded builtin runs around -/
structure FnG (k : Nat) (f : Addr) (fd : FuncData) (ps : List Str) (sp : Sp) : Prop where
  ar : ∀ vs H Q E, sp vs H Q E → vs.length = ps.length
  go : ∀ (A : Around) (out : List Env) (s : Shared) (H : Hp) (args : Args) (us : List Value) (vs : List V) (Q : VK) (E : XK), A.guards = some [] → Room k A → Env0 P w K mg base A out s H →
    BindsTo s fd args (ps.zip us) → Vals vs us → sp vs H Q E → codeAny (model P w) A (.call (.ref f) args) (CR CX out P w H s Q E) s
end
section
variable {P : Program} {w : World} {K : PySem.W.Frag} {mg : Str → Option Value} {base : Heap} {CX : CXT}
theorem FnG.up {j k : Nat} {f : Addr} {fd : FuncData} {ps : List Str} {sp : Sp} (F : FnG P w K mg base CX j f fd ps sp) (h : j ≤ k) : FnG P w K mg base CX k f fd ps sp :=
  ⟨F.ar, fun A out s H args us vs Q E g r => F.go A out s H args us vs Q E g (r.mono h)⟩
/-- the def x of the text, by its body -/
theorem fnG {x qual : Str} {st : Stmt} {f : Addr} {fd : FuncData} {N ps : List Str} {k : Nat} {sp : Sp} (F : Fun K x qual st f fd) (S : FnScope N ps (defScope st)) (ar : ∀ vs H Q E, sp vs H Q E → vs.length = ps.length)
    (body : ∀ (cd : Value) (A : Around) (out : List Env) (s : Shared) (H : Hp) (vs : List V) (Q : VK) (E : XK), A.guards = some [] → Room k (A.deeper (envOfC qual (defScope st) s.heap.objs.size f cd)) → sp vs H Q E →
      ∃ t, PSs (cxOf CX P w K mg base N qual (defScope st) f cd A out s H E) (defBody st) t ∧ t { nx := fun _ H' => Q .non H', rt := Q } (start N vs) H) : FnG P w K mg base CX (k + 1) f fd ps sp := by
  obtain ⟨oc, od, kv, dc, pm, an, cd, ct, sl, e, lk, hc⟩ := F.ex
  subst e
  refine ⟨ar, fun A out s H args us vs Q E gd rm en bd rv hs => ?_⟩
  have len := ar _ _ _ _ hs
  have kin : K.In s.heap := en.mod.kin.keeps fun b o e => (en.bs b o e).1
  have nol : s.heap.NoLimit := en.mod.nolimit.keeps fun b o e => (en.bs b o e).1
  refine codeAny_call_function rm.depth (kin _ _ lk) rfl S.co S.gen rfl (PySem.W.codeRec_of kin hc) (bd _ _ _ _ (wpAny_newFunctionEnv_cells S.kind (fun y hy => ?_) fun env he s1 ic => ?_))
  · rcases S.par y.1 (List.of_mem_zip (a := y.1) (b := y.2) hy).1 with q | q
    · exact Or.inl q
    · exact Or.inr ⟨q, PySem.W.cellsFrom_some _ _ _ (Or.inl q)⟩
  · subst he
    obtain ⟨t, pt, tq⟩ := body cd A out s H vs Q E gd (rm.deeper _) hs
    refine ⟨nol.keeps ic.toInCall.keep, codeAny_func (wpAny_mono (pt.run [] s1 (start N vs) H _ (inv_start S rm.hd en len rv ic) tq) (fun fl s2 hq => ?_) fun _ _ z => z)⟩
    cases fl with
    | ret u => exact let ⟨v, _, H', J, r, q⟩ := hq; ⟨v, H', J.os, J.bare, J.base, J.hok, r, q⟩
    | next => exact let ⟨_, H', J, q⟩ := hq; ⟨V.non, H', J.os, J.bare, J.base, J.hok, rfl, q⟩
    | brk => exact let ⟨_, _, _, q⟩ := hq; False.elim q
    | cont => exact let ⟨_, _, _, q⟩ := hq; False.elim q
end

/-! ### the call of a def -/
/-- what is known of a def that is called: it stands at x, keeps its promise at depth k -/
structure Cal (P : Program) (w : World) (K : PySem.W.Frag) (mg : Str → Option Value) (base : Heap) (CX : CXT) (k : Nat) (x : Str) (ps : List Str) (sp : Sp) : Prop where
  ex : ∃ f fd, FnG P w K mg base CX k f fd ps sp ∧ mg x = some (.ref f) ∧ PySem.W.keepIn K (.ref f) = true ∧ Binds K fd ps []
theorem Cal.up {P : Program} {w : World} {K : PySem.W.Frag} {mg : Str → Option Value} {base : Heap} {CX : CXT} {j k : Nat} {x : Str} {ps : List Str} {sp : Sp} (C : Cal P w K mg base CX j x ps sp) (h : j ≤ k) : Cal P w K mg base CX k x ps sp :=
  let ⟨f, fd, F, a, b, c⟩ := C.ex; ⟨f, fd, F.up h, a, b, c⟩
section
variable {X : Cx} {CX : CXT} {k : Nat} {x : Str} {ps : List Str} {sp : Sp} {E : XK} {e : Expr} {es : List Expr} {t : TA} {p pos : Pos}
theorem glbB_gl {sc : Scope} (hs : X.env.scope = sc) (h : glbB sc x = true) : Gl X x ∧ (x == ("__debug__" : Str)) = false := by
  unfold glbB at h
  simp only [Bool.and_eq_true, Bool.not_eq_true'] at h
  refine ⟨?_, h.2⟩
  show X.env.scope.names.lookup x = _
  rw [hs]
  have h1 := h.1
  split at h1
  · assumption
  · cases h1
theorem run_call {pins : List (Addr × Obj)} {σ : L2.St} {H : Hp} {s : Shared} {Q : VK} {f : Addr} {fd : FuncData} {us : List Value} {vs : List V} (F : FnG X.prog X.w X.K X.mg X.base CX k f fd ps sp) (gd : X.A.guards = some []) (rm : Room k X.A) (bd : Binds X.K fd ps []) (hx : Passes CX X E)
    (I : Inv X pins σ H s) (rv : Vals vs us) (h : sp vs H Q E) : wpAny (model X.prog X.w) X.A (call (.ref f) us) (EP X pins σ Q) X.xe s := by
  have hn : (us ++ []).length = ps.length := by rw [List.append_nil, ← rv.length]; exact F.ar _ _ _ _ h
  have hb := bd s us I.kIn hn
  rw [List.append_nil] at hb
  refine wpAny_call (codeAny_mono (F.go X.A X.stack s H ⟨us, []⟩ us vs Q E gd rm I.env0 hb rv h) fun r s2 hq => ?_)
  match r, hq with
  | .error e, hq => exact hx pins σ H s e s2 I hq
  | .ok (.ret u), hq => exact I.after hq
theorem pe_callG {sc : Scope} (C : Cal X.prog X.w X.K X.mg X.base CX k x ps sp) (gd : X.A.guards = some []) (rm : Room k X.A) (hs : X.env.scope = sc) (hg : glbB sc x = true) (hx : Passes CX X E) (ha : PA X (e :: es) t)
    (he : starEach (e :: es) X.env = (false, eval e X.env) :: starEach es X.env := by rfl) (hp : (backTo pos (starEach es X.env)).any (·.1) = false := by rfl) :
    PE X (.Call (.Name x p) (e :: es) [] pos) (fun σ H Q => t σ H fun vs H1 => sp vs H1 Q E) := by
  obtain ⟨f, fd, F, hm, hk, bd⟩ := C.ex
  obtain ⟨gl, db⟩ := glbB_gl hs hg
  refine ⟨fun pins s σ H Q I h => wpAny_Call_Name_kw (ld_glob I gl hm ?_ db)⟩
  refine PySem.W.callWith_K (h₀ := X.base) I.ok.mod.kin hk (thn (ha.run pos pins s σ H _ I h) fun us s1 a => ?_) he hp
  obtain ⟨vs, H1, I1, rv, q⟩ := a
  exact ⟨I1.kIn, run_call F gd rm bd hx I1 rv q⟩
end

/-! ### the law's end -/
section
variable {P : Program} {w : World} {K : PySem.W.Frag} {mg mb : Str → Option Value} {k : Nat} {fa a : Addr} {fd : FuncData} {x : Str} {sp : Sp} {s1 : Shared} {vs : List Value} {ns : List Int}
/-- what must hold of the abstract heap at the law's entry: at most the script is tracked -/
structure Entry (K : PySem.W.Frag) (s1 : Shared) (a : Addr) (ns : List Int) (H : Hp) (P : Program) (w : World) : Prop where
  only : Only H
  seq : SqL K H a (ns.map V.int)
  ok : HOk P w H s1.heap
  just : ∀ b u, H b = some u → b = a
  nk : ∀ u, H a = some u → K.lookup a = none
theorem entry_ex (kx : K.In s1.heap) (ha : s1.heap.get? a = some { cls := .type "list", data := .seq vs.toArray }) (hi : IntsAre vs ns) (hl : ns.length ≤ sizeLine) : ∃ H, Entry K s1 a ns H P w := by
  have rv := vals_ints hi
  have ln := hi.length
  cases q : K.lookup a with
  | some o =>
    have e : some o = _ := (kx a o q).symm.trans ha
    cases e
    refine ⟨fun _ => none, fun _ => Or.inl rfl, Or.inr ⟨_, vs.toArray, _, q, rfl, rfl, rfl, ?_, by simpa using rv⟩, fun b u z => (nomatch z), fun b u z => (nomatch z), fun u z => (nomatch z)⟩
    rw [List.size_toArray, ln]; exact hl
  | none =>
    let ob : Obj := { cls := .type "list", data := .seq vs.toArray }
    have at1 : ∀ {b u}, (if b = a then some (HO.frz ob (.lst (ns.map V.int))) else none) = some u → b = a ∧ u = HO.frz ob (.lst (ns.map V.int)) := fun {b u} z => by
      by_cases c : b = a
      · rw [if_pos c] at z; exact ⟨c, (Option.some.inj z).symm⟩
      · rw [if_neg c] at z; cases z
    refine ⟨fun b => if b = a then some (.frz ob (.lst (ns.map V.int))) else none, fun b => ?_, Or.inl (Or.inr ⟨ob, if_pos rfl⟩), fun b u z => ?_, fun b u z => (at1 z).1, fun _ _ => q⟩
    · by_cases c : b = a
      · exact Or.inr ⟨_, _, if_pos c⟩
      · exact Or.inl (if_neg c)
    · obtain ⟨rfl, rfl⟩ := at1 z
      exact ⟨ha, by rw [List.length_map]; exact hl, vs, _, rv, ha⟩
theorem law_end (kx : K.In s1.heap) (hns : s1.heap.Ns mainGlobals mg) (hb : s1.heap.Ns builtinsNs mb) (hbb : ∀ x : Str, x ≠ "__name__" → mb x = bootBuiltins x) (hlim : s1.heap.NoLimit) (hg : s1.gens = #[])
    (ha : s1.heap.get? a = some { cls := .type "list", data := .seq vs.toArray }) (hi : IntsAre vs ns) (hl : ns.length ≤ sizeLine) (hr : Room k callerA)
    (F : ∀ base : Heap, K.In base → base.Ns mainGlobals mg → FnG P w K mg base CX0 k fa fd [x] sp) (bind : ∀ (s : Shared) (u : Value), BindsTo s fd ⟨[u], []⟩ [(x, u)])
    (hsp : ∀ H : Hp, Only H → SqL K H a (ns.map V.int) → sp [.ref a] H (fun v _ => v = .bl true) fun _ _ _ => False) :
    codeAny (model P w) callerA (.call (.ref fa) ⟨[.ref a], []⟩) (fun r s' => r = .ok (.ret (.bool true)) ∧ OldK s1.heap s'.heap ∧ s'.os = s1.os ∧ AllBare s'.gens) s1 := by
  obtain ⟨H, en⟩ := entry_ex (P := P) (w := w) kx ha hi hl
  -- the heap without the script is the base
  have out : ∀ {b : Addr} {o : Obj}, s1.heap.get? b = some o → (∀ u, H b ≠ some u) → (hidT s1.heap H).get? b = some o := fun {b o} e n => hidT_get e (by
    cases q : H b with
    | none => rfl
    | some u => exact absurd q (n u))
  have dict : ∀ {b : Addr} {o : Obj} {es : Array DictEntry} {ep : Nat}, s1.heap.get? b = some o → o.data = .dict es ep → ∀ u, H b ≠ some u := fun {b o es ep} e d u q => by
    have := en.just b u q
    subst this
    rw [ha] at e; cases e; cases d
  have ns1 : ∀ {b : Addr} {m : Str → Option Value}, s1.heap.Ns b m → (hidT s1.heap H).Ns b m := fun ⟨o, es, ep, e, d, r⟩ => ⟨o, es, ep, out e (dict e d), d, r⟩
  have kb : K.In (hidT s1.heap H) := fun b o e => out (kx b o e) fun u q => by
    have := en.just b u q
    subst this
    rw [en.nk u q] at e; cases e
  obtain ⟨ml, l1, l2⟩ := hlim
  have md : Mod K mg (hidT s1.heap H) := ⟨kb, ns1 hns, ⟨mb, ns1 hb, hbb⟩, ⟨ml, ns1 l1, l2⟩⟩
  have e0 : Env0 P w K mg (hidT s1.heap H) callerA [] s1 H := ⟨rfl, md, fun b o e => of_hidT e, Nat.le_of_eq (hidT_size _ _), trivial, fun b z => (nomatch (show b ∈ ([] : List Addr) from z)), en.ok, .of_eq hg⟩
  refine codeAny_mono ((F _ kb (ns1 hns)).go callerA [] s1 H ⟨[.ref a], []⟩ [.ref a] [.ref a] _ _ rfl hr e0 (bind s1 (.ref a)) (.cons rfl .nil) (hsp H en.only en.seq)) fun r s2 h => ?_
  match r, h with
  | .error e, h => exact False.elim h
  | .ok (.ret u), h =>
    obtain ⟨v, H2, os, bare, un, ok2, rel, q⟩ := h
    have q : v = .bl true := q
    subst q
    have rel : u = Value.bool true := rel
    subst rel
    refine ⟨rfl, OldK.of_keep fun b o e => ?_, os, bare⟩
    cases q : H b with
    | none => exact un.keep b o e q (fun z => (nomatch (show b ∈ ([] : List Addr) from z))) (fun z => (nomatch z))
    | some u =>
      rcases en.only b with z | ⟨o1, xs, z⟩
      · rw [z] at q; cases q
      · have h1 := (en.ok b _ z).1
        have h2 := (ok2 b _ (un.frzs b o1 _ z)).1
        rw [e] at h1; cases h1
        exact h2
end
theorem law_walk {l : PySem.W.OpenLaw} {n k : Nat} {q : Program} {loose : List Str} {XP : (Str → Option Value) → Heap → Prop} {YP : World → Heap → Prop} {d : DefRec} {K : Params → PySem.W.Frag} {sp : PySem.W.Frag → Sp} {x : Str}
    (hn : l.most = some n) (hn2 : n ≤ sizeLine) (hdf : d.params.defaults = []) (hr : Room k callerA) (hY : ∀ (w : World) (h : Heap), YP w h → (K w.params).In h)
    (F : ∀ (w : World) (mg : Str → Option Value) (fa : Addr) (h : Heap), (K w.params).In h → h.Ns mainGlobals mg → mg d.name = some (.ref fa) →
      ∃ fd : FuncData, (∀ (s : Shared) (u : Value), BindsTo s fd ⟨[u], []⟩ [(x, u)]) ∧ ∀ base : Heap, (K w.params).In base → base.Ns mainGlobals mg → FnG l.prog w (K w.params) mg base CX0 k fa fd [x] (sp (K w.params)))
    (hsp : ∀ (K : PySem.W.Frag) (H : Hp) (a : Addr) (ns : List Int), ns.length ≤ n → Only H → SqL K H a (ns.map V.int) → sp K [.ref a] H (fun v _ => v = .bl true) fun _ _ _ => False) :
    PySem.W.WalkO q loose XP YP l.row.toRowW d [] (fun f vs => PySem.call f vs) := by
  refine Att.attach_call hn hdf fun w s0 s1 mg mb fa o pm cd doc a vs ns G Y ho hd hcd hmg hobj hints hlen hg => ?_
  have kx := hY w _ Y
  obtain ⟨fd, hb, hF⟩ := F w mg fa _ kx G.T.g hmg
  exact law_end kx G.T.g G.T.b G.T.builtins G.T.nolimit hg hobj hints (Nat.le_trans hlen hn2) hr hF hb fun H hO hS => hsp _ H a ns hlen hO hS
end Lay

set_option Elab.async false
set_option linter.all false
set_option maxRecDepth 100000
/-! Lay4: what a def promises on data; its call; statements. -/
namespace Lay
open PySem PySem.Spec PyProof.Rows L2
open Lay.Enc (enc)

/-! ### promises -/
/-- how an answer is handed on: as data; as a list of the caller's own; as data whose lists are new -/
inductive Rq where
  | dd
  | ow
  | nw
/-- .. and whether only what F has must be kept -/
structure Rk where
  k : Rq
  m : Bool
abbrev Rk.s (o : Rk) : Rk := ⟨o.k, false⟩
def GrowB (m : Bool) (F I I' : Hp) : Prop := match m with
  | false => Grow F I I'
  | true => Grow F (rgO F I) I'
theorem rgO_grow {F I J : Hp} (a : Grow F I J) : Grow F (rgO F I) (rgO F J) := ⟨rgO_mono a.same, fun x h => by
  unfold rgO at h ⊢
  cases e : F x with
  | none => rw [e] at h; exact absurd rfl h
  | some u => rw [e] at h; rcases a.out x h with z | z
              · exact .inl z
              · rw [e] at z; cases z⟩
theorem Grow.transB {m : Bool} {F I J L : Hp} (a : Grow F I J) (b : GrowB m F J L) : GrowB m F I L := by
  cases m with
  | false => exact Grow.trans a b
  | true => exact Grow.trans (rgO_grow a) b
theorem GrowB.trans {m : Bool} {F I J L : Hp} (a : GrowB m F I J) (b : GrowB m F J L) : GrowB m F I L := by
  cases m with
  | false => exact Grow.trans a b
  | true =>
    refine ⟨fun x u h => b.same _ _ ?_, fun x h => ?_⟩
    · have h2 := a.same _ _ h
      unfold rgO at h ⊢
      cases e : F x with
      | none => rw [e] at h; cases h
      | some w => exact h2
    · rcases b.out x h with z | z
      · exact a.out x fun w => z (by unfold rgO; cases F x <;> simp [w])
      · exact .inr z
theorem Grow.b {m : Bool} {F I J : Hp} (a : Grow F I J) : GrowB m F I J := by
  cases m with
  | false => exact a
  | true => exact ⟨fun x u h => a.same _ _ (rgO_le _ _ h), fun x h => by
      rcases a.out x h with z | z
      · by_cases c : F x = none
        · exact .inr c
        · refine .inl ?_
          unfold rgO
          cases e : F x with
          | none => exact absurd e c
          | some u => exact z
      · exact .inr z⟩
def RetR (K : PySem.W.Frag) (own : Rq) (F I' H' : Hp) (v : V) (r : PyData) : Prop :=
  match own with
  | .dd => Dq I' v r
  | .nw => Dq (rgN F I') v r
  | .ow => ∃ p xs ds, v = .ref p ∧ r = .list ds ∧ I' p = none ∧ F p = none ∧ H' p = some (.lst xs) ∧ DqAll I' xs ds
/-- called with data ds where g ds r: it gives r, all that stood is kept -/
def spD (K : PySem.W.Frag) (own : Rq) (g : List PyData → PyData → Prop) : Sp := fun vs H Q _ =>
  ∃ ds r I, g ds r ∧ Same I H ∧ DqAll I vs ds ∧ ∀ v H' I', Same H H' → Grow H I I' → Same I' H' → RetR K own H I' H' v r → Q v H'
section
variable {X : Cx} {G : List Sl} {α β γ : Type} [Enc α] [Enc β] [Enc γ]
theorem ad_nil : AD X G [] (some []) := fun ds h => by
  cases h
  exact pa_nil.imp fun σ H Q ⟨F, I, ps, R, q⟩ => q _ _ _ Grow.refl R .nil
theorem ad_cons {e : Expr} {es : List Expr} {o : Option α} {ods : Option (List PyData)} (h : ED X G e o) (hr : AD X G es ods) (hs : starEach (e :: es) X.env = (false, eval e X.env) :: starEach es X.env := by rfl) :
    AD X G (e :: es) (lift2 (fun x ds => enc x :: ds) o ods) := fun ds hd => by
  obtain ⟨x, ds', h1, h2, h3⟩ := lift2_get hd
  subst h3
  exact (pa_cons (h x h1) (hr ds' h2) hs).imp fun σ H Q ⟨F, I, ps, R, q⟩ => ⟨F, I, ps, R, fun v H1 I1 g1 R1 d1 => ⟨F, I1, ps, R1, fun vs H2 I2 g2 R2 d2 => q _ _ _ (g1.trans g2) R2 (.cons (Dq_mono g2.same _ _ d1) d2)⟩⟩
/-- all items of one type -/
def AL (X : Cx) (G : List Sl) {α : Type} [Enc α] (es : List Expr) (o : Option (List α)) : Prop := ∀ l, o = some l → PA X es (tA X.K G (l.map enc))
theorem al_nil : AL X G [] (some ([] : List α)) := fun l h => by
  cases h
  exact pa_nil.imp fun σ H Q ⟨F, I, ps, R, q⟩ => q _ _ _ Grow.refl R .nil
theorem al_cons {e : Expr} {es : List Expr} {o : Option α} {ol : Option (List α)} (h : ED X G e o) (hr : AL X G es ol) (hs : starEach (e :: es) X.env = (false, eval e X.env) :: starEach es X.env := by rfl) :
    AL X G (e :: es) (lift2 List.cons o ol) := fun l hl => by
  obtain ⟨x, l', h1, h2, h3⟩ := lift2_get hl
  subst h3
  exact (pa_cons (h x h1) (hr l' h2) hs).imp fun σ H Q ⟨F, I, ps, R, q⟩ => ⟨F, I, ps, R, fun v H1 I1 g1 R1 d1 => ⟨F, I1, ps, R1, fun vs H2 I2 g2 R2 d2 => q _ _ _ (g1.trans g2) R2 (.cons (Dq_mono g2.same _ _ d1) d2)⟩⟩
theorem al_star {e : Expr} {p : Pos} {es : List Expr} {o ol : Option (List α)} (h : ED X G e o) (hr : AL X G es ol) (hs : starEach (.Starred e p :: es) X.env = (true, eval e X.env) :: starEach es X.env := by rfl) :
    AL X G (.Starred e p :: es) (lift2 (· ++ ·) o ol) := fun l hl => by
  obtain ⟨x, l', h1, h2, h3⟩ := lift2_get hl
  subst h3
  refine (StX.pa_star (h x h1) (hr l' h2) hs).imp fun σ H Q ⟨F, I, ps, R, q⟩ => ⟨F, I, ps, R, fun v H1 I1 g1 R1 d1 => ?_⟩
  cases d1 with
  | lst k1 k2 => exact ⟨_, _, rfl, .inr (.inl (rd_mono R1.si k1)), F, I1, ps, R1, fun vs H2 I2 g2 R2 d2 => q _ _ _ (g1.trans g2) R2 (by rw [List.map_append]; exact (DqAll_mono g2.same _ _ k2).app d2)⟩
theorem al_starT {e : Expr} {p : Pos} {es : List Expr} {o : Option (Tup α)} {ol : Option (List α)} (h : ED X G e o) (hr : AL X G es ol) (hs : starEach (.Starred e p :: es) X.env = (true, eval e X.env) :: starEach es X.env := by rfl) :
    AL X G (.Starred e p :: es) (lift2 (fun t l => t.l ++ l) o ol) := fun l hl => by
  obtain ⟨x, l', h1, h2, h3⟩ := lift2_get hl
  subst h3
  refine (StX.pa_star (h x h1) (hr l' h2) hs).imp fun σ H Q ⟨F, I, ps, R, q⟩ => ⟨F, I, ps, R, fun v H1 I1 g1 R1 d1 => ?_⟩
  cases d1 with
  | tup k1 k2 => exact ⟨_, _, rfl, .inl (.inl (rd_mono R1.si k1)), F, I1, ps, R1, fun vs H2 I2 g2 R2 d2 => q _ _ _ (g1.trans g2) R2 (by rw [List.map_append]; exact (DqAll_mono g2.same _ _ k2).app d2)⟩
/-- displays -/
def szG {α : Type} (l : List α) : Option (List α) := if l.length ≤ sizeLine then some l else none
theorem eo_list {es : List Expr} {pos : Pos} {ol : Option (List α)} (h : AL X G es ol) : EO X G (.List es pos) (ol.bind szG) := fun l hl => by
  obtain ⟨x, h1, h2⟩ := bind_get hl
  obtain ⟨hz, e⟩ := ite_get h2
  subst e
  exact (pe_lst (h x h1)).imp fun σ H Q ⟨F, I, ps, R, q⟩ => ⟨F, I, ps, R, fun vs H1 I1 g1 R1 d => ⟨by rw [d.len, List.length_map]; exact hz, fun p hp =>
    q p vs _ I1 g1 (R1.newOwn hp) (R1.si.free hp) (R1.sf.free hp) (fun i c => by obtain ⟨_, _, _, z⟩ := R1.own_at c; rw [hp] at z; cases z) upd_same d⟩⟩
theorem tup_of {es : List Expr} {k : Nat} {pos : Pos} {ds : List PyData} {r : PyData} (h : PA X es (tA X.K G ds)) (hz : ds.length ≤ sizeLine) (hr : r = .tuple ds) : PE X (.Tuple es k pos) (tD X.K G r) := by
  subst hr
  exact (pe_tup h).imp fun σ H Q ⟨F, I, ps, R, q⟩ => ⟨F, I, ps, R, fun vs H1 I1 g1 R1 d => ⟨by rw [d.len]; exact hz, fun p hp =>
    q (.ref p) _ _ (g1.trans (R1.grow_new hp)) (R1.new hp) (.tup (.inl upd_same) (DqAll_mono (R1.grow_new (o := .tup vs) hp).same _ _ d))⟩⟩
theorem ed_tup {es : List Expr} {k : Nat} {pos : Pos} {ol : Option (List α)} (h : AL X G es ol) : ED X G (.Tuple es k pos) (lift1 Tup.mk (ol.bind szG)) := fun t ht => by
  obtain ⟨x, h1, h2⟩ := lift1_get ht
  obtain ⟨y, h3, h4⟩ := bind_get h1
  obtain ⟨hz, e⟩ := ite_get h4
  subst e h2
  exact tup_of (h y h3) (by rw [List.length_map]; exact hz) rfl
theorem small_line {n : Nat} (h : n ≤ 8) : n ≤ sizeLine := Nat.le_trans h (by decide)
def lift3 {α β γ δ : Type} (f : α → β → γ → δ) (a : Option α) (b : Option β) (c : Option γ) : Option δ := a.bind fun x => b.bind fun y => c.bind fun z => some (f x y z)
def lift4 {α β γ δ ε : Type} (f : α → β → γ → δ → ε) (a : Option α) (b : Option β) (c : Option γ) (d : Option δ) : Option ε := a.bind fun x => b.bind fun y => c.bind fun z => d.bind fun w => some (f x y z w)
@[simp] theorem lift3_some {α β γ δ : Type} (f : α → β → γ → δ) (a : α) (b : β) (c : γ) : lift3 f (some a) (some b) (some c) = some (f a b c) := rfl
@[simp] theorem lift4_some {α β γ δ ε : Type} (f : α → β → γ → δ → ε) (a : α) (b : β) (c : γ) (d : δ) : lift4 f (some a) (some b) (some c) (some d) = some (f a b c d) := rfl
theorem ed_t2 {e1 e2 : Expr} {k : Nat} {pos : Pos} {oa : Option α} {ob : Option β} (ha : ED X G e1 oa) (hb : ED X G e2 ob) (s1 : starEach [e1, e2] X.env = (false, eval e1 X.env) :: starEach [e2] X.env := by rfl) (s2 : starEach [e2] X.env = [(false, eval e2 X.env)] := by rfl) :
    ED X G (.Tuple [e1, e2] k pos) (lift2 T2.mk oa ob) := fun t ht => by
  obtain ⟨x, y, h1, h2, h3⟩ := lift2_get ht
  subst h3
  exact tup_of (ad_cons ha (ad_cons hb ad_nil s2) s1 _ (by rw [h1, h2]; rfl)) (small_line (by show 2 ≤ 8; decide)) rfl
theorem ed_t3 {e1 e2 e3 : Expr} {k : Nat} {pos : Pos} {oa : Option α} {ob : Option β} {oc : Option γ} (ha : ED X G e1 oa) (hb : ED X G e2 ob) (hc : ED X G e3 oc)
    (s1 : starEach [e1, e2, e3] X.env = (false, eval e1 X.env) :: starEach [e2, e3] X.env := by rfl) (s2 : starEach [e2, e3] X.env = (false, eval e2 X.env) :: starEach [e3] X.env := by rfl) (s3 : starEach [e3] X.env = [(false, eval e3 X.env)] := by rfl) :
    ED X G (.Tuple [e1, e2, e3] k pos) (lift3 T3.mk oa ob oc) := fun t ht => by
  obtain ⟨x, h1, ht⟩ := bind_get ht
  obtain ⟨y, h2, ht⟩ := bind_get ht
  obtain ⟨z, h3, ht⟩ := bind_get ht
  cases ht
  exact tup_of (ad_cons ha (ad_cons hb (ad_cons hc ad_nil s3) s2) s1 _ (by rw [h1, h2, h3]; rfl)) (small_line (by show 3 ≤ 8; decide)) rfl
theorem ed_t4 {δ : Type} [Enc δ] {e1 e2 e3 e4 : Expr} {k : Nat} {pos : Pos} {oa : Option α} {ob : Option β} {oc : Option γ} {od : Option δ} (ha : ED X G e1 oa) (hb : ED X G e2 ob) (hc : ED X G e3 oc) (hd : ED X G e4 od)
    (s1 : starEach [e1, e2, e3, e4] X.env = (false, eval e1 X.env) :: starEach [e2, e3, e4] X.env := by rfl) (s2 : starEach [e2, e3, e4] X.env = (false, eval e2 X.env) :: starEach [e3, e4] X.env := by rfl) (s3 : starEach [e3, e4] X.env = (false, eval e3 X.env) :: starEach [e4] X.env := by rfl) (s4 : starEach [e4] X.env = [(false, eval e4 X.env)] := by rfl) :
    ED X G (.Tuple [e1, e2, e3, e4] k pos) (lift4 T4.mk oa ob oc od) := fun t ht => by
  obtain ⟨x, h1, ht⟩ := bind_get ht
  obtain ⟨y, h2, ht⟩ := bind_get ht
  obtain ⟨z, h3, ht⟩ := bind_get ht
  obtain ⟨w, h4, ht⟩ := bind_get ht
  cases ht
  exact tup_of (ad_cons ha (ad_cons hb (ad_cons hc (ad_cons hd ad_nil s4) s3) s2) s1 _ (by rw [h1, h2, h3, h4]; rfl)) (small_line (by show 4 ≤ 8; decide)) rfl

/-! ### the call of a def -/
/-- behind a call: the state -/
theorem RS.called {K : PySem.W.Frag} {F H I H' I' : Hp} {σ : L2.St} {ps : Nat → Option Addr} (R : RS K F G σ H I ps) (s : Same H H') (g : Grow H I I') (si : Same I' H') : Grow F I I' ∧ RS K F G σ H' I' ps := by
  refine ⟨⟨g.same, fun a h => (g.out a h).imp_right R.sf.free⟩, R.grow s si g.same fun i a ha => ?_⟩
  obtain ⟨n, _, xs, q⟩ := R.own_at ha
  cases z : I' a with
  | none => rfl
  | some o =>
    rcases g.out a (by rw [z]; simp) with h | h
    · exact absurd n h
    · rw [q] at h; cases h
section
variable {N : List Str} {sc : Scope} {fs : Option Scope} {k j : Nat} {x : Str} {prm : List Str} {g : List PyData → PyData → Prop} {e : Expr} {es : List Expr} {p pos : Pos} {ods : Option (List PyData)}
theorem ed_call {o : Option α} (C : Ctx X N sc fs k) (c : Cal X.prog X.w X.K X.mg X.base CX0 j x prm (spD X.K .dd g)) (hj : j ≤ k) (hg : glbB sc x = true) (ha : AD X G (e :: es) ods) (ho : ∀ r, o = some r → ∃ ds, ods = some ds ∧ g ds (enc r))
    (he : starEach (e :: es) X.env = (false, eval e X.env) :: starEach es X.env := by rfl) (hp : (backTo pos (starEach es X.env)).any (·.1) = false := by rfl) : ED X G (.Call (.Name x p) (e :: es) [] pos) o := fun r hr => by
  obtain ⟨ds, h1, h2⟩ := ho r hr
  refine (pe_callG (c.up hj) C.gd C.rm C.s hg (pass0 (X := X)) (ha ds h1) he hp).imp fun σ H Q ⟨F, I, ps, R, q⟩ => ⟨F, I, ps, R, fun vs H1 I1 g1 R1 d => ⟨ds, _, I1, h2, R1.si, d, fun v H' I' s g' si rr => ?_⟩⟩
  obtain ⟨g2, R2⟩ := R1.called s g' si
  exact q v H' I' (g1.trans g2) R2 rr
theorem eo_call {o : Option (List α)} (C : Ctx X N sc fs k) (c : Cal X.prog X.w X.K X.mg X.base CX0 j x prm (spD X.K .ow g)) (hj : j ≤ k) (hg : glbB sc x = true) (ha : AD X G (e :: es) ods) (ho : ∀ r, o = some r → ∃ ds, ods = some ds ∧ g ds (enc r))
    (he : starEach (e :: es) X.env = (false, eval e X.env) :: starEach es X.env := by rfl) (hp : (backTo pos (starEach es X.env)).any (·.1) = false := by rfl) : EO X G (.Call (.Name x p) (e :: es) [] pos) o := fun r hr => by
  obtain ⟨ds, h1, h2⟩ := ho r hr
  refine (pe_callG (c.up hj) C.gd C.rm C.s hg (pass0 (X := X)) (ha ds h1) he hp).imp fun σ H Q ⟨F, I, ps, R, q⟩ => ⟨F, I, ps, R, fun vs H1 I1 g1 R1 d => ⟨ds, _, I1, h2, R1.si, d, fun v H' I' s g' si rr => ?_⟩⟩
  obtain ⟨g2, R2⟩ := R1.called s g' si
  obtain ⟨p, xs, ds', e1, e2, n1, n2, hH, dd⟩ := rr
  subst e1
  cases e2
  exact q p xs H' I' (g1.trans g2) R2 n1 (R1.sf.free n2) (fun i c => by obtain ⟨_, _, _, z⟩ := R1.own_at c; rw [n2] at z; cases z) hH dd
end
end
def g1 {α ρ : Type} [Enc α] [Enc ρ] (m : α → Option ρ) : List PyData → PyData → Prop := fun ds r => ∃ a x, ds = [enc a] ∧ m a = some x ∧ r = enc x
def g2 {α β ρ : Type} [Enc α] [Enc β] [Enc ρ] (m : α → β → Option ρ) : List PyData → PyData → Prop := fun ds r => ∃ a b x, ds = [enc a, enc b] ∧ m a b = some x ∧ r = enc x
def g3 {α β γ ρ : Type} [Enc α] [Enc β] [Enc γ] [Enc ρ] (m : α → β → γ → Option ρ) : List PyData → PyData → Prop := fun ds r => ∃ a b c x, ds = [enc a, enc b, enc c] ∧ m a b c = some x ∧ r = enc x
def g4 {α β γ δ ρ : Type} [Enc α] [Enc β] [Enc γ] [Enc δ] [Enc ρ] (m : α → β → γ → δ → Option ρ) : List PyData → PyData → Prop := fun ds r => ∃ a b c d x, ds = [enc a, enc b, enc c, enc d] ∧ m a b c d = some x ∧ r = enc x
def g5 {α β γ δ ε ρ : Type} [Enc α] [Enc β] [Enc γ] [Enc δ] [Enc ε] [Enc ρ] (m : α → β → γ → δ → ε → Option ρ) : List PyData → PyData → Prop := fun ds r => ∃ a b c d e x, ds = [enc a, enc b, enc c, enc d, enc e] ∧ m a b c d e = some x ∧ r = enc x
def app1 {α ρ : Type} (m : α → Option ρ) (a : Option α) : Option ρ := a.bind m
def app2 {α β ρ : Type} (m : α → β → Option ρ) (a : Option α) (b : Option β) : Option ρ := a.bind fun x => b.bind fun y => m x y
def app3 {α β γ ρ : Type} (m : α → β → γ → Option ρ) (a : Option α) (b : Option β) (c : Option γ) : Option ρ := a.bind fun x => b.bind fun y => c.bind fun z => m x y z
def app4 {α β γ δ ρ : Type} (m : α → β → γ → δ → Option ρ) (a : Option α) (b : Option β) (c : Option γ) (d : Option δ) : Option ρ := a.bind fun x => b.bind fun y => c.bind fun z => d.bind fun w => m x y z w
def app5 {α β γ δ ε ρ : Type} (m : α → β → γ → δ → ε → Option ρ) (a : Option α) (b : Option β) (c : Option γ) (d : Option δ) (e : Option ε) : Option ρ := a.bind fun x => b.bind fun y => c.bind fun z => d.bind fun w => e.bind fun v => m x y z w v
@[simp] theorem app1_some {α ρ : Type} (m : α → Option ρ) (a : α) : app1 m (some a) = m a := rfl
@[simp] theorem app2_some {α β ρ : Type} (m : α → β → Option ρ) (a : α) (b : β) : app2 m (some a) (some b) = m a b := rfl
@[simp] theorem app3_some {α β γ ρ : Type} (m : α → β → γ → Option ρ) (a : α) (b : β) (c : γ) : app3 m (some a) (some b) (some c) = m a b c := rfl
@[simp] theorem app4_some {α β γ δ ρ : Type} (m : α → β → γ → δ → Option ρ) (a : α) (b : β) (c : γ) (d : δ) : app4 m (some a) (some b) (some c) (some d) = m a b c d := rfl
@[simp] theorem app5_some {α β γ δ ε ρ : Type} (m : α → β → γ → δ → ε → Option ρ) (a : α) (b : β) (c : γ) (d : δ) (e : ε) : app5 m (some a) (some b) (some c) (some d) (some e) = m a b c d e := rfl
section
variable {α β γ δ ε ρ : Type} [Enc α] [Enc β] [Enc γ] [Enc δ] [Enc ε] [Enc ρ] {oa : Option α} {ob : Option β} {oc : Option γ} {od : Option δ} {oe : Option ε}
theorem go1 {m : α → Option ρ} (r : ρ) (h : app1 m oa = some r) : ∃ ds, lift2 (fun x ds => enc x :: ds) oa (some []) = some ds ∧ g1 m ds (enc r) := by
  obtain ⟨x, h1, h⟩ := bind_get h
  exact ⟨_, by rw [h1]; rfl, x, r, rfl, h, rfl⟩
theorem go2 {m : α → β → Option ρ} (r : ρ) (h : app2 m oa ob = some r) : ∃ ds, lift2 (fun x ds => enc x :: ds) oa (lift2 (fun x ds => enc x :: ds) ob (some [])) = some ds ∧ g2 m ds (enc r) := by
  obtain ⟨x, h1, h⟩ := bind_get h
  obtain ⟨y, h2, h⟩ := bind_get h
  exact ⟨_, by rw [h1, h2]; rfl, x, y, r, rfl, h, rfl⟩
theorem go3 {m : α → β → γ → Option ρ} (r : ρ) (h : app3 m oa ob oc = some r) : ∃ ds, lift2 (fun x ds => enc x :: ds) oa (lift2 (fun x ds => enc x :: ds) ob (lift2 (fun x ds => enc x :: ds) oc (some []))) = some ds ∧ g3 m ds (enc r) := by
  obtain ⟨x, h1, h⟩ := bind_get h
  obtain ⟨y, h2, h⟩ := bind_get h
  obtain ⟨z, h3, h⟩ := bind_get h
  exact ⟨_, by rw [h1, h2, h3]; rfl, x, y, z, r, rfl, h, rfl⟩
theorem go4 {m : α → β → γ → δ → Option ρ} (r : ρ) (h : app4 m oa ob oc od = some r) : ∃ ds, lift2 (fun x ds => enc x :: ds) oa (lift2 (fun x ds => enc x :: ds) ob (lift2 (fun x ds => enc x :: ds) oc (lift2 (fun x ds => enc x :: ds) od (some [])))) = some ds ∧ g4 m ds (enc r) := by
  obtain ⟨x, h1, h⟩ := bind_get h
  obtain ⟨y, h2, h⟩ := bind_get h
  obtain ⟨z, h3, h⟩ := bind_get h
  obtain ⟨w, h4, h⟩ := bind_get h
  exact ⟨_, by rw [h1, h2, h3, h4]; rfl, x, y, z, w, r, rfl, h, rfl⟩
theorem go5 {m : α → β → γ → δ → ε → Option ρ} (r : ρ) (h : app5 m oa ob oc od oe = some r) : ∃ ds, lift2 (fun x ds => enc x :: ds) oa (lift2 (fun x ds => enc x :: ds) ob (lift2 (fun x ds => enc x :: ds) oc (lift2 (fun x ds => enc x :: ds) od (lift2 (fun x ds => enc x :: ds) oe (some []))))) = some ds ∧ g5 m ds (enc r) := by
  obtain ⟨x, h1, h⟩ := bind_get h
  obtain ⟨y, h2, h⟩ := bind_get h
  obtain ⟨z, h3, h⟩ := bind_get h
  obtain ⟨w, h4, h⟩ := bind_get h
  obtain ⟨v, h5, h⟩ := bind_get h
  exact ⟨_, by rw [h1, h2, h3, h4, h5]; rfl, x, y, z, w, v, r, rfl, h, rfl⟩
end

/-! ### statements -/
/-- a raised error: its class's name, its field at -/
structure Er where
  k : Str
  a : Int
  deriving DecidableEq
/-- what is wanted of an exception that leaves, by its class, its dict, the state -/
def WS (X : Cx) : WX := fun cls d σ H => ∀ u s', (∃ (a : Addr) (B : Heap) (sI : Shared) (pins : List (Addr × Obj)), u = Value.ref a ∧ Inv X pins σ H sI ∧ (∀ b o, sI.heap.get? b = some o → b ∉ frs X.stack → B.get? b = some o) ∧ sI.heap.UpToSlots s'.heap ∧
  Sky B X.stack a (L2N.Zn cls d) X.env.locals s'.heap ∧ H a = none ∧ s'.os = sI.os ∧ AllBare s'.gens) → X.xe u s'
theorem takes_WS (X : Cx) : L2N.Takes X (WS X) := fun u s' ⟨a, B, sI, pins, σ, H, cls, d, e, I, nb, up, sky, na, os, ag, w⟩ => w u s' ⟨a, B, sI, pins, e, I, nb, up, sky, na, os, ag⟩
theorem WS.of {X : Cx} {W : WX} (tk : L2N.Takes X W) {cls : Value} {d : Option Addr} {σ : L2.St} {H : Hp} (h : σ.length = X.N.length → W cls d σ H) : WS X cls d σ H := fun u s' ⟨a, B, sI, pins, e, I, nb, up, sky, na, os, ag⟩ =>
  tk u s' ⟨a, B, sI, pins, σ, H, cls, d, e, I, nb, up, sky, na, os, ag, h I.len⟩
inductive Out (S B R : Type) where
  | nx (s : S)
  | bk (b : B)
  | ct (b : B)
  | rt (r : R)
  | er (e : Er)
def tS {S B R : Type} [Enc R] (X : Cx) (G : List Sl) (P : S → List Sl) (PB : B → List Sl) (own : Rk) (o : Out S B R) : TS := fun D σ H =>
  ∃ F I ps, RS X.K F G σ H I ps ∧ match o with
    | .nx s => ∀ σ' H' I' ps', GrowB own.m F I I' → RS X.K F (P s) σ' H' I' ps' → D.nx σ' H'
    | .bk b => ∀ σ' H' I' ps', GrowB own.m F I I' → RS X.K F (PB b) σ' H' I' ps' → D.bk σ' H'
    | .ct b => ∀ σ' H' I' ps', GrowB own.m F I I' → RS X.K F (PB b) σ' H' I' ps' → D.ct σ' H'
    | .rt r => ∀ v H' I', GrowB own.m F I I' → Same F H' → Same I' H' → RetR X.K own.k F I' H' v (enc r) → D.rt v H'
    | .er e => ∀ C d σ' H' I', X.mg e.k = some (.ref C) → GrowB own.m F I I' → Same F H' → Same I' H' → H' d = some (.xd [(("at" : Str), .int e.a)]) → WS X (.ref C) (some d) σ' H'
/-- the block, from slots G, ends as o says (if o is some) -/
def SV {S B R : Type} [Enc R] (X : Cx) (G : List Sl) (st : List Stmt) (P : S → List Sl) (PB : B → List Sl) (own : Rk) (o : Option (Out S B R)) : Prop := ∀ x, o = some x → PSs X st (tS X G P PB own x)
theorem _root_.L2.PSs.imp {X : Cx} {st : List Stmt} {t t' : TS} (h : PSs X st t) (w : ∀ D σ H, t' D σ H → t D σ H) : PSs X st t' := ⟨fun pins s σ H D I q => h.run pins s σ H D I (w D σ H q)⟩
theorem _root_.L2.PS.imp {X : Cx} {st : Stmt} {t t' : TS} (h : PS X st t) (w : ∀ D σ H, t' D σ H → t D σ H) : PS X st t' := ⟨fun pins s σ H D I q => h.run pins s σ H D I (w D σ H q)⟩

/-- slots forgotten, own lists made persistent -/
def WkR (G G' : List Sl) : Prop := ∀ (K : PySem.W.Frag) (F : Hp) (σ : L2.St) (H I : Hp) (ps : Nat → Option Addr), RS K F G σ H I ps → ∃ I' ps', Grow F I I' ∧ RS K F G' σ H I' ps'
inductive Wop where
  | un (i : Nat)
  | fz (i : Nat)
  | dt (i : Nat)
def datS : Sl → Sl
  | .old d => .dat d
  | .nw d => .dat d
  | s => s
theorem datS_rs {K : PySem.W.Frag} {F H I : Hp} {G : List Sl} {σ : L2.St} {ps : Nat → Option Addr} {i : Nat} (R : RS K F G σ H I ps) : RS K F (G.set i (datS (slAt G i))) σ H I ps where
  si := R.si
  sf := R.sf
  fo := R.fo
  len := by rw [List.length_set]; exact R.len
  sl := fun j hj => by
    rw [List.length_set] at hj
    obtain ⟨v, h1, h2⟩ := R.sl j hj
    refine ⟨v, h1, ?_⟩
    by_cases e : j = i
    · subst e
      rw [slAt_set_self hj]
      cases s : slAt G j with
      | un => rw [s] at h2; exact h2
      | dat d => rw [s] at h2; exact h2
      | own d => rw [s] at h2; exact h2
      | rd d => rw [s] at h2; exact h2
      | st d => rw [s] at h2; exact h2
      | old d => rw [s] at h2; obtain ⟨e1, x, e2, q⟩ := h2; exact ⟨e1, x, e2, Dq_mono rgO_le _ _ q⟩
      | nw d => rw [s] at h2; obtain ⟨e1, x, e2, q⟩ := h2; exact ⟨e1, x, e2, Dq_mono rgN_le _ _ q⟩
    · rw [slAt_set_ne (Ne.symm e)]; exact h2
  out := fun j hj => R.out j (by rw [List.length_set] at hj; exact hj)
  dis := R.dis
def frzS : Sl → Sl
  | .own ds => .dat (.list ds)
  | s => s
def wkA : List Wop → List Sl → List Sl
  | [], G => G
  | .un i :: r, G => wkA r (G.set i .un)
  | .fz i :: r, G => wkA r (G.set i (frzS (slAt G i)))
  | .dt i :: r, G => wkA r (G.set i (datS (slAt G i)))
theorem wkR_refl {G : List Sl} : WkR G G := fun K F σ H I ps R => ⟨I, ps, Grow.refl, R⟩
theorem set_at {G : List Sl} {i : Nat} : G.set i (slAt G i) = G := by
  induction G generalizing i with
  | nil => rfl
  | cons s r ih => cases i with
    | zero => rfl
    | succ i => show s :: r.set i (slAt r i) = _; rw [ih]
theorem wkR_ops : ∀ (ops : List Wop) (G : List Sl), WkR G (wkA ops G)
  | [], _ => wkR_refl
  | .un i :: r, G => fun K F σ H I ps R => by
    have R1 := R.setUn (i := i) (v := (σ[i]?).getD none)
    have e : σ.set i ((σ[i]?).getD none) = σ := by
      by_cases h : i < σ.length
      · rw [List.getElem?_eq_getElem h]; simp
      · exact List.set_eq_of_length_le (by omega)
    rw [e] at R1
    exact wkR_ops r _ K F σ H I _ R1
  | .dt i :: r, G => fun K F σ H I ps R => wkR_ops r _ K F σ H I ps (datS_rs (i := i) R)
  | .fz i :: r, G => fun K F σ H I ps R => by
    cases h : slAt G i with
    | own ds =>
      obtain ⟨I', g, R1⟩ := R.frz h
      obtain ⟨I2, ps2, g2, R2⟩ := wkR_ops r (G.set i (.dat (.list ds))) K F σ H I' _ R1
      refine ⟨I2, ps2, g.trans g2, ?_⟩
      show RS K F (wkA r (G.set i (frzS (slAt G i)))) σ H I2 ps2
      rw [h]; exact R2
    | un =>
      have e : G.set i (frzS (slAt G i)) = G := by rw [h]; show G.set i .un = G; rw [← h]; exact set_at
      show ∃ I' ps', Grow F I I' ∧ RS K F (wkA r (G.set i (frzS (slAt G i)))) σ H I' ps'
      rw [e]; exact wkR_ops r G K F σ H I ps R
    | st d =>
      have e : G.set i (frzS (slAt G i)) = G := by rw [h]; show G.set i (.st d) = G; rw [← h]; exact set_at
      show ∃ I' ps', Grow F I I' ∧ RS K F (wkA r (G.set i (frzS (slAt G i)))) σ H I' ps'
      rw [e]; exact wkR_ops r G K F σ H I ps R
    | rd d =>
      have e : G.set i (frzS (slAt G i)) = G := by rw [h]; show G.set i (.rd d) = G; rw [← h]; exact set_at
      show ∃ I' ps', Grow F I I' ∧ RS K F (wkA r (G.set i (frzS (slAt G i)))) σ H I' ps'
      rw [e]; exact wkR_ops r G K F σ H I ps R
    | old d =>
      have e : G.set i (frzS (slAt G i)) = G := by rw [h]; show G.set i (.old d) = G; rw [← h]; exact set_at
      show ∃ I' ps', Grow F I I' ∧ RS K F (wkA r (G.set i (frzS (slAt G i)))) σ H I' ps'
      rw [e]; exact wkR_ops r G K F σ H I ps R
    | nw d =>
      have e : G.set i (frzS (slAt G i)) = G := by rw [h]; show G.set i (.nw d) = G; rw [← h]; exact set_at
      show ∃ I' ps', Grow F I I' ∧ RS K F (wkA r (G.set i (frzS (slAt G i)))) σ H I' ps'
      rw [e]; exact wkR_ops r G K F σ H I ps R
    | dat d =>
      have e : G.set i (frzS (slAt G i)) = G := by rw [h]; show G.set i (.dat d) = G; rw [← h]; exact set_at
      show ∃ I' ps', Grow F I I' ∧ RS K F (wkA r (G.set i (frzS (slAt G i)))) σ H I' ps'
      rw [e]; exact wkR_ops r G K F σ H I ps R
theorem wk_ops {G G' : List Sl} (ops : List Wop) (h : wkA ops G = G') : WkR G G' := h ▸ wkR_ops ops G

/-- many slots are forgotten at once -/
def maskU : List Bool → List Sl → List Sl
  | b :: m, s :: G => (bif b then .un else s) :: maskU m G
  | _, G => G
theorem maskU_len : ∀ (m : List Bool) (G : List Sl), (maskU m G).length = G.length
  | [], _ => rfl
  | _ :: _, [] => rfl
  | b :: m, s :: G => by simp only [maskU, List.length_cons, maskU_len m G]
theorem maskU_at : ∀ (m : List Bool) (G : List Sl) (i : Nat), slAt (maskU m G) i = bif m.getD i false then .un else slAt G i
  | [], G, i => by simp [maskU]
  | b :: m, [], i => by simp only [maskU, slAt]; cases ((b :: m).getD i false) <;> rfl
  | b :: m, s :: G, 0 => rfl
  | b :: m, s :: G, i + 1 => maskU_at m G i
theorem wkR_mask (m : List Bool) (G : List Sl) : WkR G (maskU m G) := fun K F σ H I ps R => by
  refine ⟨I, fun i => bif m.getD i false then none else ps i, Grow.refl, R.si, R.sf, fun i a h => ?_, by rw [maskU_len]; exact R.len, fun i hi => ?_, fun i hi => ?_, fun i j a h1 h2 => ?_⟩
  · cases c : m.getD i false <;> rw [c] at h
    · exact R.fo i a h
    · cases h
  · rw [maskU_len] at hi
    obtain ⟨v, h1, h2⟩ := R.sl i hi
    refine ⟨v, h1, ?_⟩
    rw [maskU_at]
    cases c : m.getD i false
    · exact h2
    · rfl
  · rw [maskU_len] at hi
    cases c : m.getD i false
    · exact R.out i hi
    · rfl
  · cases c1 : m.getD i false <;> cases c2 : m.getD j false <;> simp only [c1, c2, cond_true, cond_false] at h1 h2
    · exact R.dis i j a h1 h2
    · cases h2
    · cases h1
    · cases h1
theorem wk_mask {G G' : List Sl} (m : List Bool) (ops : List Wop) (h : wkA ops (maskU m G) = G') : WkR G G' := fun K F σ H I ps R => by
  obtain ⟨I1, p1, g1, R1⟩ := wkR_mask m G K F σ H I ps R
  obtain ⟨I2, p2, g2, R2⟩ := wkR_ops ops _ K F σ H I1 p1 R1
  exact ⟨I2, p2, g1.trans g2, h ▸ R2⟩
def bindOut {S S' B R : Type} (o : Option (Out S B R)) (k : S → Option (Out S' B R)) : Option (Out S' B R) := o.bind fun x => match x with
  | .nx s => k s
  | .bk b => some (.bk b)
  | .ct b => some (.ct b)
  | .rt r => some (.rt r)
  | .er e => some (.er e)
@[simp] theorem bindOut_er {S S' B R : Type} (e : Er) (k : S → Option (Out S' B R)) : bindOut (some (.er e) : Option (Out S B R)) k = some (.er e) := rfl
@[simp] theorem bindOut_nx {S S' B R : Type} (s : S) (k : S → Option (Out S' B R)) : bindOut (some (.nx s)) k = k s := rfl
@[simp] theorem bindOut_rt {S S' B R : Type} (r : R) (k : S → Option (Out S' B R)) : bindOut (some (.rt r) : Option (Out S B R)) k = some (.rt r) := rfl
@[simp] theorem bindOut_bk {S S' B R : Type} (b : B) (k : S → Option (Out S' B R)) : bindOut (some (.bk b) : Option (Out S B R)) k = some (.bk b) := rfl
@[simp] theorem bindOut_ct {S S' B R : Type} (b : B) (k : S → Option (Out S' B R)) : bindOut (some (.ct b) : Option (Out S B R)) k = some (.ct b) := rfl
section
variable {X : Cx} {G G' : List Sl} {S S' B R : Type} [Enc R] {P : S → List Sl} {P' : S' → List Sl} {PB : B → List Sl} {own : Rk} {rest : List Stmt} {o : Option (Out S B R)}
theorem sv_wk (hw : WkR G G') (h : SV X G' rest P PB own o) : SV X G rest P PB own o := fun x hx => (h x hx).imp fun D σ H ⟨F, I, ps, R, q⟩ => by
  obtain ⟨I', ps', g, R'⟩ := hw _ _ _ _ _ _ R
  refine ⟨F, I', ps', R', ?_⟩
  cases x with
  | nx s => exact fun σ' H' I2 ps2 g2 R2 => q σ' H' I2 ps2 (g.transB g2) R2
  | bk s => exact fun σ' H' I2 ps2 g2 R2 => q σ' H' I2 ps2 (g.transB g2) R2
  | ct s => exact fun σ' H' I2 ps2 g2 R2 => q σ' H' I2 ps2 (g.transB g2) R2
  | rt r => exact fun v H' I2 g2 s1 s2 rr => q v H' I2 (g.transB g2) s1 s2 rr
  | er e => exact fun C d σ' H' I2 m g2 s1 s2 hd => q C d σ' H' I2 m (g.transB g2) s1 s2 hd
theorem sv_none : SV X G rest P PB own (none : Option (Out S B R)) := fun x hx => by cases hx
theorem sv_nil {s : S} (hw : WkR G (P s)) : SV X G [] P PB own (some (.nx s) : Option (Out S B R)) := fun x hx => by
  cases hx
  refine pss_nil.imp fun D σ H ⟨F, I, ps, R, q⟩ => ?_
  obtain ⟨I', ps', g, R'⟩ := hw _ _ _ _ _ _ R
  exact q σ H I' ps' g.b R'
theorem sv_break {b : B} {pos : Pos} (hw : WkR G (PB b)) : SV X G (.Break pos :: rest) P PB own (some (.bk b) : Option (Out S B R)) := fun x hx => by
  cases hx
  refine (pss_cons ps_break pss_never).imp fun D σ H ⟨F, I, ps, R, q⟩ => ?_
  obtain ⟨I', ps', g, R'⟩ := hw _ _ _ _ _ _ R
  exact q σ H I' ps' g.b R'
theorem sv_continue {b : B} {pos : Pos} (hw : WkR G (PB b)) : SV X G (.Continue pos :: rest) P PB own (some (.ct b) : Option (Out S B R)) := fun x hx => by
  cases hx
  refine (pss_cons ps_continue pss_never).imp fun D σ H ⟨F, I, ps, R, q⟩ => ?_
  obtain ⟨I', ps', g, R'⟩ := hw _ _ _ _ _ _ R
  exact q σ H I' ps' g.b R'
theorem sv_pass {pos : Pos} (h : SV X G rest P PB own o) : SV X G (.Pass pos :: rest) P PB own o := fun x hx => (pss_cons ps_pass (h x hx)).imp fun D σ H t => t
/-- behind an expression: from the wish's point of view -/
theorem tS_afterB {x : Out S B R} {D : Ends} {σ : L2.St} {F H I H1 I1 : Hp} {ps ps1 : Nat → Option Addr} {σ1 : L2.St} (g : GrowB own.m F I I1) (R1 : RS X.K F G' σ1 H1 I1 ps1)
    (q : match x with
      | .nx s => ∀ σ' H' I' ps', GrowB own.m F I I' → RS X.K F (P s) σ' H' I' ps' → D.nx σ' H'
      | .bk b => ∀ σ' H' I' ps', GrowB own.m F I I' → RS X.K F (PB b) σ' H' I' ps' → D.bk σ' H'
      | .ct b => ∀ σ' H' I' ps', GrowB own.m F I I' → RS X.K F (PB b) σ' H' I' ps' → D.ct σ' H'
      | .rt r => ∀ v H' I', GrowB own.m F I I' → Same F H' → Same I' H' → RetR X.K own.k F I' H' v (enc r) → D.rt v H'
      | .er e => ∀ C d σ' H' I', X.mg e.k = some (.ref C) → GrowB own.m F I I' → Same F H' → Same I' H' → H' d = some (.xd [(("at" : Str), .int e.a)]) → WS X (.ref C) (some d) σ' H') : tS X G' P PB own x D σ1 H1 := by
  refine ⟨F, I1, ps1, R1, ?_⟩
  cases x with
  | nx s => exact fun σ' H' I2 ps2 g2 R2 => q σ' H' I2 ps2 (g.trans g2) R2
  | bk s => exact fun σ' H' I2 ps2 g2 R2 => q σ' H' I2 ps2 (g.trans g2) R2
  | ct s => exact fun σ' H' I2 ps2 g2 R2 => q σ' H' I2 ps2 (g.trans g2) R2
  | rt r => exact fun v H' I2 g2 s1 s2 rr => q v H' I2 (g.trans g2) s1 s2 rr
  | er e => exact fun C d σ' H' I2 m g2 s1 s2 hd => q C d σ' H' I2 m (g.trans g2) s1 s2 hd
theorem tS_after {x : Out S B R} {D : Ends} {σ : L2.St} {F H I H1 I1 : Hp} {ps ps1 : Nat → Option Addr} {σ1 : L2.St} (g : Grow F I I1) (R1 : RS X.K F G' σ1 H1 I1 ps1)
    (q : match x with
      | .nx s => ∀ σ' H' I' ps', GrowB own.m F I I' → RS X.K F (P s) σ' H' I' ps' → D.nx σ' H'
      | .bk b => ∀ σ' H' I' ps', GrowB own.m F I I' → RS X.K F (PB b) σ' H' I' ps' → D.bk σ' H'
      | .ct b => ∀ σ' H' I' ps', GrowB own.m F I I' → RS X.K F (PB b) σ' H' I' ps' → D.ct σ' H'
      | .rt r => ∀ v H' I', GrowB own.m F I I' → Same F H' → Same I' H' → RetR X.K own.k F I' H' v (enc r) → D.rt v H'
      | .er e => ∀ C d σ' H' I', X.mg e.k = some (.ref C) → GrowB own.m F I I' → Same F H' → Same I' H' → H' d = some (.xd [(("at" : Str), .int e.a)]) → WS X (.ref C) (some d) σ' H') : tS X G' P PB own x D σ1 H1 := tS_afterB (H := H) (ps := ps) (σ := σ) g.b R1 q
variable {N : List Str} {sc : Scope} {fs : Option Scope} {k i : Nat} {x : Str} {α β : Type} [Enc α] [Enc β] {e : Expr} {pos p : Pos}
theorem locB_ok (C : Ctx X N sc fs k) (h : locB N sc fs i x = true) : X.N.Nodup ∧ X.N[i]? = some x ∧ L2.Loc X.env.scope x ∧ (X.fn x = true ∨ X.env.scope.names.lookup x = some .local) := by
  unfold locB at h
  simp only [Bool.and_eq_true, decide_eq_true_eq] at h
  obtain ⟨h1, h2⟩ := h
  rw [C.n, C.s, C.fn]
  refine ⟨C.nd, h1, ?_, ?_⟩
  · unfold L2.Loc; split at h2 <;> simp_all
  · split at h2 <;> simp_all
/-- name = data -/
theorem sv_set {oe : Option α} {kk : α → Option (Out S B R)} (C : Ctx X N sc fs k) (hl : locB N sc fs i x = true) (he : ED X G e oe) (hk : ∀ v, SV X (G.set i (.dat (enc v))) rest P PB own (kk v))
    (hs : swapsWith e (some (.Name x p)) pos.line X.env = pure false := by rfl) : SV X G (.Assign [.Name x p] e pos :: rest) P PB own (oe.bind kk) := fun y hy => by
  obtain ⟨v, h1, h2⟩ := bind_get hy
  obtain ⟨a1, a2, a3, a4⟩ := locB_ok C hl
  exact (pss_cons (ps_set a1 a2 a3 (he v h1) hs a4) (hk v y h2)).imp fun D σ H ⟨F, I, ps, Rr, q⟩ => ⟨F, I, ps, Rr, fun w H1 I1 g R1 d => tS_after (H := H) (ps := ps) (σ := σ) g (R1.setDat d) q⟩
/-- name = a new list, kept as the def's own -/
theorem sv_setO {oe : Option (List α)} {kk : List α → Option (Out S B R)} (C : Ctx X N sc fs k) (hl : locB N sc fs i x = true) (hi : i < G.length) (he : EO X G e oe) (hk : ∀ v : List α, SV X (G.set i (.own (v.map enc))) rest P PB own (kk v))
    (hs : swapsWith e (some (.Name x p)) pos.line X.env = pure false := by rfl) : SV X G (.Assign [.Name x p] e pos :: rest) P PB own (oe.bind kk) := fun y hy => by
  obtain ⟨v, h1, h2⟩ := bind_get hy
  obtain ⟨a1, a2, a3, a4⟩ := locB_ok C hl
  exact (pss_cons (ps_set a1 a2 a3 (he v h1) hs a4) (hk v y h2)).imp fun D σ H ⟨F, I, ps, Rr, q⟩ => ⟨F, I, ps, Rr, fun pa xs H1 I1 g R1 n1 n2 n3 hH d => tS_after (H := H) (ps := ps) (σ := σ) g (R1.setOwn hi n1 n2 n3 hH d) q⟩
/-- return -/
theorem sv_ret {m : Bool} {oe : Option R} (he : ED X G e oe) : SV X G (.Return (some e) pos :: rest) P PB ⟨.dd, m⟩ (oe.bind fun r => some (.rt r)) := fun y hy => by
  obtain ⟨v, h1, h2⟩ := bind_get hy
  cases h2
  exact (pss_cons (ps_ret (he v h1)) pss_never).imp fun D σ H ⟨F, I, ps, Rr, q⟩ => ⟨F, I, ps, Rr, fun w H1 I1 g R1 d => q w H1 I1 g.b R1.sf R1.si d⟩
theorem sv_retO {m : Bool} {oe : Option (List α)} {P : S → List Sl} {PB : B → List Sl} (he : EO X G e oe) : SV X G (.Return (some e) pos :: rest) P PB ⟨.ow, m⟩ (oe.bind fun r => some (.rt r)) := fun y hy => by
  obtain ⟨v, h1, h2⟩ := bind_get hy
  cases h2
  exact (pss_cons (ps_ret (he v h1)) pss_never).imp fun D σ H ⟨F, I, ps, Rr, q⟩ => ⟨F, I, ps, Rr, fun pa xs H1 I1 g R1 n1 n2 n3 hH d => q (.ref pa) H1 I1 g.b R1.sf R1.si ⟨pa, xs, _, rfl, rfl, n1, n2, hH, d⟩⟩
/-- an own list is returned -/
theorem sv_retOwn {m : Bool} {l : List α} {P : S → List Sl} {PB : B → List Sl} (C : Ctx X N sc fs k) (hv : visB N sc i x = true) (hs : slAt G i = .own (l.map enc)) : SV X G (.Return (some (.Name x p)) pos :: rest) P PB ⟨.ow, m⟩ (some (.rt l)) := fun y hy => by
  cases hy
  unfold visB at hv
  simp only [Bool.and_eq_true, decide_eq_true_eq, Bool.not_eq_true'] at hv
  obtain ⟨⟨⟨h1, h2⟩, h3⟩, h4⟩ := hv
  have hvis : Vis X.env.scope x := by
    rw [C.s]; unfold Vis
    split at h2 <;> simp_all
  refine (pss_cons (ps_ret (pe_var (by rw [C.n]; exact h1) hvis h3 h4)) pss_never).imp fun D σ H ⟨F, I, ps, Rr, q⟩ => ?_
  have hi : i < G.length := by
    by_cases c : i < G.length
    · exact c
    · rw [slAt_out (by omega)] at hs; cases hs
  obtain ⟨w, k1, k2⟩ := Rr.sl i hi
  rw [hs] at k2
  obtain ⟨a, xs, e1, e2, n, hH, d⟩ := k2
  subst e2
  exact ⟨_, k1, q _ H I Grow.refl.b Rr.sf Rr.si ⟨a, xs, _, rfl, rfl, n, Rr.fo _ _ e1, hH, d⟩⟩
/-- if -/
theorem sv_if {c : Expr} {a b : List Stmt} {oc : Option Bool} {oa ob : Option (Out S' B R)} {kk : S' → Option (Out S B R)} (hc : EB X G c oc) (ha : SV X G a P' PB own oa) (hb : SV X G b P' PB own ob) (hk : ∀ s, SV X (P' s) rest P PB own (kk s)) :
    SV X G (.If c a b pos :: rest) P PB own (oc.bind fun t => bindOut (bif t then oa else ob) kk) := fun y hy => by
  obtain ⟨t, h1, h2⟩ := bind_get hy
  -- one branch runs, then the rest
  have key : ∀ {br : List Stmt} {ox : Option (Out S' B R)}, SV X G br P' PB own ox → bindOut ox kk = some y → ∃ tb u, PSs X br tb ∧ PSs X rest u ∧ ∀ (D : Ends) (σ : L2.St) (H : Hp), tS X G P PB own y D σ H → tb { D with nx := u D } σ H := by
    intro br ox hbr hox
    unfold bindOut at hox
    obtain ⟨z, hz, hox⟩ := bind_get hox
    cases z with
    | nx s =>
      refine ⟨_, _, hbr _ hz, hk s y hox, fun D σ H ⟨F, I, ps, Rr, q⟩ => ⟨F, I, ps, Rr, fun σ1 H1 I1 ps1 g R1 => tS_afterB (H := H) (ps := ps) (σ := σ) g R1 q⟩⟩
    | bk w => cases hox; exact ⟨_, _, hbr _ hz, pss_never, fun D σ H t => t⟩
    | ct w => cases hox; exact ⟨_, _, hbr _ hz, pss_never, fun D σ H t => t⟩
    | rt w => cases hox; exact ⟨_, _, hbr _ hz, pss_never, fun D σ H t => t⟩
    | er w => cases hox; exact ⟨_, _, hbr _ hz, pss_never, fun D σ H t => t⟩
  cases t with
  | true =>
    obtain ⟨tb, u, p1, p2, w⟩ := key ha h2
    refine (pss_cons (ps_if (hc _ h1) p1 pss_never) p2).imp fun D σ H ⟨F, I, ps, Rr, q⟩ => ⟨F, I, ps, Rr, fun H1 I1 g R1 => iteT ?_⟩
    exact w D σ H1 (tS_after (H := H) (ps := ps) (σ := σ) g R1 q)
  | false =>
    obtain ⟨tb, u, p1, p2, w⟩ := key hb h2
    refine (pss_cons (ps_if (hc _ h1) pss_never p1) p2).imp fun D σ H ⟨F, I, ps, Rr, q⟩ => ⟨F, I, ps, Rr, fun H1 I1 g R1 => iteF ?_⟩
    exact w D σ H1 (tS_after (H := H) (ps := ps) (σ := σ) g R1 q)
/-- an expression whose value is dropped -/
theorem sv_expr {oe : Option α} {kk : Option (Out S B R)} (he : ED X G e oe) (hk : SV X G rest P PB own kk) (hs : swapsWith e none pos.line X.env = pure false := by rfl) : SV X G (.Expr e pos :: rest) P PB own (oe.bind fun _ => kk) := fun y hy => by
  obtain ⟨v, h1, h2⟩ := bind_get hy
  exact (pss_cons (ps_expr (he v h1) hs) (hk y h2)).imp fun D σ H ⟨F, I, ps, Rr, q⟩ => ⟨F, I, ps, Rr, fun w H1 I1 g R1 d => tS_after (H := H) (ps := ps) (σ := σ) g R1 q⟩
end
end Lay

set_option Elab.async false
set_option linter.all false
set_option maxRecDepth 100000
/-! Lay5: targets, what is walked, loops, comprehensions. -/
namespace Lay
open PySem PySem.Spec PyProof.Rows L2
open Lay.Enc (enc)

/-! ### targets -/
/-- nothing is known of these places -/
def unAt (G : List Sl) (js : List Nat) : Bool := js.all fun j => match slAt G j with | .un => true | _ => false
theorem unAt_ps {K : PySem.W.Frag} {F H I : Hp} {G : List Sl} {σ : L2.St} {ps : Nat → Option Addr} (R : RS K F G σ H I ps) {js : List Nat} (h : unAt G js = true) : ∀ j ∈ js, ps j = none := fun j hj => by
  have h1 := List.all_eq_true.mp h j hj
  by_cases c : j < G.length
  · obtain ⟨v, _, q⟩ := R.sl j c
    cases e : slAt G j with
    | un => rw [e] at q; exact q
    | dat d => rw [e] at h1; cases h1
    | own ds => rw [e] at h1; cases h1
    | rd ds => rw [e] at h1; cases h1
    | st ds => rw [e] at h1; cases h1
    | old ds => rw [e] at h1; cases h1
    | nw ds => rw [e] at h1; cases h1
  · exact R.out j (by omega)
/-- the store of data enc x by the target g: slots become f x G; it touches the places js alone, of which nothing was known -/
structure Tgt (K : PySem.W.Frag) (g : L2.TG) (js : List Nat) {α : Type} [Enc α] (f : α → List Sl → List Sl) : Prop where
  go : ∀ (x : α) (G : List Sl) (F : Hp) (σ : L2.St) (H I : Hp) (ps : Nat → Option Addr) (v : V) (Q : L2.St → Hp → Prop), RS K F G σ H I ps → (∀ j ∈ js, ps j = none) → Dq I v (enc x) →
    (∀ σ', RS K F (f x G) σ' H I ps → (∀ vs, (∀ j ∈ js, j ∈ vs) → wipe σ' vs = wipe σ vs) → (∀ i, i ∉ js → slAt (f x G) i = slAt G i) → Q σ' H) → g v σ H Q
def fName {α : Type} [Enc α] (i : Nat) : α → List Sl → List Sl := fun x G => G.set i (.dat (enc x))
def fT2 {α β : Type} (f : α → List Sl → List Sl) (g : β → List Sl → List Sl) : T2 α β → List Sl → List Sl := fun t G => g t.b (f t.a G)
def fT3 {α β γ : Type} (f : α → List Sl → List Sl) (g : β → List Sl → List Sl) (h : γ → List Sl → List Sl) : T3 α β γ → List Sl → List Sl := fun t G => h t.c (g t.b (f t.a G))
def fT4 {α β γ δ : Type} (f : α → List Sl → List Sl) (g : β → List Sl → List Sl) (h : γ → List Sl → List Sl) (l : δ → List Sl → List Sl) : T4 α β γ δ → List Sl → List Sl := fun t G => l t.d (h t.c (g t.b (f t.a G)))
theorem wipe_set {σ : L2.St} {w : Option V} : ∀ {vs : List Nat} {i : Nat}, i ∈ vs → wipe (σ.set i w) vs = wipe σ vs
  | [], i, h => by simp at h
  | v :: vs, i, h => by
    show (wipe (σ.set i w) vs).set v none = (wipe σ vs).set v none
    by_cases hm : i ∈ vs
    · rw [wipe_set hm]
    · have e : v = i := by
        rcases List.mem_cons.mp h with h | h
        · exact h.symm
        · exact absurd h hm
      subst e
      have : ∀ (us : List Nat), v ∉ us → wipe (σ.set v w) us = (wipe σ us).set v w := by
        intro us
        induction us with
        | nil => intro _; rfl
        | cons u us ih =>
          intro hu
          show (wipe (σ.set v w) us).set u none = ((wipe σ us).set u none).set v w
          rw [ih (fun z => hu (List.mem_cons_of_mem _ z)), List.set_comm _ _ (fun z : v = u => hu (by rw [z]; exact List.mem_cons_self))]
      rw [this vs hm, List.set_set]
theorem psDel_none {ps : Nat → Option Addr} {i : Nat} (h : ps i = none) : psDel ps i = ps := by
  funext j; unfold psDel; split
  · rename_i e; rw [e]; exact h.symm
  · rfl
theorem tgt_name {K : PySem.W.Frag} {α : Type} [Enc α] {i : Nat} : Tgt K (gName i) [i] (fName (α := α) i) := ⟨fun x G F σ H I ps v Q R hp d q => by
  have R1 := R.setDat (i := i) d
  rw [psDel_none (hp i (by simp))] at R1
  exact q _ R1 (fun vs hv => wipe_set (hv i (by simp))) fun j hj => slAt_set_ne (fun e => hj (by simp [e]))⟩
theorem tgt_t2 {K : PySem.W.Frag} {α β : Type} [Enc α] [Enc β] {ga gb : L2.TG} {ja jb : List Nat} {f : α → List Sl → List Sl} {g : β → List Sl → List Sl} (h1 : Tgt K ga ja f) (h2 : Tgt K gb jb g) :
    Tgt K (gTup K 2 (gCons ga (gCons gb gNil))) (ja ++ jb) (fT2 f g) := ⟨fun x G F σ H I ps v Q R hp d q => by
  cases d with
  | tup k1 k2 =>
    cases k2 with
    | cons d1 k2 => cases k2 with
      | cons d2 k2 =>
        cases k2
        exact ⟨_, _, rfl, (.inl (rd_mono R.si k1)), rfl, _, _, rfl, h1.go x.a G F σ H I ps _ _ R (fun j hj => hp j (by simp [hj])) d1 fun σ1 R1 w1 o1 => ⟨_, _, rfl, h2.go x.b _ F σ1 H I ps _ _ R1 (fun j hj => hp j (by simp [hj])) d2 fun σ2 R2 w2 o2 => ⟨rfl, q σ2 R2
          (fun vs hv => (w2 vs fun j hj => hv j (by simp [hj])).trans (w1 vs fun j hj => hv j (by simp [hj]))) fun i hi => (o2 i fun z => hi (by simp [z])).trans (o1 i fun z => hi (by simp [z]))⟩⟩⟩⟩
theorem tgt_t3 {K : PySem.W.Frag} {α β γ : Type} [Enc α] [Enc β] [Enc γ] {ga gb gc : L2.TG} {ja jb jc : List Nat} {f : α → List Sl → List Sl} {g : β → List Sl → List Sl} {h : γ → List Sl → List Sl} (h1 : Tgt K ga ja f) (h2 : Tgt K gb jb g) (h3 : Tgt K gc jc h) :
    Tgt K (gTup K 3 (gCons ga (gCons gb (gCons gc gNil)))) (ja ++ (jb ++ jc)) (fT3 f g h) := ⟨fun x G F σ H I ps v Q R hp d q => by
  cases d with
  | tup k1 k2 =>
    cases k2 with
    | cons d1 k2 => cases k2 with
      | cons d2 k2 => cases k2 with
        | cons d3 k2 =>
          cases k2
          exact ⟨_, _, rfl, (.inl (rd_mono R.si k1)), rfl, _, _, rfl, h1.go x.a G F σ H I ps _ _ R (fun j hj => hp j (by simp [hj])) d1 fun σ1 R1 w1 o1 => ⟨_, _, rfl, h2.go x.b _ F σ1 H I ps _ _ R1 (fun j hj => hp j (by simp [hj])) d2 fun σ2 R2 w2 o2 =>
            ⟨_, _, rfl, h3.go x.c _ F σ2 H I ps _ _ R2 (fun j hj => hp j (by simp [hj])) d3 fun σ3 R3 w3 o3 => ⟨rfl, q σ3 R3
            (fun vs hv => (w3 vs fun j hj => hv j (by simp [hj])).trans ((w2 vs fun j hj => hv j (by simp [hj])).trans (w1 vs fun j hj => hv j (by simp [hj]))))
            fun i hi => (o3 i fun z => hi (by simp [z])).trans ((o2 i fun z => hi (by simp [z])).trans (o1 i fun z => hi (by simp [z])))⟩⟩⟩⟩⟩
theorem tgt_t4 {K : PySem.W.Frag} {α β γ δ : Type} [Enc α] [Enc β] [Enc γ] [Enc δ] {ga gb gc gd : L2.TG} {ja jb jc jd : List Nat} {f : α → List Sl → List Sl} {g : β → List Sl → List Sl} {h : γ → List Sl → List Sl} {l : δ → List Sl → List Sl} (h1 : Tgt K ga ja f) (h2 : Tgt K gb jb g) (h3 : Tgt K gc jc h) (h4 : Tgt K gd jd l) :
    Tgt K (gTup K 4 (gCons ga (gCons gb (gCons gc (gCons gd gNil))))) (ja ++ (jb ++ (jc ++ jd))) (fT4 f g h l) := ⟨fun x G F σ H I ps v Q R hp d q => by
  cases d with
  | tup k1 k2 =>
    cases k2 with
    | cons d1 k2 => cases k2 with
      | cons d2 k2 => cases k2 with
        | cons d3 k2 => cases k2 with
          | cons d4 k2 =>
            cases k2
            exact ⟨_, _, rfl, (.inl (rd_mono R.si k1)), rfl, _, _, rfl, h1.go x.a G F σ H I ps _ _ R (fun j hj => hp j (by simp [hj])) d1 fun σ1 R1 w1 o1 => ⟨_, _, rfl, h2.go x.b _ F σ1 H I ps _ _ R1 (fun j hj => hp j (by simp [hj])) d2 fun σ2 R2 w2 o2 =>
              ⟨_, _, rfl, h3.go x.c _ F σ2 H I ps _ _ R2 (fun j hj => hp j (by simp [hj])) d3 fun σ3 R3 w3 o3 => ⟨_, _, rfl, h4.go x.d _ F σ3 H I ps _ _ R3 (fun j hj => hp j (by simp [hj])) d4 fun σ4 R4 w4 o4 => ⟨rfl, q σ4 R4
              (fun vs hv => (w4 vs fun j hj => hv j (by simp [hj])).trans ((w3 vs fun j hj => hv j (by simp [hj])).trans ((w2 vs fun j hj => hv j (by simp [hj])).trans (w1 vs fun j hj => hv j (by simp [hj])))))
              fun i hi => (o4 i fun z => hi (by simp [z])).trans ((o3 i fun z => hi (by simp [z])).trans ((o2 i fun z => hi (by simp [z])).trans (o1 i fun z => hi (by simp [z]))))⟩⟩⟩⟩⟩⟩
section
variable {X : Cx} {N : List Str} {sc : Scope} {fs : Option Scope} {k i : Nat} {x : Str} {pos : Pos}
theorem pgN (C : Ctx X N sc fs k) (h : locB N sc fs i x = true) : PG X (.Name x pos) (gName i) :=
  let ⟨a1, a2, a3, a4⟩ := locB_ok C h
  pg_name a1 a2 a3 a4
end

/-! ### what is walked -/
/-- the iterator J gives the data ds, one by one, while I stands -/
structure Wlk (K : PySem.W.Frag) (J : It) (I : Hp) (ds : List PyData) : Prop where
  go : ∀ (i : Nat) (d : PyData) (H : Hp), Same I H → ds[i]? = some d → J.go i H ∧ ∀ x H', J.yld i H x H' → (H' = H ∧ Dq I x d) ∨ ∃ T o, H T = none ∧ H' = upd H T o ∧ Dq (upd I T o) x d
  st : ∀ (H : Hp), Same I H → J.stop ds.length H
def tI (K : PySem.W.Frag) (G : List Sl) (ds : List PyData) (σ : L2.St) (H : Hp) (R : It → Hp → Prop) : Prop :=
  ∃ F I ps, RS K F G σ H I ps ∧ ∀ J H' I', Grow F I I' → RS K F G σ H' I' ps → Wlk K J I' ds → ds.length ≤ sizeLine → R J H'
def IT (X : Cx) (G : List Sl) (tg iter : Expr) {α : Type} [Enc α] (o : Option (List α)) : Prop := ∀ l, o = some l → PI X tg iter (tI X.K G (l.map enc))
theorem _root_.L2.PI.imp {X : Cx} {tg e : Expr} {t t' : TI} (h : PI X tg e t) (w : ∀ σ H R, t' σ H R → t σ H R) : PI X tg e t' := ⟨fun pins s σ H R I q => h.run pins s σ H R I (w σ H R q)⟩
/-- lists and tuples that stand are no longer than the line -/
def LenOk (K : PySem.W.Frag) (H : Hp) : Prop := ∀ a xs, (SqL K H a xs → xs.length ≤ sizeLine) ∧ (SqT K H a xs → xs.length ≤ sizeLine)
theorem lenOk {X : Cx} {pins : List (Addr × Obj)} {σ : L2.St} {H : Hp} {s : Shared} (I : Inv X pins σ H s) : LenOk X.K H := fun a xs => ⟨fun h => let ⟨_, _, _, z⟩ := I.list h; z, fun h => let ⟨_, _, _, z⟩ := I.tuple h; z⟩
theorem pi_len {X : Cx} {tg e : Expr} {t : TI} (h : PI X tg e t) (mono : ∀ σ H R R', (∀ J H, R J H → R' J H) → t σ H R → t σ H R') : PI X tg e (fun σ H R => t σ H fun J H' => LenOk X.K H' → R J H') := ⟨fun pins s σ H R I q =>
  thn (h.run pins s σ H _ I q) fun v s1 h1 => thn h1 fun itv s2 ⟨it, fp, tn, J, H', e, I2, T, st, f, r⟩ => ⟨it, fp, tn, J, H', e, I2, T, st, f, r (lenOk I2)⟩⟩
section
variable {X : Cx} {G : List Sl} {α β : Type} [Enc α] [Enc β] {tg e e2 : Expr}
theorem wlk_list {K : PySem.W.Frag} {I : Hp} {a : Addr} {xs : List V} {ds : List PyData} (h1 : Rd I a (.lst xs)) (h2 : DqAll I xs ds) (inj : ∀ H, Same I H → ∀ ys, SqL K H a ys → ys.length ≤ sizeLine → True) : Wlk K (Itl K a) I ds := by
  refine ⟨fun i d H s hd => ?_, fun H s => ⟨xs, (.inl (rd_mono s h1)), by rw [h2.len]; exact Nat.le_refl _⟩⟩
  obtain ⟨v, hv, dv⟩ := h2.at hd
  refine ⟨⟨xs, v, (.inl (rd_mono s h1)), hv⟩, fun x H' y => ?_⟩
  obtain ⟨e, y⟩ := y
  subst e
  have e2 := y xs (.inl (rd_mono s h1))
  rw [hv] at e2; cases e2
  exact .inl ⟨rfl, dv⟩
theorem it_list {o : Option (List α)} (h : ED X G e o) : IT X G tg e o := fun l hl =>
  (pi_len (pi_list (h l hl)) fun σ H R R' w ⟨F, I, ps, r, q⟩ => ⟨F, I, ps, r, fun v H' I' g r' d => by obtain ⟨a, e, z, q⟩ := q v H' I' g r' d; exact ⟨a, e, z, w _ _ q⟩⟩).imp
  fun σ H R ⟨F, I, ps, r, q⟩ => ⟨F, I, ps, r, fun v H' I' g r' d => by
    cases d with
    | lst h1 h2 =>
      exact ⟨_, rfl, ⟨_, (.inl (rd_mono r'.si h1))⟩, fun lo => q _ _ I' g r' (wlk_list h1 h2 fun _ _ _ _ _ => trivial) (by rw [← h2.len]; exact (lo _ _).1 (.inl (rd_mono r'.si h1)))⟩⟩
theorem it_tup {o : Option (Tup α)} (h : ED X G e o) : IT X G tg e (lift1 Tup.l o) := fun l hl => by
  obtain ⟨t, h1, h2⟩ := lift1_get hl
  subst h2
  refine (pi_len (pi_tup (h t h1)) fun σ H R R' w ⟨F, I, ps, r, q⟩ => ⟨F, I, ps, r, fun v H' I' g r' d => by obtain ⟨a, e, z, q⟩ := q v H' I' g r' d; exact ⟨a, e, z, w _ _ q⟩⟩).imp
    fun σ H R ⟨F, I, ps, r, q⟩ => ⟨F, I, ps, r, fun v H' I' g r' d => ?_⟩
  cases d with
  | tup k1 k2 =>
    refine ⟨_, rfl, ⟨_, (.inl (rd_mono r'.si k1))⟩, fun lo => q _ _ I' g r' ⟨fun i d H s hd => ?_, fun H s => ⟨_, (.inl (rd_mono s k1)), by rw [k2.len]; exact Nat.le_refl _⟩⟩ (by rw [← k2.len]; exact (lo _ _).2 (.inl (rd_mono r'.si k1)))⟩
    obtain ⟨v, hv, dv⟩ := k2.at hd
    refine ⟨⟨_, v, (.inl (rd_mono s k1)), hv⟩, fun x H' y => ?_⟩
    obtain ⟨e, y⟩ := y
    subst e
    have e2 := y _ (.inl (rd_mono s k1))
    rw [hv] at e2; cases e2
    exact .inl ⟨rfl, dv⟩
/-- lo, lo + 1, .. (n of them) -/
def rngL (lo : Int) (n : Nat) : List Int := (List.range n).map fun i => lo + (i : Nat)
def rng1 (j : Int) : Option (List Int) := if j ≤ (sizeLine : Int) ∧ -(sizeLine : Int) ≤ j then some (rngL 0 j.toNat) else none
def rng2 (i j : Int) : Option (List Int) := if (j ≤ (sizeLine : Int) ∧ -(sizeLine : Int) ≤ j) ∧ (i ≤ (sizeLine : Int) ∧ 0 ≤ i) then some (rngL i (j - i).toNat) else none
theorem rngL_length (lo : Int) (n : Nat) : (rngL lo n).length = n := by simp [rngL]
theorem wlk_rng {K : PySem.W.Frag} {I : Hp} {lo : Int} {n : Nat} : Wlk K (Itr lo n) I ((rngL lo n).map enc) := by
  refine ⟨fun i d H s hd => ?_, fun H s => by rw [List.length_map, rngL_length]; exact Nat.le_refl _⟩
  have hi : i < n := by
    have := (List.getElem?_eq_some_iff.mp hd).1
    rw [List.length_map, rngL_length] at this; exact this
  refine ⟨hi, fun x H' y => ?_⟩
  obtain ⟨e, y⟩ := y
  subst e y
  have : d = .int (lo + (i : Nat)) := by
    unfold rngL at hd
    rw [List.map_map, List.getElem?_map, List.getElem?_range hi] at hd
    exact (Option.some.inj hd).symm
  subst this
  exact .inl ⟨rfl, .int _⟩
theorem sline62 : (sizeLine : Int) < 2 ^ 62 := by rw [sizeLine_eq]; decide
theorem it_rng1 {N : List Str} {sc : Scope} {fs : Option Scope} {k : Nat} {p pos : Pos} {o : Option Int} (C : Ctx X N sc fs k) (hg : glbB sc "range" = true) (hm : X.mg "range" = none) (h : ED X G e o) (hs : starEach [e] X.env = [(false, eval e X.env)] := by rfl) :
    IT X G tg (.Call (.Name "range" p) [e] [] pos) (o.bind rng1) := fun l hl => by
  obtain ⟨j, h1, h2⟩ := bind_get hl
  obtain ⟨hc, h2⟩ := ite_get h2
  subst h2
  refine (pi_range1 (glbB_gl C.s hg).1 hm (ad_cons h ad_nil hs _ (by rw [h1]; rfl)) hs).imp fun σ H R ⟨F, I, ps, r, q⟩ => ⟨F, I, ps, r, fun vs H' I' g r' d => ?_⟩
  cases d with
  | cons d1 d2 =>
    cases d2; cases d1
    have := sline62
    refine ⟨j, rfl, by omega, by omega, q _ _ I' g r' wlk_rng (by rw [List.length_map, rngL_length]; omega)⟩
theorem it_rng2 {N : List Str} {sc : Scope} {fs : Option Scope} {k : Nat} {p pos : Pos} {o o2 : Option Int} (C : Ctx X N sc fs k) (hg : glbB sc "range" = true) (hm : X.mg "range" = none) (h : ED X G e o) (h' : ED X G e2 o2) (hs : starEach [e, e2] X.env = [(false, eval e X.env), (false, eval e2 X.env)] := by rfl) (hs2 : starEach [e2] X.env = [(false, eval e2 X.env)] := by rfl) :
    IT X G tg (.Call (.Name "range" p) [e, e2] [] pos) (bind2 rng2 o o2) := fun l hl => by
  obtain ⟨i, j, h1, h2, h3⟩ := bind2_get hl
  obtain ⟨hc, h3⟩ := ite_get h3
  subst h3
  refine (pi_range2 (glbB_gl C.s hg).1 hm (ad_cons h (ad_cons h' ad_nil hs2) (by rw [hs, hs2]) _ (by rw [h1, h2]; rfl)) hs hs2).imp fun σ H R ⟨F, I, ps, r, q⟩ => ⟨F, I, ps, r, fun vs H' I' g r' d => ?_⟩
  cases d with
  | cons d1 d2 =>
    cases d2 with
    | cons d2 d3 =>
      cases d3; cases d1; cases d2
      have := sline62
      refine ⟨i, j, rfl, ⟨by omega, by omega, by omega, by omega⟩, q _ _ I' g r' wlk_rng (by rw [List.length_map, rngL_length]; omega)⟩
def enumL {α : Type} (l : List α) : List (T2 Int α) := (List.range l.length).zipWith (fun (i : Nat) x => T2.mk (i : Int) x) l
theorem enumL_get {α : Type} {l : List α} {i : Nat} {x : α} (h : l[i]? = some x) : (enumL l)[i]? = some ⟨(i : Nat), x⟩ := by
  unfold enumL
  have hi := (List.getElem?_eq_some_iff.mp h).1
  rw [List.getElem?_zipWith, List.getElem?_range hi, h]
theorem enumL_length {α : Type} (l : List α) : (enumL l).length = l.length := by unfold enumL; rw [List.length_zipWith, List.length_range]; omega
theorem it_enum {N : List Str} {sc : Scope} {fs : Option Scope} {k : Nat} {p pos tpos : Pos} {elts : List Expr} {kk : Nat} {o : Option (List α)} (C : Ctx X N sc fs k) (hg : glbB sc "enumerate" = true) (hm : X.mg "enumerate" = none) (h : ED X G e o) (hs : starEach [e] X.env = [(false, eval e X.env)] := by rfl) :
    IT X G (.Tuple elts kk tpos) (.Call (.Name "enumerate" p) [e] [] pos) (lift1 enumL o) := fun l hl => by
  obtain ⟨t, h1, h2⟩ := lift1_get hl
  subst h2
  have pa : PA X [e] (tA X.K G [enc t]) := ad_cons h ad_nil hs _ (by rw [h1]; rfl)
  refine (pi_len (pi_enum (glbB_gl C.s hg).1 hm pa hs) fun σ H R R' w ⟨F, I, ps, r, q⟩ => ⟨F, I, ps, r, fun v H' I' g r' d => by obtain ⟨a, xs, e, z, q⟩ := q v H' I' g r' d; exact ⟨a, xs, e, z, w _ _ q⟩⟩).imp
    fun σ H R ⟨F, I, ps, r, q⟩ => ⟨F, I, ps, r, fun vs H' I' g r' d => ?_⟩
  cases d with
  | cons d1 d2 =>
    cases d2
    cases d1 with
    | lst k1 k2 =>
      refine ⟨_, _, rfl, (.inl (rd_mono r'.si k1)), fun lo => q _ _ I' g r' ⟨fun i d H s hd => ?_, fun H s => ⟨_, (.inl (rd_mono s k1)), ?_⟩⟩ ?_⟩
      · have hi : i < t.length := by
          have := (List.getElem?_eq_some_iff.mp hd).1
          rw [List.length_map, enumL_length] at this; exact this
        have hx := List.getElem?_eq_getElem hi
        rw [List.getElem?_map, enumL_get hx] at hd
        have hd := Option.some.inj hd
        subst hd
        obtain ⟨v, hv, dv⟩ := k2.at (show (t.map enc)[i]? = some (enc t[i]) by rw [List.getElem?_map, hx]; rfl)
        refine ⟨⟨_, v, (.inl (rd_mono s k1)), hv⟩, fun x H' y => ?_⟩
        obtain ⟨T, z, e1, e2, e3, e4⟩ := y
        have e5 := e4 _ (.inl (rd_mono s k1))
        rw [hv] at e5; cases e5
        subst e1
        refine .inr ⟨T, _, e2, e3, .tup (.inl upd_same) (.cons (.int _) (.cons (Dq_mono (same_upd (s.free e2)) _ _ dv) .nil))⟩
      · rw [k2.len, List.length_map, List.length_map, enumL_length]; exact Nat.le_refl _
      · rw [List.length_map, enumL_length]; have := (lo _ _).1 (.inl (rd_mono r'.si k1)); rw [k2.len, List.length_map] at this; exact this
def zipL {α β : Type} (l : List α) (m : List β) : List (T2 α β) := l.zipWith T2.mk m
theorem it_zip {N : List Str} {sc : Scope} {fs : Option Scope} {k : Nat} {p pos tpos : Pos} {elts : List Expr} {kk : Nat} {o : Option (List α)} {o2 : Option (List β)} (C : Ctx X N sc fs k) (hg : glbB sc "zip" = true) (hm : X.mg "zip" = none) (h : ED X G e o) (h' : ED X G e2 o2)
    (hs : starEach [e, e2] X.env = (false, eval e X.env) :: starEach [e2] X.env := by rfl) (hs2 : starEach [e2] X.env = [(false, eval e2 X.env)] := by rfl) (hpl : (backTo pos (starEach [e2] X.env)).any (·.1) = false := by rfl) :
    IT X G (.Tuple elts kk tpos) (.Call (.Name "zip" p) [e, e2] [] pos) (lift2 zipL o o2) := fun l hl => by
  obtain ⟨t, u, h1, h2, h3⟩ := lift2_get hl
  subst h3
  have pa : PA X [e, e2] (tA X.K G [enc t, enc u]) := ad_cons h (ad_cons h' ad_nil hs2) hs _ (by rw [h1, h2]; rfl)
  refine (pi_len (pi_zip (glbB_gl C.s hg).1 hm pa hs hpl) fun σ H R R' w ⟨F, I, ps, r, q⟩ => ⟨F, I, ps, r, fun v H' I' g r' d => by obtain ⟨a, b, xs, ys, e, z1, z2, q⟩ := q v H' I' g r' d; exact ⟨a, b, xs, ys, e, z1, z2, w _ _ q⟩⟩).imp
    fun σ H R ⟨F, I, ps, r, q⟩ => ⟨F, I, ps, r, fun vs H' I' g r' d => ?_⟩
  cases d with
  | cons d1 d2 =>
    cases d2 with
    | cons d2 d3 =>
      cases d3
      cases d1 with
      | lst k1 k2 =>
        cases d2 with
        | lst k3 k4 =>
          have ln : (zipL t u).length = min t.length u.length := by unfold zipL; rw [List.length_zipWith]
          refine ⟨_, _, _, _, rfl, (.inl (rd_mono r'.si k1)), (.inl (rd_mono r'.si k3)), fun lo => q _ _ I' g r' ⟨fun i d H s hd => ?_, fun H s => ⟨_, _, (.inl (rd_mono s k1)), (.inl (rd_mono s k3)), ?_⟩⟩ ?_⟩
          · have hi : i < min t.length u.length := by
              have := (List.getElem?_eq_some_iff.mp hd).1
              rw [List.length_map, ln] at this; exact this
            have hx : t[i]? = some t[i] := List.getElem?_eq_getElem (by omega)
            have hy : u[i]? = some u[i] := List.getElem?_eq_getElem (by omega)
            unfold zipL at hd
            rw [List.getElem?_map, List.getElem?_zipWith, hx, hy] at hd
            have hd := Option.some.inj hd
            subst hd
            obtain ⟨v, hv, dv⟩ := k2.at (show (t.map enc)[i]? = some (enc t[i]) by rw [List.getElem?_map, hx]; rfl)
            obtain ⟨w, hw, dw⟩ := k4.at (show (u.map enc)[i]? = some (enc u[i]) by rw [List.getElem?_map, hy]; rfl)
            refine ⟨⟨_, _, v, w, (.inl (rd_mono s k1)), (.inl (rd_mono s k3)), hv, hw⟩, fun x H' y => ?_⟩
            obtain ⟨T, z, z', e1, e2, e3, e4, e5⟩ := y
            have e4 := e4 _ (.inl (rd_mono s k1))
            have e5 := e5 _ (.inl (rd_mono s k3))
            rw [hv] at e4; cases e4
            rw [hw] at e5; cases e5
            subst e1
            have m := same_upd (o := HO.tup [v, w]) (s.free e2)
            refine .inr ⟨T, _, e2, e3, .tup (.inl upd_same) (.cons (Dq_mono m _ _ dv) (.cons (Dq_mono m _ _ dw) .nil))⟩
          · rw [k2.len, k4.len, List.length_map, List.length_map, List.length_map, ln]; omega
          · rw [List.length_map, ln]; have := (lo _ _).1 (.inl (rd_mono r'.si k1)); rw [k2.len, List.length_map] at this; omega
end

/-! ### for -/
def forL {S B R α : Type} (step : S → α → Option (Out S S R)) : S → List α → Option (Out S B R)
  | s, [] => some (.nx s)
  | s, x :: xs => (step s x).bind fun o => match o with
    | .nx s' => forL step s' xs
    | .ct s' => forL step s' xs
    | .bk s' => some (.nx s')
    | .rt r => some (.rt r)
    | .er e => some (.er e)
theorem forL_at {S B R α : Type} {step : S → α → Option (Out S S R)} {s : S} {l : List α} {i : Nat} {x : α} {z : Out S B R} (h : l[i]? = some x) (e : forL step s (l.drop i) = some z) :
    ∃ o, step s x = some o ∧ (match o with
    | .nx s' => forL step s' (l.drop (i + 1)) = some z
    | .ct s' => forL step s' (l.drop (i + 1)) = some z
    | .bk s' => z = .nx s'
    | .rt r => z = .rt r
    | .er e => z = .er e) := by
  obtain ⟨hi, hx⟩ := List.getElem?_eq_some_iff.mp h
  rw [List.drop_eq_getElem_cons hi, hx] at e
  unfold forL at e
  obtain ⟨o, h1, h2⟩ := bind_get e
  refine ⟨o, h1, ?_⟩
  cases o with
  | nx s => exact h2
  | ct s => exact h2
  | bk s => exact (Option.some.inj h2).symm
  | rt r => exact (Option.some.inj h2).symm
  | er e => exact (Option.some.inj h2).symm
theorem forL_end {S B R α : Type} {step : S → α → Option (Out S S R)} {s : S} {l : List α} {i : Nat} {z : Out S B R} (h : l.length ≤ i) (e : forL step s (l.drop i) = some z) : z = .nx s := by
  rw [List.drop_eq_nil_of_le h] at e
  exact (Option.some.inj e).symm
section
variable {X : Cx} {G : List Sl} {S S1 B R : Type} [Enc R] {P : S → List Sl} {P1 : S1 → List Sl} {PB : B → List Sl} {own : Rk} {rest body : List Stmt} {α : Type} [Enc α] {N : List Str} {sc : Scope} {fs : Option Scope} {k : Nat} {tg iter : Expr} {g : L2.TG} {js : List Nat} {f : α → List Sl → List Sl} {pos : Pos}
theorem sv_for {step : S1 → α → Option (Out S1 S1 R)} {s0 : S1} {ol : Option (List α)} {kk : S1 → Option (Out S B R)} (C : Ctx X N sc fs k) (hi : IT X G tg iter ol) (hg : PG X tg g) (ht : Tgt X.K g js f) (hu : ∀ s, unAt (P1 s) js = true) (hw : WkR G (P1 s0))
    (hb : ∀ s x, SV X (f x (P1 s)) body P1 P1 own.s (step s x)) (hk : ∀ s, SV X (P1 s) rest P PB own (kk s)) (hs : ∀ x, foldedSetIterable iter X.env x = pure x := by intro _; rfl) :
    SV X G (.For tg iter body [] pos :: rest) P PB own (ol.bind fun l => bindOut (forL step s0 l) kk) := fun y hy => by
  obtain ⟨l, h1, h2⟩ := bind_get hy
  unfold bindOut at h2
  obtain ⟨z, hz, h2⟩ := bind_get h2
  have pb : PSs X body (fun D σ H => ∃ s x o, step s x = some o ∧ tS X (f x (P1 s)) P1 P1 own.s o D σ H) := ⟨fun pins st σ H D I ⟨s, x, o, e, t⟩ => (hb s x o e).run pins st σ H D I t⟩
  have pf := ps_for (pos := pos) C.px C.calm (hi l h1) hg pb hs
  -- the loop, for any end wished
  have key : ∀ (D : Ends) (σ : L2.St) (H F I : Hp) (ps : Nat → Option Addr), RS X.K F G σ H I ps →
      (match z with
        | .nx s => ∀ σ' H' I' ps', Grow F I I' → RS X.K F (P1 s) σ' H' I' ps' → D.nx σ' H'
        | .rt r => ∀ v H' I', Grow F I I' → Same F H' → Same I' H' → RetR X.K own.k F I' H' v (enc r) → D.rt v H'
        | .er e => ∀ C d σ' H' I', X.mg e.k = some (.ref C) → Grow F I I' → Same F H' → Same I' H' → H' d = some (.xd [(("at" : Str), .int e.a)]) → WS X (.ref C) (some d) σ' H'
        | _ => True) → tFor (tI X.K G (l.map enc)) g (fun D σ H => ∃ s x o, step s x = some o ∧ tS X (f x (P1 s)) P1 P1 own.s o D σ H) D σ H := by
    intro D σ H F I ps r q
    refine ⟨F, I, ps, r, fun J H1 I1 g1 r1 wl lenl => ?_⟩
    obtain ⟨I2, ps2, g2, r2⟩ := hw _ _ _ _ _ _ r1
    have gI : Grow F I I2 := g1.trans g2
    refine ⟨fun i m σ H => m = l.length - i ∧ i ≤ l.length ∧ ∃ s I' ps', forL step s (l.drop i) = some z ∧ Grow F I2 I' ∧ RS X.K F (P1 s) σ H I' ps', ⟨_, rfl, Nat.zero_le _, s0, I2, ps2, hz, Grow.refl, r2⟩, ?_⟩
    rintro i m σ3 H3 ⟨rfl, hi, s, I3, ps3, ez, g3, r3⟩
    have sI : Same I1 H3 := (g2.same.trans g3.same).trans r3.si
    by_cases hlt : i < l.length
    · have hx : l[i]? = some l[i] := List.getElem?_eq_getElem hlt
      obtain ⟨o, ho, hm⟩ := forL_at hx ez
      obtain ⟨go, yl⟩ := wl.go i (enc l[i]) H3 sI (by rw [List.getElem?_map, hx]; rfl)
      refine .inr ⟨go, fun σ' H' => ∃ s I' ps', forL step s (l.drop (i + 1)) = some z ∧ Grow F I2 I' ∧ RS X.K F (P1 s) σ' H' I' ps', fun σ' H' hN => ⟨l.length - (i + 1), by omega, rfl, hlt, hN⟩, fun x H4 y4 => ?_⟩
      -- the item's data in a persistent part
      have item : ∃ I4, Grow F I3 I4 ∧ RS X.K F (P1 s) σ3 H4 I4 ps3 ∧ Dq I4 x (enc l[i]) := by
        rcases yl x H4 y4 with ⟨e, d⟩ | ⟨T, o, n, e, d⟩
        · subst e; exact ⟨I3, Grow.refl, r3, Dq_mono (g2.same.trans g3.same) _ _ d⟩
        · subst e
          refine ⟨upd I3 T o, r3.grow_new n, r3.new n, Dq_mono (fun b u q => ?_) _ _ d⟩
          by_cases c : b = T
          · subst c; rw [upd_same] at q ⊢; exact q
          · rw [upd_ne c] at q ⊢; exact (g2.same.trans g3.same) _ _ q
      obtain ⟨I4, g4, r4, d4⟩ := item
      refine ht.go l[i] (P1 s) F σ3 H4 I4 ps3 x _ r4 (unAt_ps r4 (hu s)) d4 fun σ5 r5 _ _ => ?_
      refine ⟨s, l[i], o, ho, F, I4, ps3, r5, ?_⟩
      cases o with
      | nx s' => exact fun σ' H' I' ps' g' r' => ⟨s', I', ps', hm, g3.trans (g4.trans g'), r'⟩
      | ct s' => exact fun σ' H' I' ps' g' r' => ⟨s', I', ps', hm, g3.trans (g4.trans g'), r'⟩
      | bk s' =>
        have hm : z = .nx s' := hm
        subst hm
        exact fun σ' H' I' ps' g' r' => q σ' H' I' ps' (gI.trans (g3.trans (g4.trans g'))) r'
      | rt w =>
        have hm : z = .rt w := hm
        subst hm
        exact fun v H' I' g' s1 s2 rr => q v H' I' (gI.trans (g3.trans (g4.trans g'))) s1 s2 rr
      | er w =>
        have hm : z = .er w := hm
        subst hm
        exact fun C d σ' H' I' mm g' s1 s2 hd => q C d σ' H' I' mm (gI.trans (g3.trans (g4.trans g'))) s1 s2 hd
    · have e := forL_end (by omega) ez
      subst e
      have wst := wl.st H3 sI
      rw [List.length_map, show l.length = i by omega] at wst
      exact .inl ⟨wst, q σ3 H3 I3 ps3 (gI.trans g3) r3⟩
  cases z with
  | nx s => exact (pss_cons pf (hk s y h2)).imp fun D σ H ⟨F, I, ps, r, q⟩ => key _ σ H F I ps r fun σ1 H1 I1 ps1 g1 r1 => tS_after (H := H) (ps := ps) (σ := σ) g1 r1 q
  | rt w => cases h2; exact (pss_cons pf pss_never).imp fun D σ H ⟨F, I, ps, r, q⟩ => key _ σ H F I ps r fun v H' I' g s1 s2 rr => q v H' I' g.b s1 s2 rr
  | er w => cases h2; exact (pss_cons pf pss_never).imp fun D σ H ⟨F, I, ps, r, q⟩ => key _ σ H F I ps r fun C d σ' H' I' mm g s1 s2 hd => q C d σ' H' I' mm g.b s1 s2 hd
  | bk b => cases h2; exact (pss_cons pf pss_never).imp fun D σ H ⟨F, I, ps, r, q⟩ => False.elim (by
      have : ∀ (s : S1) (l : List α) (b : B), forL step s l ≠ some (Out.bk b) := by
        intro s l b
        induction l generalizing s with
        | nil => intro h; cases h
        | cons x xs ih =>
          intro h
          unfold forL at h
          obtain ⟨o, _, h⟩ := bind_get h
          cases o with
          | nx s => exact ih s h
          | ct s => exact ih s h
          | bk s => cases h
          | rt r => cases h
          | er e => cases h
      exact this s0 l b hz)
  | ct b => cases h2; exact (pss_cons pf pss_never).imp fun D σ H ⟨F, I, ps, r, q⟩ => False.elim (by
      have : ∀ (s : S1) (l : List α) (b : B), forL step s l ≠ some (Out.ct b) := by
        intro s l b
        induction l generalizing s with
        | nil => intro h; cases h
        | cons x xs ih =>
          intro h
          unfold forL at h
          obtain ⟨o, _, h⟩ := bind_get h
          cases o with
          | nx s => exact ih s h
          | ct s => exact ih s h
          | bk s => cases h
          | rt r => cases h
          | er e => cases h
      exact this s0 l b hz)

/-! ### while -/
def whileF {S B R : Type} (c : S → Option Bool) (b : S → Option (Out S S R)) : Nat → S → Option (Out S B R)
  | 0, _ => none
  | n + 1, s => (c s).bind fun t => bif t then (b s).bind (fun o => match o with
      | .nx s' => whileF c b n s'
      | .ct s' => whileF c b n s'
      | .bk s' => some (.nx s')
      | .rt r => some (.rt r)
      | .er e => some (.er e)) else some (.nx s)
theorem sv_while {c : Expr} {oc : S1 → Option Bool} {ob : S1 → Option (Out S1 S1 R)} {n : Nat} {s0 : S1} {kk : S1 → Option (Out S B R)} (C : Ctx X N sc fs k) (hw : WkR G (P1 s0)) (hc : ∀ s, EB X (P1 s) c (oc s)) (hb : ∀ s, SV X (P1 s) body P1 P1 own.s (ob s)) (hk : ∀ s, SV X (P1 s) rest P PB own (kk s)) :
    SV X G (.While c body [] pos :: rest) P PB own (bindOut (whileF oc ob n s0) kk) := fun y hy => by
  unfold bindOut at hy
  obtain ⟨z, hz, h2⟩ := bind_get hy
  have pc : PT X c (fun σ H Q => ∃ s t, oc s = some t ∧ tB X.K (P1 s) t σ H Q) := ⟨fun pins st σ H Q I ⟨s, t, e, q⟩ => (hc s t e).run pins st σ H Q I q⟩
  have pb : PSs X body (fun D σ H => ∃ s o, ob s = some o ∧ tS X (P1 s) P1 P1 own.s o D σ H) := ⟨fun pins st σ H D I ⟨s, o, e, t⟩ => (hb s o e).run pins st σ H D I t⟩
  have pf := ps_while (pos := pos) C.px pc pb
  have key : ∀ (D : Ends) (σ : L2.St) (H F I : Hp) (ps : Nat → Option Addr), RS X.K F G σ H I ps →
      (match z with
        | .nx s => ∀ σ' H' I' ps', Grow F I I' → RS X.K F (P1 s) σ' H' I' ps' → D.nx σ' H'
        | .rt r => ∀ v H' I', Grow F I I' → Same F H' → Same I' H' → RetR X.K own.k F I' H' v (enc r) → D.rt v H'
        | .er e => ∀ C d σ' H' I', X.mg e.k = some (.ref C) → Grow F I I' → Same F H' → Same I' H' → H' d = some (.xd [(("at" : Str), .int e.a)]) → WS X (.ref C) (some d) σ' H'
        | _ => True) → tWhile (fun σ H Q => ∃ s t, oc s = some t ∧ tB X.K (P1 s) t σ H Q) (fun D σ H => ∃ s o, ob s = some o ∧ tS X (P1 s) P1 P1 own.s o D σ H) D σ H := by
    intro D σ H F I ps r q
    obtain ⟨I2, ps2, g2, r2⟩ := hw _ _ _ _ _ _ r
    refine ⟨fun m σ H => ∃ s I' ps', whileF oc ob m s = some z ∧ Grow F I I' ∧ RS X.K F (P1 s) σ H I' ps', ⟨n, s0, I2, ps2, hz, g2, r2⟩, ?_⟩
    rintro m σ3 H3 ⟨s, I3, ps3, ez, g3, r3⟩
    cases m with
    | zero => cases ez
    | succ m =>
      unfold whileF at ez
      obtain ⟨t, ht, ez⟩ := bind_get ez
      refine ⟨s, t, ht, F, I3, ps3, r3, fun H4 I4 g4 r4 => ?_⟩
      cases t with
      | false =>
        rw [cond_false] at ez
        have ez := Option.some.inj ez
        subst ez
        exact iteF (q σ3 H4 I4 ps3 (g3.trans g4) r4)
      | true =>
        rw [cond_true] at ez
        obtain ⟨o, ho, ez⟩ := bind_get ez
        refine iteT ⟨fun σ' H' => ∃ s I' ps', whileF oc ob m s = some z ∧ Grow F I I' ∧ RS X.K F (P1 s) σ' H' I' ps', fun σ' H' hN => ⟨m, Nat.lt_succ_self _, hN⟩, s, o, ho, F, I4, ps3, r4, ?_⟩
        cases o with
        | nx s' => exact fun σ' H' I' ps' g' r' => ⟨s', I', ps', ez, g3.trans (g4.trans g'), r'⟩
        | ct s' => exact fun σ' H' I' ps' g' r' => ⟨s', I', ps', ez, g3.trans (g4.trans g'), r'⟩
        | bk s' =>
          have ez := Option.some.inj ez
          subst ez
          exact fun σ' H' I' ps' g' r' => q σ' H' I' ps' (g3.trans (g4.trans g')) r'
        | rt w =>
          have ez := Option.some.inj ez
          subst ez
          exact fun v H' I' g' s1 s2 rr => q v H' I' (g3.trans (g4.trans g')) s1 s2 rr
        | er w =>
          have ez := Option.some.inj ez
          subst ez
          exact fun C d σ' H' I' mm g' s1 s2 hd => q C d σ' H' I' mm (g3.trans (g4.trans g')) s1 s2 hd
  have no : ∀ (n : Nat) (s : S1) (b : B), whileF oc ob n s ≠ some (Out.bk b) ∧ whileF oc ob n s ≠ some (Out.ct b) := by
    intro n
    induction n with
    | zero => intro s b; exact ⟨(fun h => by cases h), (fun h => by cases h)⟩
    | succ n ih =>
      intro s b
      constructor <;> (
        intro h
        unfold whileF at h
        obtain ⟨t, _, h⟩ := bind_get h
        cases t with
        | false => cases h
        | true =>
          rw [cond_true] at h
          obtain ⟨o, _, h⟩ := bind_get h
          cases o with
          | nx s => first | exact (ih s b).1 h | exact (ih s b).2 h
          | ct s => first | exact (ih s b).1 h | exact (ih s b).2 h
          | bk s => cases h
          | rt r => cases h
          | er e => cases h)
  cases z with
  | nx s => exact (pss_cons pf (hk s y h2)).imp fun D σ H ⟨F, I, ps, r, q⟩ => key _ σ H F I ps r fun σ1 H1 I1 ps1 g1 r1 => tS_after (H := H) (ps := ps) (σ := σ) g1 r1 q
  | rt w => cases h2; exact (pss_cons pf pss_never).imp fun D σ H ⟨F, I, ps, r, q⟩ => key _ σ H F I ps r fun v H' I' g s1 s2 rr => q v H' I' g.b s1 s2 rr
  | er w => cases h2; exact (pss_cons pf pss_never).imp fun D σ H ⟨F, I, ps, r, q⟩ => key _ σ H F I ps r fun C d σ' H' I' mm g s1 s2 hd => q C d σ' H' I' mm g.b s1 s2 hd
  | bk b => exact absurd hz (no n s0 b).1
  | ct b => exact absurd hz (no n s0 b).2
end
end Lay

set_option Elab.async false
set_option linter.all false
set_option maxRecDepth 100000
/-! Lay6: list comprehensions, unpacking, stores to lists. -/
namespace Lay
open PySem PySem.Spec PyProof.Rows L2
open Lay.Enc (enc)

/-! ### comprehensions -/
def wipeG (G : List Sl) : List Nat → List Sl
  | [] => G
  | v :: vs => (wipeG G vs).set v .un
def ownFree (G : List Sl) (vs : List Nat) : Bool := vs.all fun j => match slAt G j with | .own _ => false | _ => true
theorem ownFree_ps {K : PySem.W.Frag} {F H I : Hp} {G : List Sl} {σ : L2.St} {ps : Nat → Option Addr} (R : RS K F G σ H I ps) {js : List Nat} (h : ownFree G js = true) : ∀ j ∈ js, ps j = none := fun j hj => by
  have h1 := List.all_eq_true.mp h j hj
  by_cases c : j < G.length
  · obtain ⟨v, _, q⟩ := R.sl j c
    cases e : slAt G j with
    | un => rw [e] at q; exact q
    | dat d => rw [e] at q; exact q.1
    | rd d => rw [e] at q; exact q.1
    | st d => rw [e] at q; exact q.1
    | old d => rw [e] at q; exact q.1
    | nw d => rw [e] at q; exact q.1
    | own ds => rw [e] at h1; cases h1
  · exact R.out j (by omega)
theorem RS.wiped {K : PySem.W.Frag} {F H I : Hp} {G : List Sl} {σ : L2.St} {ps : Nat → Option Addr} (R : RS K F G σ H I ps) : ∀ (vs : List Nat), (∀ j ∈ vs, ps j = none) → RS K F (wipeG G vs) (wipe σ vs) H I ps
  | [], _ => R
  | v :: vs, h => by
    have R' := (RS.wiped R vs fun j hj => h j (List.mem_cons_of_mem _ hj)).setUn (i := v) (v := none)
    rw [psDel_none (h v List.mem_cons_self)] at R'
    exact R'
theorem wipeG_out {G : List Sl} {i : Nat} : ∀ {vs : List Nat}, i ∉ vs → slAt (wipeG G vs) i = slAt G i
  | [], _ => rfl
  | v :: vs, h => by
    show slAt ((wipeG G vs).set v .un) i = _
    rw [slAt_set_ne (fun e => h (by simp [e])), wipeG_out (fun z => h (List.mem_cons_of_mem _ z))]
theorem wipe_none : ∀ {vs : List Nat} {σ : L2.St} {i : Nat}, i ∈ vs → i < σ.length → (wipe σ vs)[i]? = some none
  | [], _, _, h, _ => by simp at h
  | v :: vs, σ, i, h, hl => by
    show ((wipe σ vs).set v none)[i]? = _
    by_cases e : v = i
    · subst e; rw [List.getElem?_set_self (by rw [wipe_length]; exact hl)]
    · rw [List.getElem?_set_ne e]
      exact wipe_none ((List.mem_cons.mp h).resolve_left fun z => e z.symm) hl
theorem wipe_other : ∀ {vs : List Nat} {σ : L2.St} {i : Nat}, i ∉ vs → (wipe σ vs)[i]? = σ[i]?
  | [], _, _, _ => rfl
  | v :: vs, σ, i, h => by
    show ((wipe σ vs).set v none)[i]? = _
    rw [List.getElem?_set_ne (fun e => h (by simp [e]))]
    exact wipe_other fun z => h (List.mem_cons_of_mem _ z)
theorem wipe_wipe {σ : L2.St} {vs : List Nat} : wipe (wipe σ vs) vs = wipe σ vs := by
  refine List.ext_getElem? fun i => ?_
  by_cases h : i ∈ vs
  · by_cases hl : i < σ.length
    · rw [wipe_none h (by rw [wipe_length]; exact hl), wipe_none h hl]
    · rw [List.getElem?_eq_none (by rw [wipe_length, wipe_length]; omega), List.getElem?_eq_none (by rw [wipe_length]; omega)]
  · rw [wipe_other h]
/-- behind what ran in another frame's words -/
theorem RS.back {K : PySem.W.Frag} {F F' H H' I I' : Hp} {G G' : List Sl} {σ σ' : L2.St} {ps : Nat → Option Addr} (R : RS K F G σ H I ps) (R' : RS K F' G' σ' H' I' ps) (sF : Same F F') (g : Same I I') (hG : ∀ i ds, slAt G i = .own ds → slAt G' i = .own ds ∧ i < G'.length) : RS K F G σ H' I' ps where
  si := R'.si
  sf := sF.trans R'.sf
  fo := R.fo
  len := R.len
  sl := fun i hi => by
    obtain ⟨v, h1, h2⟩ := R.sl i hi
    refine ⟨v, h1, ?_⟩
    cases e : slAt G i with
    | un => rw [e] at h2; exact h2
    | dat d => rw [e] at h2; obtain ⟨e1, x, e2, d⟩ := h2; exact ⟨e1, x, e2, Dq_mono g _ _ d⟩
    | rd ds => rw [e] at h2; obtain ⟨e1, a, xs, e2, q, d⟩ := h2; exact ⟨e1, a, xs, e2, Same.seq g q, DqAll_mono g _ _ d⟩
    | st d => rw [e] at h2; exact ⟨h2.1, h2.2.mono g⟩
    | old d => rw [e] at h2; obtain ⟨e1, x, e2, d⟩ := h2; exact ⟨e1, x, e2, Dq_mono (rgO_mono g) _ _ d⟩
    | nw d => rw [e] at h2; obtain ⟨e1, x, e2, d⟩ := h2; exact ⟨e1, x, e2, Dq_mono (rgN_mono g) _ _ d⟩
    | own ds =>
      rw [e] at h2
      obtain ⟨a, xs, e1, e2, _⟩ := h2
      obtain ⟨e', hi'⟩ := hG i ds e
      obtain ⟨v', _, h3⟩ := R'.sl i hi'
      rw [e'] at h3
      obtain ⟨a', xs', e1', _, n', hH', d'⟩ := h3
      rw [e1] at e1'; cases e1'
      exact ⟨a, xs', e1, e2, n', hH', d'⟩
  out := R.out
  dis := R.dis
def lcL {α β : Type} (c : α → Option Bool) (e : α → Option β) : List α → Option (List β)
  | [] => some []
  | x :: xs => (c x).bind fun t => bif t then (e x).bind fun y => (lcL c e xs).bind fun r => some (y :: r) else lcL c e xs
theorem lcL_at {α β : Type} {c : α → Option Bool} {e : α → Option β} {l : List α} {i : Nat} {x : α} {r : List β} (h : l[i]? = some x) (h2 : lcL c e (l.drop i) = some r) :
    ∃ t, c x = some t ∧ ((t = true ∧ ∃ y r', e x = some y ∧ r = y :: r' ∧ lcL c e (l.drop (i + 1)) = some r') ∨ (t = false ∧ lcL c e (l.drop (i + 1)) = some r)) := by
  obtain ⟨hi, hx⟩ := List.getElem?_eq_some_iff.mp h
  rw [List.drop_eq_getElem_cons hi, hx] at h2
  unfold lcL at h2
  obtain ⟨t, h3, h4⟩ := bind_get h2
  refine ⟨t, h3, ?_⟩
  cases t with
  | true =>
    rw [cond_true] at h4
    obtain ⟨y, h5, h6⟩ := bind_get h4
    obtain ⟨r', h7, h8⟩ := bind_get h6
    exact .inl ⟨rfl, y, r', h5, (Option.some.inj h8).symm, h7⟩
  | false => exact .inr ⟨rfl, h4⟩
theorem lcL_len {α β : Type} {c : α → Option Bool} {e : α → Option β} : ∀ {l : List α} {r : List β}, lcL c e l = some r → r.length ≤ l.length
  | [], r, h => by cases h; simp
  | x :: xs, r, h => by
    unfold lcL at h
    obtain ⟨t, _, h⟩ := bind_get h
    cases t with
    | true =>
      rw [cond_true] at h
      obtain ⟨y, _, h⟩ := bind_get h
      obtain ⟨r', h1, h⟩ := bind_get h
      cases h
      have := lcL_len h1
      simpa using this
    | false => have := lcL_len (l := xs) h; simp; omega
/-- a block's tests -/
def ETs (X : Cx) (G : List Sl) (ifs : List Expr) (o : Option Bool) : Prop := ∀ b, o = some b → PTs X ifs (tB X.K G b)
theorem ets_nil {X : Cx} {G : List Sl} : ETs X G [] (some true) := fun b h => by
  cases h
  exact ⟨fun pins s σ H Q I ⟨F, I', ps, r, q⟩ => pts_nil.run pins s σ H Q I (q _ _ Grow.refl r)⟩
theorem ets_one {X : Cx} {G : List Sl} {c : Expr} {o : Option Bool} (h : EB X G c o) : ETs X G [c] o := fun b hb => pts_one (h b hb)
/-- a comprehension as a value, and as what is stored on its line -/
def LC (X : Cx) (G : List Sl) (e : Expr) {α : Type} [Enc α] (o : Option (List α)) : Prop := ∀ l, o = some l → ∃ t : TE, PE X e t ∧
  (∀ (i : Nat) (y : Str) (py sp : Pos), X.N[i]? = some y → X.env.scope.names.lookup y = some .local → swapsWith e (some (.Name y py)) sp.line X.env = pure true → PS X (.Assign [.Name y py] e sp) (tAsg t (gName i))) ∧
  ∀ σ H Q, tO X.K G (l.map enc) σ H Q → t σ H Q
section
variable {X : Cx} {G : List Sl} {N : List Str} {sc : Scope} {fs : Option Scope} {k : Nat} {α β : Type} [Enc α] [Enc β] {elt tg iter : Expr} {ifs : List Expr} {scope : Scope} {pos : Pos} {g : L2.TG} {js : List Nat} {f : α → List Sl → List Sl}
theorem lc_mk {own : List (Str × Nat)} {ol : Option (List α)} {oc : α → Option Bool} {oe : α → Option β} (C : Ctx X N sc fs k) (hi : IT X G tg iter ol) (ok : blkC N sc scope own = true)
    (hg : ∀ s H Ca cl fp, PG (X.blk s H scope (compEnvC scope cl Ca X.env) fp) tg g) (ht : Tgt X.K g js f) (hj : ∀ j ∈ js, j ∈ own.map (·.2)) (hf : ownFree G (own.map (·.2)) = true)
    (hc : ∀ s H Ca cl fp x, ETs (X.blk s H scope (compEnvC scope cl Ca X.env) fp) (f x (wipeG G (own.map (·.2)))) ifs (oc x))
    (he : ∀ s H Ca cl fp x, ED (X.blk s H scope (compEnvC scope cl Ca X.env) fp) (f x (wipeG G (own.map (·.2)))) elt (oe x)) (hs : ∀ x, foldedSetIterable iter X.env x = pure x := by intro _; rfl) :
    LC X G (.ListComp elt [⟨tg, iter, ifs, 0⟩] scope pos) (ol.bind (lcL oc oe)) := fun r hr => by
  obtain ⟨l, h1, h2⟩ := bind_get hr
  obtain ⟨vs, hvs⟩ : ∃ vs, own.map (·.2) = vs := ⟨_, rfl⟩
  rw [hvs] at hj hf
  simp only [hvs] at hc he
  let te : TE := fun σ H Q => ∃ x y, oe x = some y ∧ tD X.K (f x (wipeG G vs)) (enc y) σ H Q
  let tt : TT := fun σ H Q => ∃ x b, oc x = some b ∧ tB X.K (f x (wipeG G vs)) b σ H Q
  have pe : ∀ s H Ca cl fp, PE (X.blk s H scope (compEnvC scope cl Ca X.env) fp) elt te := fun s H Ca cl fp => ⟨fun pins st σ H' Q I ⟨x, y, e, q⟩ => (he s H Ca cl fp x y e).run pins st σ H' Q I q⟩
  have pt : ∀ s H Ca cl fp, PTs (X.blk s H scope (compEnvC scope cl Ca X.env) fp) ifs tt := fun s H Ca cl fp => ⟨fun pins st σ H' Q I ⟨x, b, e, q⟩ => (hc s H Ca cl fp x b e).run pins st σ H' Q I q⟩
  have nd : X.N.Nodup := by rw [C.n]; exact C.nd
  have bk : BlkOk X.N X.env.scope scope own := by rw [C.n, C.s]; exact blkOk_by ok
  refine ⟨_, pe_lc C.calm nd (hi l h1) bk hg pt pe hs, fun i y py sp a b c => ps_setLc C.calm nd a b c (hi l h1) bk hg pt pe hs, fun σ H Q ⟨F, I, ps, R, q⟩ => ?_⟩
  rw [hvs]
  refine ⟨F, I, ps, R, fun J H1 I1 gr1 R1 wl ll D hD => ?_⟩
  have ll : l.length ≤ sizeLine := by rw [List.length_map] at ll; exact ll
  have hD1 : I1 D = none := R1.si.free hD
  have hDF : F D = none := R1.sf.free hD
  have hDp : ∀ i, ps i ≠ some D := fun i c => by obtain ⟨_, _, xs, z⟩ := R1.own_at c; rw [hD] at z; cases z
  -- the state between turns: the list made so far at D, the rest to be made
  refine ⟨fun i m H => m = l.length - i ∧ i ≤ l.length ∧ ∃ I' xs done rst, Grow F I1 I' ∧ RS X.K F G σ H I' ps ∧ I' D = none ∧ H D = some (.lst xs) ∧ DqAll I' xs (done.map enc) ∧ done.length ≤ i ∧ lcL oc oe (l.drop i) = some rst ∧ r = done ++ rst,
    ⟨_, rfl, Nat.zero_le _, I1, [], [], r, Grow.refl, R1.newOwn hD, hD1, upd_same, .nil, Nat.le_refl _, h2, rfl⟩, ?_⟩
  rintro i m H3 ⟨rfl, hil, I3, xs, done, rst, gr3, R3, n3, hD3, d3, hlen, hr3, er⟩
  have sI : Same I1 H3 := gr3.same.trans R3.si
  by_cases hlt : i < l.length
  · have hx : l[i]? = some l[i] := List.getElem?_eq_getElem hlt
    obtain ⟨t, ht1, ht2⟩ := lcL_at hx hr3
    obtain ⟨go, yl⟩ := wl.go i (enc l[i]) H3 sI (by rw [List.getElem?_map, hx]; rfl)
    refine .inr ⟨go, fun H' => ∃ I' xs done rst, Grow F I1 I' ∧ RS X.K F G σ H' I' ps ∧ I' D = none ∧ H' D = some (.lst xs) ∧ DqAll I' xs (done.map enc) ∧ done.length ≤ i + 1 ∧ lcL oc oe (l.drop (i + 1)) = some rst ∧ r = done ++ rst,
      fun H' hN => ⟨l.length - (i + 1), by omega, rfl, hlt, hN⟩, fun x H4 y4 => ?_⟩
    have item : ∃ I4, Grow F I3 I4 ∧ RS X.K F G σ H4 I4 ps ∧ Dq I4 x (enc l[i]) ∧ I4 D = none ∧ H4 D = some (.lst xs) := by
      rcases yl x H4 y4 with ⟨e, d⟩ | ⟨T, o, n, e, d⟩
      · subst e; exact ⟨I3, Grow.refl, R3, Dq_mono gr3.same _ _ d, n3, hD3⟩
      · subst e
        have nT : D ≠ T := ne_of_none hD3 n
        refine ⟨upd I3 T o, R3.grow_new n, R3.new n, Dq_mono (fun b u q => ?_) _ _ d, by rw [upd_ne nT]; exact n3, by rw [upd_ne nT]; exact hD3⟩
        by_cases c : b = T
        · subst c; rw [upd_same] at q ⊢; exact q
        · rw [upd_ne c] at q ⊢; exact gr3.same _ _ q
    obtain ⟨I4, g4, R4, d4, n4, hD4⟩ := item
    -- within the turn the new list stands for others
    have inner : ∀ {H' I'}, RS X.K F G σ H' I' ps → I' D = none → H' D = some (.lst xs) → RS X.K (upd F D (.lst xs)) G σ H' I' ps := fun {H' I'} r n h => r.frame (fun b o z => by
      by_cases c : b = D
      · subst c; rw [upd_same] at z; cases z; exact h
      · rw [upd_ne c] at z; exact r.sf _ _ z) (fun i a ha => by rw [upd_ne (fun c : a = D => hDp i (by rw [← c]; exact ha))]; exact r.fo i a ha) (upd_iff n) (fix_in hDF)
    have sF : Same F (upd F D (.lst xs)) := same_upd hDF
    have outer : ∀ {I' I''}, Grow (upd F D (.lst xs)) I' I'' → Grow F I' I'' := fun {I' I''} g => ⟨g.same, fun a h => (g.out a h).imp_right sF.free⟩
    have keepD : ∀ {I' I''}, Grow (upd F D (.lst xs)) I' I'' → I' D = none → I'' D = none := fun {I' I''} g n => by
      cases z : I'' D with
      | none => rfl
      | some o =>
        rcases g.out D (by rw [z]; simp) with h | h
        · exact absurd n h
        · rw [upd_same] at h; cases h
    have hpv := ownFree_ps R4 hf
    have Rw := (inner R4 n4 hD4).wiped vs hpv
    refine ht.go l[i] _ _ _ H4 I4 ps x _ Rw (fun j h => hpv j (hj j h)) d4 fun σ5 R5 w5 o5 => ⟨(w5 vs hj).trans wipe_wipe, ?_⟩
    -- what stands of the outer state behind
    have hG : ∀ (j : Nat) ds, slAt G j = .own ds → slAt (f (l[i]'hlt) (wipeG G vs)) j = .own ds ∧ j < (f (l[i]'hlt) (wipeG G vs)).length := fun j ds h => by
      have nv : j ∉ vs := fun z => by
        have q := List.all_eq_true.mp hf j z
        rw [h] at q; cases q
      have e : slAt (f (l[i]'hlt) (wipeG G vs)) j = .own ds := by rw [o5 j (fun z => nv (hj j z)), wipeG_out nv]; exact h
      refine ⟨e, ?_⟩
      by_cases c : j < (f (l[i]'hlt) (wipeG G vs)).length
      · exact c
      · rw [slAt_out (by omega)] at e; cases e
    refine ⟨l[i], t, ht1, upd F D (.lst xs), I4, ps, R5, fun H6 I6 g6 R6 => ?_⟩
    rcases ht2 with ⟨rfl, y, r', hy, er2, hr4⟩ | ⟨rfl, hr4⟩
    · refine iteT ⟨l[i], y, hy, upd F D (.lst xs), I6, ps, R6, fun v H7 I7 g7 R7 d7 => ?_⟩
      have g47 := outer (g6.trans g7)
      have hD7 : H7 D = some (.lst xs) := R7.sf _ _ upd_same
      have n7 : I7 D = none := keepD (g6.trans g7) n4
      have R8 := (R4.back R7 sF (g6.trans g7).same hG).wr (o := .lst (xs ++ [v])) n7 hDF hDp
      have lx : xs.length = done.length := by rw [d3.len, List.length_map]
      refine ⟨xs, hD7, by omega, I7, xs ++ [v], done ++ [y], r', gr3.trans (g4.trans g47), R8, n7, upd_same, ?_, by rw [List.length_append]; show done.length + 1 ≤ i + 1; omega, hr4, by rw [er, er2, List.append_assoc]; rfl⟩
      rw [List.map_append]
      exact (DqAll_mono (g4.trans g47).same _ _ d3).app (.cons d7 .nil)
    · have hD6 : H6 D = some (.lst xs) := R6.sf _ _ upd_same
      exact iteF ⟨I6, xs, done, rst, gr3.trans (g4.trans (outer g6)), R4.back R6 sF g6.same hG, keepD g6 n4, hD6, DqAll_mono (g4.trans (outer g6)).same _ _ d3, by omega, hr4, er⟩
  · have e : i = l.length := by omega
    subst e
    rw [List.drop_length] at hr3
    cases hr3
    rw [List.append_nil] at er
    subst er
    have wst := wl.st H3 sI
    rw [List.length_map] at wst
    exact .inl ⟨wst, q D xs H3 I3 (gr1.trans gr3) R3 n3 hDF hDp hD3 d3⟩
theorem eo_lc {e : Expr} {o : Option (List α)} (h : LC X G e o) : EO X G e o := fun l hl => let ⟨t, p, _, w⟩ := h l hl; p.imp w
end
/-! ### name = [..] -/
section
variable {X : Cx} {G : List Sl} {S B R : Type} [Enc R] {P : S → List Sl} {PB : B → List Sl} {own : Rk} {rest : List Stmt} {N : List Str} {sc : Scope} {fs : Option Scope} {k i : Nat} {x : Str} {α : Type} [Enc α] {elt : Expr} {gs : List Comprehension} {scope : Scope} {pos sp py : Pos}
/-- the name is the def's own local, no target of the comprehension, on one line -/
def swB (N : List Str) (sc scope : Scope) (i : Nat) (x : Str) : Bool := decide (N[i]? = some x) && (match sc.names.lookup x with | some .local => true | _ => false) && !(scope.names.any fun (n, k) => n == x && (k == .local || k == .cell))
theorem swB_ok (C : Ctx X N sc fs k) (h : swB N sc scope i x = true) (hl : (py.line == pos.line) = true) : X.N[i]? = some x ∧ X.env.scope.names.lookup x = some .local ∧ swapsWith (.ListComp elt gs scope pos) (some (.Name x py)) sp.line X.env = pure true := by
  unfold swB at h
  simp only [Bool.and_eq_true, decide_eq_true_eq, Bool.not_eq_true'] at h
  obtain ⟨⟨h1, h2⟩, h3⟩ := h
  have h4 : X.env.scope.names.lookup x = some .local := by
    rw [C.s]
    split at h2
    · assumption
    · cases h2
  refine ⟨by rw [C.n]; exact h1, h4, ?_⟩
  unfold swapsWith
  have hb : X.env.blockKind = .function := by
    unfold Env.blockKind; rw [C.s, C.fk]; rfl
  have ky : X.env.kindOf x = some .local := h4
  simp only [hb, ky, h3, Expr.pos, hl]
  rfl
/-- the name is a cell: stored as ever -/
theorem sw_cell (C : Ctx X N sc fs k) (h : sc.names.lookup x = some .cell) : swapsWith (.ListComp elt gs scope pos) (some (.Name x py)) sp.line X.env = pure false := by
  have ky : X.env.kindOf x = some .cell := by show X.env.scope.names.lookup x = _; rw [C.s]; exact h
  unfold swapsWith
  simp [ky, show (some NameKind.cell == some NameKind.local) = false from rfl]
theorem sv_setL {oe : Option (List α)} {kk : List α → Option (Out S B R)} (C : Ctx X N sc fs k) (hx : swB N sc scope i x = true) (hl : (py.line == pos.line) = true) (he : LC X G (.ListComp elt gs scope pos) oe) (hk : ∀ v : List α, SV X (G.set i (.dat (enc v))) rest P PB own (kk v)) :
    SV X G (.Assign [.Name x py] (.ListComp elt gs scope pos) sp :: rest) P PB own (oe.bind kk) := fun y hy => by
  obtain ⟨v, h1, h2⟩ := bind_get hy
  obtain ⟨t, _, st, w⟩ := he v h1
  obtain ⟨a1, a2, a3⟩ := swB_ok (sp := sp) C hx hl
  refine (pss_cons (st i x py sp a1 a2 a3) (hk v y h2)).imp fun D σ H ⟨F, I, ps, R, q⟩ => w σ H _ ⟨F, I, ps, R, fun p xs H1 I1 g R1 n1 n2 n3 hH d => ?_⟩
  obtain ⟨g', R2, d2⟩ := frz_new g R1 n1 n2 n3 hH d
  exact tS_after (H := H) (ps := ps) (σ := σ) g' (R2.setDat d2) q
theorem sv_setLO {oe : Option (List α)} {kk : List α → Option (Out S B R)} (C : Ctx X N sc fs k) (hx : swB N sc scope i x = true) (hl : (py.line == pos.line) = true) (hi : i < G.length) (he : LC X G (.ListComp elt gs scope pos) oe) (hk : ∀ v : List α, SV X (G.set i (.own (v.map enc))) rest P PB own (kk v)) :
    SV X G (.Assign [.Name x py] (.ListComp elt gs scope pos) sp :: rest) P PB own (oe.bind kk) := fun y hy => by
  obtain ⟨v, h1, h2⟩ := bind_get hy
  obtain ⟨t, _, st, w⟩ := he v h1
  obtain ⟨a1, a2, a3⟩ := swB_ok (sp := sp) C hx hl
  exact (pss_cons (st i x py sp a1 a2 a3) (hk v y h2)).imp fun D σ H ⟨F, I, ps, R, q⟩ => w σ H _ ⟨F, I, ps, R, fun p xs H1 I1 g R1 n1 n2 n3 hH d => tS_after (H := H) (ps := ps) (σ := σ) g (R1.setOwn hi n1 n2 n3 hH d) q⟩
/-- a, b = e -/
theorem sv_unpack {tg e : Expr} {g : L2.TG} {js : List Nat} {f : α → List Sl → List Sl} {oe : Option α} {kk : α → Option (Out S B R)} (hg : PG X tg g) (ht : Tgt X.K g js f) (hu : unAt G js = true) (he : ED X G e oe) (hk : ∀ v : α, SV X (f v G) rest P PB own (kk v))
    (hs : swapsWithSole [tg] e sp.line X.env = pure false := by rfl) (hw : swappedStores [tg] e X.env = pure none := by rfl) (h1 : (assignEach [tg] X.env).map (·.2) = [assign tg X.env] := by rfl) :
    SV X G (.Assign [tg] e sp :: rest) P PB own (oe.bind kk) := fun y hy => by
  obtain ⟨v, h2, h3⟩ := bind_get hy
  refine (pss_cons (ps_asg (he v h2) hg hs hw h1) (hk v y h3)).imp fun D σ H ⟨F, I, ps, R, q⟩ => ⟨F, I, ps, R, fun w H1 I1 g R1 d => ?_⟩
  exact ht.go v G F σ H1 I1 ps w _ R1 (unAt_ps R1 hu) d fun σ' R2 _ _ => tS_after (H := H) (ps := ps) (σ := σ) g R2 q
end
end Lay

set_option Elab.async false
set_option linter.all false
set_option maxRecDepth 100000
/-! Lay7: subscripts, slices, builtins, stores to own lists. -/
namespace Lay
open PySem PySem.Spec PyProof.Rows L2
open Lay.Enc (enc)

section
variable {X : Cx} {G : List Sl} {α β γ δ : Type} [Enc α] [Enc β] [Enc γ] [Enc δ] {a b e : Expr} {pos : Pos}
theorem atI_map {γ : Type} {l : List α} {f : α → γ} {i : Int} {x : α} (h : atI l i = some x) : atI (l.map f) i = some (f x) := by
  unfold atI at h ⊢
  rw [List.length_map]
  cases q : ixN l.length i with
  | none => rw [q] at h; cases h
  | some j =>
    rw [q] at h
    show (l.map f)[j]? = some (f x)
    rw [List.getElem?_map, show l[j]? = some x from h]; rfl
theorem _root_.Lay.DqAll.atI {H : Hp} {vs : List V} {ds : List PyData} {i : Int} {d : PyData} (h : DqAll H vs ds) (e : L2.atI ds i = some d) : ∃ v, L2.atI vs i = some v ∧ Dq H v d := by
  unfold L2.atI at e ⊢
  rw [h.len]
  cases q : ixN ds.length i with
  | none => rw [q] at e; cases e
  | some j =>
    rw [q] at e
    exact h.at e
/-- xs[i] -/
theorem ed_ix {ol : Option (List α)} {oi : Option Int} (ha : ED X G a ol) (hb : ED X G b oi) (hs : PlainIx b := by intro _ _; rfl) : ED X G (.Subscript a b pos) (bind2 atI ol oi) := fun z hz => by
  obtain ⟨l, i, h1, h2, h3⟩ := bind2_get hz
  refine (pe_ix ix_list (ha l h1) (hb i h2) hs).imp (tD_op ?_)
  intro F G σ H I ps v w Q R hv hw q
  cases hw
  cases hv with
  | lst k1 k2 =>
    obtain ⟨u, hu, du⟩ := k2.atI (atI_map h3)
    exact ⟨_, _, i, u, rfl, rfl, .inl (rd_mono R.si k1), hu, q u H I Grow.refl R du⟩
theorem ed_ixT {ol : Option (Tup α)} {oi : Option Int} (ha : ED X G a ol) (hb : ED X G b oi) (hs : PlainIx b := by intro _ _; rfl) : ED X G (.Subscript a b pos) (bind2 (fun t i => atI t.l i) ol oi) := fun z hz => by
  obtain ⟨l, i, h1, h2, h3⟩ := bind2_get hz
  refine (pe_ix ix_tup (ha l h1) (hb i h2) hs).imp (tD_op ?_)
  intro F G σ H I ps v w Q R hv hw q
  cases hw
  cases hv with
  | tup k1 k2 =>
    obtain ⟨u, hu, du⟩ := k2.atI (atI_map h3)
    exact ⟨_, _, i, u, rfl, rfl, .inl (rd_mono R.si k1), hu, q u H I Grow.refl R du⟩
/-- the item of a tuple of known length at a written index -/
theorem ed_proj {o : Option α} {i : Int} {j : Nat} {p : Pos} {f : α → β} (ha : ED X G a o) (hf : ∀ x, ∃ ds, enc x = .tuple ds ∧ atI ds i = some (enc (f x))) : ED X G (.Subscript a (.Constant (.int i) j p) pos) (lift1 f o) := fun z hz => by
  obtain ⟨x, h1, h2⟩ := lift1_get hz
  subst h2
  obtain ⟨ds, e1, e2⟩ := hf x
  refine (pe_ix ix_tup (ha x h1) (ed_num (G := G) i rfl) (fun _ _ => rfl)).imp (tD_op ?_)
  intro F G σ H I ps v w Q R hv hw q
  rw [e1] at hv
  cases hw
  cases hv with
  | tup k1 k2 =>
    obtain ⟨u, hu, du⟩ := k2.atI e2
    exact ⟨_, _, i, u, rfl, rfl, .inl (rd_mono R.si k1), hu, q u H I Grow.refl R du⟩
theorem ed_20 {o : Option (T2 α β)} {j : Nat} {p : Pos} (h : ED X G a o) : ED X G (.Subscript a (.Constant (.int 0) j p) pos) (lift1 T2.a o) := ed_proj h fun x => ⟨_, rfl, rfl⟩
theorem ed_21 {o : Option (T2 α β)} {j : Nat} {p : Pos} (h : ED X G a o) : ED X G (.Subscript a (.Constant (.int 1) j p) pos) (lift1 T2.b o) := ed_proj h fun x => ⟨_, rfl, rfl⟩
theorem ed_30 {o : Option (T3 α β γ)} {j : Nat} {p : Pos} (h : ED X G a o) : ED X G (.Subscript a (.Constant (.int 0) j p) pos) (lift1 T3.a o) := ed_proj h fun x => ⟨_, rfl, rfl⟩
theorem ed_31 {o : Option (T3 α β γ)} {j : Nat} {p : Pos} (h : ED X G a o) : ED X G (.Subscript a (.Constant (.int 1) j p) pos) (lift1 T3.b o) := ed_proj h fun x => ⟨_, rfl, rfl⟩
theorem ed_32 {o : Option (T3 α β γ)} {j : Nat} {p : Pos} (h : ED X G a o) : ED X G (.Subscript a (.Constant (.int 2) j p) pos) (lift1 T3.c o) := ed_proj h fun x => ⟨_, rfl, rfl⟩
theorem ed_40 {o : Option (T4 α β γ δ)} {j : Nat} {p : Pos} (h : ED X G a o) : ED X G (.Subscript a (.Constant (.int 0) j p) pos) (lift1 T4.a o) := ed_proj h fun x => ⟨_, rfl, rfl⟩
theorem ed_41 {o : Option (T4 α β γ δ)} {j : Nat} {p : Pos} (h : ED X G a o) : ED X G (.Subscript a (.Constant (.int 1) j p) pos) (lift1 T4.b o) := ed_proj h fun x => ⟨_, rfl, rfl⟩
theorem ed_42 {o : Option (T4 α β γ δ)} {j : Nat} {p : Pos} (h : ED X G a o) : ED X G (.Subscript a (.Constant (.int 2) j p) pos) (lift1 T4.c o) := ed_proj h fun x => ⟨_, rfl, rfl⟩
theorem ed_43 {o : Option (T4 α β γ δ)} {j : Nat} {p : Pos} (h : ED X G a o) : ED X G (.Subscript a (.Constant (.int 3) j p) pos) (lift1 T4.d o) := ed_proj h fun x => ⟨_, rfl, rfl⟩
/-- x[i], x an own list -/
theorem ed_ixO {N : List Str} {sc : Scope} {fs : Option Scope} {k i : Nat} {x : Str} {l : List α} {p : Pos} {oi : Option Int} (C : Ctx X N sc fs k) (hv : visB N sc i x = true) (hsl : slAt G i = .own (l.map enc)) (hb : ED X G b oi) (hs : PlainIx b := by intro _ _; rfl) :
    ED X G (.Subscript (.Name x p) b pos) (oi.bind fun j => atI l j) := fun z hz => by
  obtain ⟨j, h2, h3⟩ := bind_get hz
  unfold visB at hv
  simp only [Bool.and_eq_true, decide_eq_true_eq, Bool.not_eq_true'] at hv
  obtain ⟨⟨⟨h1, hv⟩, hd⟩, hcd⟩ := hv
  have hvis : Vis X.env.scope x := by
    rw [C.s]; unfold Vis
    split at hv <;> simp_all
  refine (pe_ix ix_list (pe_var (by rw [C.n]; exact h1) hvis hd hcd) (hb j h2) hs).imp fun σ H Q ⟨F, I, ps, R, q⟩ => ?_
  have hi : i < G.length := by
    by_cases c : i < G.length
    · exact c
    · rw [slAt_out (by omega)] at hsl; cases hsl
  obtain ⟨w, k1, k2⟩ := R.sl i hi
  rw [hsl] at k2
  obtain ⟨ad, xs, e1, e2, n, hH, d⟩ := k2
  subst e2
  refine ⟨_, k1, F, I, ps, R, fun w H1 I1 g1 R1 dw => ?_⟩
  cases dw
  obtain ⟨w1, m1, m2⟩ := R1.sl i hi
  rw [hsl] at m2
  obtain ⟨a1, xs1, f1, f2, n1, hH1, d1⟩ := m2
  rw [e1] at f1; cases f1
  obtain ⟨u, hu, du⟩ := d1.atI (atI_map h3)
  exact ⟨_, _, j, u, rfl, rfl, .inl (.inl hH1), hu, q u H1 I1 g1 R1 du⟩

/-! ### slices -/
/-- the part that a slice takes -/
def cutL {α : Type} (l : List α) (lo hi : Option Int) : List α := (l.drop (HT.sIx l.length 0 lo)).take (HT.sIx l.length l.length hi - HT.sIx l.length 0 lo)
def EP (X : Cx) (G : List Sl) (e : Option Expr) (o : Option (Option Int)) : Prop := ∀ i, o = some i → ∃ t, PO X e t ∧ ∀ (σ : L2.St) (H : Hp) (Q : Option Int → Hp → Prop), (∃ F I ps, RS X.K F G σ H I ps ∧ ∀ H' I', Grow F I I' → RS X.K F G σ H' I' ps → Q i H') → t σ H Q
theorem ep_none : EP X G none (some none) := fun i h => by
  cases h
  exact ⟨_, po_none, fun σ H Q ⟨F, I, ps, R, q⟩ => q _ _ Grow.refl R⟩
theorem ep_some {o : Option Int} (h : ED X G e o) : EP X G (some e) (lift1 some o) := fun i hi => by
  obtain ⟨x, h1, h2⟩ := lift1_get hi
  subst h2
  exact ⟨_, po_some (h x h1), fun σ H Q ⟨F, I, ps, R, q⟩ => ⟨F, I, ps, R, fun v H' I' g R' d => by cases d; exact ⟨x, rfl, q _ _ g R'⟩⟩⟩
theorem DqAll.cut {H : Hp} {vs : List V} {l : List α} {lo hi : Option Int} (h : DqAll H vs (l.map enc)) : DqAll H (cutV vs lo hi) ((cutL l lo hi).map enc) := by
  have e : vs.length = l.length := by rw [h.len, List.length_map]
  unfold cutV cutL
  rw [e, List.map_take, List.map_drop]
  exact (h.drop _).take _
theorem eo_slice {lo hi : Option Expr} {ol : Option (List α)} {oo oh : Option (Option Int)} {p2 : Pos} (ha : ED X G a ol) (h1 : EP X G lo oo) (h2 : EP X G hi oh) : EO X G (.Subscript a (.Slice lo hi none p2) pos) (lift3 cutL ol oo oh) := fun r hr => by
  obtain ⟨l, e1, hr⟩ := bind_get hr
  obtain ⟨i, e2, hr⟩ := bind_get hr
  obtain ⟨j, e3, hr⟩ := bind_get hr
  cases hr
  obtain ⟨t1, p1, w1⟩ := h1 i e2
  obtain ⟨t2, p2, w2⟩ := h2 j e3
  refine (pe_slice sl_list (ha l e1) p1 p2).imp fun σ H Q ⟨F, I, ps, R, q⟩ => ⟨F, I, ps, R, fun v H1 I1 g1 R1 d => w1 σ H1 _ ⟨F, I1, ps, R1, fun H2 I2 g2 R2 => w2 σ H2 _ ⟨F, I2, ps, R2, fun H3 I3 g3 R3 => ?_⟩⟩⟩
  cases d with
  | lst k1 k2 =>
    have s13 : Same I1 I3 := g2.same.trans g3.same
    refine ⟨_, _, rfl, .inl (rd_mono (s13.trans R3.si) k1), fun p hp => q p _ _ I3 (g1.trans (g2.trans g3)) (R3.newOwn hp) (R3.si.free hp) (R3.sf.free hp) (fun i c => by obtain ⟨_, _, _, z⟩ := R3.own_at c; rw [hp] at z; cases z) upd_same ?_⟩
    exact DqAll.cut (DqAll_mono s13 _ _ k2)
theorem ed_sliceT {lo hi : Option Expr} {ol : Option (Tup α)} {oo oh : Option (Option Int)} {p2 : Pos} (ha : ED X G a ol) (h1 : EP X G lo oo) (h2 : EP X G hi oh) : ED X G (.Subscript a (.Slice lo hi none p2) pos) (lift3 (fun t i j => Tup.mk (cutL t.l i j)) ol oo oh) := fun r hr => by
  obtain ⟨l, e1, hr⟩ := bind_get hr
  obtain ⟨i, e2, hr⟩ := bind_get hr
  obtain ⟨j, e3, hr⟩ := bind_get hr
  cases hr
  obtain ⟨t1, p1, w1⟩ := h1 i e2
  obtain ⟨t2, p2, w2⟩ := h2 j e3
  refine (pe_slice sl_tupA (ha l e1) p1 p2).imp fun σ H Q ⟨F, I, ps, R, q⟩ => ⟨F, I, ps, R, fun v H1 I1 g1 R1 d => w1 σ H1 _ ⟨F, I1, ps, R1, fun H2 I2 g2 R2 => w2 σ H2 _ ⟨F, I2, ps, R2, fun H3 I3 g3 R3 => ?_⟩⟩⟩
  cases d with
  | tup k1 k2 =>
    have s13 : Same I1 I3 := g2.same.trans g3.same
    have e : PyData.tuple ((cutL l.l i j).map enc) = enc (Tup.mk (cutL l.l i j)) := rfl
    have lx : ∀ {xs : List V}, DqAll I1 xs (l.l.map enc) → xs.length = l.l.length := fun h => by rw [h.len, List.length_map]
    refine ⟨_, _, rfl, .inl (rd_mono (s13.trans R3.si) k1), fun hw => q _ _ I3 (g1.trans (g2.trans g3)) R3 ?_, fun _ p hp => q _ _ _ (g1.trans (g2.trans (g3.trans (R3.grow_new hp)))) (R3.new hp) (.tup (.inl upd_same) (DqAll.cut (DqAll_mono (s13.trans (R3.grow_new (o := .tup _) hp).same) _ _ k2)))⟩
    rw [lx k2] at hw
    have e2 : cutL l.l i j = l.l := by
      unfold cutL
      rw [hw.1, hw.2]; simp
    show Dq I3 _ (PyData.tuple ((cutL l.l i j).map enc))
    rw [e2]
    exact .tup (rd_mono s13 k1) (DqAll_mono s13 _ _ k2)
end

/-! ### builtins by name -/
section
variable {X : Cx} {G : List Sl} {α β γ δ : Type} [Enc α] [Enc β] [Enc γ] [Enc δ] {a b e : Expr} {pos p : Pos} {N : List Str} {sc : Scope} {fs : Option Scope} {k : Nat}
/-- a builtin of one argument -/
theorem b1 {id x : Str} {bid : String} {te : TE} {r : List V → Hp → VK → Prop} (C : Ctx X N sc fs k) (hg : glbB sc x = true) (hm : X.mg x = none) (hv : bootBuiltins x = some (.builtin bid)) (hc : CallR X (.builtin bid) r) (h : PE X e te) (hn : x ≠ "__name__")
    (hs : starEach [e] X.env = (false, eval e X.env) :: starEach [] X.env) : PE X (.Call (.Name x p) [e] [] pos) (tCB r (tCons te tNil)) := by
  obtain ⟨gl, db⟩ := glbB_gl C.s hg
  exact pe_callB hc gl hm hv (pa_cons h pa_nil hs) hn db hs rfl
theorem bT {x : Str} {T : String} {te : TE} {r : List V → Hp → VK → Prop} (C : Ctx X N sc fs k) (hg : glbB sc x = true) (hm : X.mg x = none) (hv : bootBuiltins x = some (.type T)) (hc : CallR X (.type T) r) (h : PE X e te) (hn : x ≠ "__name__")
    (hs : starEach [e] X.env = (false, eval e X.env) :: starEach [] X.env) : PE X (.Call (.Name x p) [e] [] pos) (tCB r (tCons te tNil)) := by
  obtain ⟨gl, db⟩ := glbB_gl C.s hg
  exact pe_callTy hc gl hm hv (pa_cons h pa_nil hs) hn db hs rfl
/-- a rule of one value on data: the answer is scalar -/
theorem tD_b1 {K : PySem.W.Frag} {r : List V → Hp → VK → Prop} {d1 d : PyData} (h : ∀ (F : Hp) (G : List Sl) (σ : L2.St) (H I : Hp) (ps : Nat → Option Addr) (v : V) (Q : VK), RS K F G σ H I ps → Dq I v d1 → (∀ u H' I', Grow F I I' → RS K F G σ H' I' ps → Dq I' u d → Q u H') → r [v] H Q)
    (σ : L2.St) (H : Hp) (Q : VK) (t : tD K G d σ H Q) : tCB r (tCons (tD K G d1) tNil) σ H Q := by
  obtain ⟨F, I, ps, R, q⟩ := t
  exact ⟨F, I, ps, R, fun v H1 I1 g1 R1 dv => h F G σ H1 I1 ps v Q R1 dv fun u H3 I3 g3 R3 du => q u H3 I3 (g1.trans g3) R3 du⟩
/-- .. of a list that is read -/
theorem tR_b1 {K : PySem.W.Frag} {r : List V → Hp → VK → Prop} {ds : List PyData} {d : PyData} (h : ∀ (F : Hp) (G : List Sl) (σ : L2.St) (H I : Hp) (ps : Nat → Option Addr) (ad : Addr) (xs : List V) (Q : VK), RS K F G σ H I ps → SqL K H ad xs → DqAll I xs ds → (∀ u H' I', Grow F I I' → RS K F G σ H' I' ps → Dq I' u d → Q u H') → r [.ref ad] H Q)
    (σ : L2.St) (H : Hp) (Q : VK) (t : tD K G d σ H Q) : tCB r (tCons (tR K G ds) tNil) σ H Q := by
  obtain ⟨F, I, ps, R, q⟩ := t
  exact ⟨F, I, ps, R, fun ad xs H1 I1 g1 R1 s dv => h F G σ H1 I1 ps ad xs Q R1 s dv fun u H3 I3 g3 R3 du => q u H3 I3 (g1.trans g3) R3 du⟩
theorem tR_bO {K : PySem.W.Frag} {r : List V → Hp → VK → Prop} {ds es : List PyData} (h : ∀ (F : Hp) (G : List Sl) (σ : L2.St) (H I : Hp) (ps : Nat → Option Addr) (ad : Addr) (xs : List V) (Q : VK), RS K F G σ H I ps → SqL K H ad xs → DqAll I xs ds → (∀ p ys, H p = none → DqAll I ys es → Q (.ref p) (upd H p (.lst ys))) → r [.ref ad] H Q)
    (σ : L2.St) (H : Hp) (Q : VK) (t : tO K G es σ H Q) : tCB r (tCons (tR K G ds) tNil) σ H Q := by
  obtain ⟨F, I, ps, R, q⟩ := t
  refine ⟨F, I, ps, R, fun ad xs H1 I1 g1 R1 s dv => h F G σ H1 I1 ps ad xs Q R1 s dv fun p ys hp dy => ?_⟩
  exact q p ys _ I1 g1 (R1.newOwn hp) (R1.si.free hp) (R1.sf.free hp) (fun i c => by obtain ⟨_, _, _, z⟩ := R1.own_at c; rw [hp] at z; cases z) upd_same dy
theorem ed_len {ol : Option (List α)} (C : Ctx X N sc fs k) (hg : glbB sc "len" = true) (hm : X.mg "len" = none) (h : ER X G e ol) (hs : starEach [e] X.env = (false, eval e X.env) :: starEach [] X.env := by rfl) : ED X G (.Call (.Name "len" p) [e] [] pos) (lift1 (fun l => (l.length : Int)) ol) := fun z hz => by
  obtain ⟨l, h1, h2⟩ := lift1_get hz
  subst h2
  refine (b1 (id := "len") C hg hm PySem.boot_len call_len_seq (h l h1) (by decide) hs).imp (tR_b1 fun F G σ H I ps ad xs Q R s d q => ⟨ad, xs, rfl, .inl s, ?_⟩)
  rw [d.len, List.length_map]
  exact q _ _ _ Grow.refl R (.int _)
theorem ed_lenT {ol : Option (Tup α)} (C : Ctx X N sc fs k) (hg : glbB sc "len" = true) (hm : X.mg "len" = none) (h : ED X G e ol) (hs : starEach [e] X.env = (false, eval e X.env) :: starEach [] X.env := by rfl) : ED X G (.Call (.Name "len" p) [e] [] pos) (lift1 (fun t => (t.l.length : Int)) ol) := fun z hz => by
  obtain ⟨l, h1, h2⟩ := lift1_get hz
  subst h2
  refine (b1 (id := "len") C hg hm PySem.boot_len call_len_seq (h l h1) (by decide) hs).imp (tD_b1 fun F G σ H I ps v Q R d q => ?_)
  cases d with
  | tup k1 k2 =>
    refine ⟨_, _, rfl, .inr (.inl (rd_mono R.si k1)), ?_⟩
    rw [k2.len, List.length_map]
    exact q _ _ _ Grow.refl R (.int _)
theorem ints_of {I : Hp} : ∀ {xs : List V} {ns : List Int}, DqAll I xs (ns.map enc) → xs = ns.map V.int
  | _, [], h => by cases h; rfl
  | _, n :: ns, h => by
    cases h with
    | cons h1 h2 =>
      cases h1
      rw [ints_of h2]; rfl
theorem of_ints {I : Hp} : ∀ (ns : List Int), DqAll I (ns.map V.int) (ns.map enc)
  | [] => .nil
  | n :: ns => .cons (.int n) (of_ints ns)
theorem bools_of {I : Hp} : ∀ {xs : List V} {ns : List Bool}, DqAll I xs (ns.map enc) → xs = ns.map V.bl
  | _, [], h => by cases h; rfl
  | _, n :: ns, h => by
    cases h with
    | cons h1 h2 =>
      cases h1
      rw [bools_of h2]; rfl
theorem ed_sum {ol : Option (List Int)} (C : Ctx X N sc fs k) (hg : glbB sc "sum" = true) (hm : X.mg "sum" = none) (h : ER X G e ol) (hs : starEach [e] X.env = (false, eval e X.env) :: starEach [] X.env := by rfl) : ED X G (.Call (.Name "sum" p) [e] [] pos) (lift1 List.sum ol) := fun z hz => by
  obtain ⟨l, h1, h2⟩ := lift1_get hz
  subst h2
  refine (b1 (id := "sum") C hg hm (by decide +kernel) (cr_sum C.calm) (h l h1) (by decide) hs).imp (tR_b1 fun F G σ H I ps ad xs Q R s d q => ?_)
  rw [ints_of d] at s
  exact ⟨ad, l, rfl, s, q _ _ _ Grow.refl R (.int _)⟩
/-- the greatest (least) of a list that is not empty -/
def maxL : List Int → Option Int
  | [] => none
  | x :: xs => some (xs.foldl (fun m y => if y > m then y else m) x)
def minL : List Int → Option Int
  | [] => none
  | x :: xs => some (xs.foldl (fun m y => if y < m then y else m) x)
theorem maxL_fold (xs : List Int) (x : Int) : xs.foldl (fun m y => if y > m then y else m) x ∈ x :: xs ∧ ∀ y ∈ x :: xs, y ≤ xs.foldl (fun m y => if y > m then y else m) x := by
  induction xs generalizing x with
  | nil => simp
  | cons z zs ih =>
    rw [List.foldl_cons]
    obtain ⟨h1, h2⟩ := ih (if z > x then z else x)
    refine ⟨?_, fun y hy => ?_⟩
    · rcases List.mem_cons.mp h1 with e | e
      · rw [e]; split <;> simp
      · simp [e]
    · have h3 := h2 (if z > x then z else x) (by simp)
      rcases List.mem_cons.mp hy with e | e
      · subst e; revert h3; split <;> omega
      · rcases List.mem_cons.mp e with e | e
        · subst e; revert h3; split <;> omega
        · exact h2 y (by simp [e])
theorem minL_fold (xs : List Int) (x : Int) : xs.foldl (fun m y => if y < m then y else m) x ∈ x :: xs ∧ ∀ y ∈ x :: xs, xs.foldl (fun m y => if y < m then y else m) x ≤ y := by
  induction xs generalizing x with
  | nil => simp
  | cons z zs ih =>
    rw [List.foldl_cons]
    obtain ⟨h1, h2⟩ := ih (if z < x then z else x)
    refine ⟨?_, fun y hy => ?_⟩
    · rcases List.mem_cons.mp h1 with e | e
      · rw [e]; split <;> simp
      · simp [e]
    · have h3 := h2 (if z < x then z else x) (by simp)
      rcases List.mem_cons.mp hy with e | e
      · subst e; revert h3; split <;> omega
      · rcases List.mem_cons.mp e with e | e
        · subst e; revert h3; split <;> omega
        · exact h2 y (by simp [e])
theorem maxL_spec {l : List Int} {m : Int} (h : maxL l = some m) : m ∈ l ∧ ∀ y ∈ l, y ≤ m := by
  cases l with
  | nil => cases h
  | cons x xs => have h := Option.some.inj h; subst h; exact maxL_fold xs x
theorem minL_spec {l : List Int} {m : Int} (h : minL l = some m) : m ∈ l ∧ ∀ y ∈ l, m ≤ y := by
  cases l with
  | nil => cases h
  | cons x xs => have h := Option.some.inj h; subst h; exact minL_fold xs x
theorem ed_maxL {ol : Option (List Int)} (C : Ctx X N sc fs k) (hg : glbB sc "max" = true) (hm : X.mg "max" = none) (h : ER X G e ol) (hs : starEach [e] X.env = (false, eval e X.env) :: starEach [] X.env := by rfl) : ED X G (.Call (.Name "max" p) [e] [] pos) (ol.bind maxL) := fun z hz => by
  obtain ⟨l, h1, h2⟩ := bind_get hz
  obtain ⟨m1, m2⟩ := maxL_spec h2
  refine (b1 (id := "max") C hg hm (by decide +kernel) (cr_max C.calm) (h l h1) (by decide) hs).imp (tR_b1 fun F G σ H I ps ad xs Q R s d q => ?_)
  rw [ints_of d] at s
  refine ⟨ad, l, rfl, s, List.length_pos_of_mem m1, fun m hm hle => ?_⟩
  have e : m = z := Int.le_antisymm (m2 m hm) (hle z m1)
  subst e
  exact q _ _ _ Grow.refl R (.int _)
theorem ed_minL {ol : Option (List Int)} (C : Ctx X N sc fs k) (hg : glbB sc "min" = true) (hm : X.mg "min" = none) (h : ER X G e ol) (hs : starEach [e] X.env = (false, eval e X.env) :: starEach [] X.env := by rfl) : ED X G (.Call (.Name "min" p) [e] [] pos) (ol.bind minL) := fun z hz => by
  obtain ⟨l, h1, h2⟩ := bind_get hz
  obtain ⟨m1, m2⟩ := minL_spec h2
  refine (b1 (id := "min") C hg hm (by decide +kernel) (cr_min C.calm) (h l h1) (by decide) hs).imp (tR_b1 fun F G σ H I ps ad xs Q R s d q => ?_)
  rw [ints_of d] at s
  refine ⟨ad, l, rfl, s, List.length_pos_of_mem m1, fun m hm hle => ?_⟩
  have e : m = z := Int.le_antisymm (hle z m1) (m2 m hm)
  subst e
  exact q _ _ _ Grow.refl R (.int _)
theorem ed_abs {o : Option Int} (C : Ctx X N sc fs k) (hg : glbB sc "abs" = true) (hm : X.mg "abs" = none) (h : ED X G e o) (hs : starEach [e] X.env = (false, eval e X.env) :: starEach [] X.env := by rfl) : ED X G (.Call (.Name "abs" p) [e] [] pos) (lift1 (fun i => if i < 0 then -i else i) o) := fun z hz => by
  obtain ⟨i, h1, h2⟩ := lift1_get hz
  subst h2
  refine (b1 (id := "abs") C hg hm (by decide +kernel) call_abs (h i h1) (by decide) hs).imp (tD_b1 fun F G σ H I ps v Q R d q => ?_)
  cases d
  exact ⟨i, rfl, q _ _ _ Grow.refl R (.int _)⟩
theorem ed_int {o : Option Int} (C : Ctx X N sc fs k) (hg : glbB sc "int" = true) (hm : X.mg "int" = none) (h : ED X G e o) (hs : starEach [e] X.env = (false, eval e X.env) :: starEach [] X.env := by rfl) : ED X G (.Call (.Name "int" p) [e] [] pos) o := fun i h1 => by
  refine (bT C hg hm (by decide +kernel) call_int1 (h i h1) (by decide) hs).imp (tD_b1 fun F G σ H I ps v Q R d q => ?_)
  cases d
  exact .inl ⟨i, rfl, q _ _ _ Grow.refl R (.int _)⟩
theorem ed_intB {o : Option Bool} (C : Ctx X N sc fs k) (hg : glbB sc "int" = true) (hm : X.mg "int" = none) (h : ED X G e o) (hs : starEach [e] X.env = (false, eval e X.env) :: starEach [] X.env := by rfl) : ED X G (.Call (.Name "int" p) [e] [] pos) (lift1 (fun b => if b = true then (1 : Int) else 0) o) := fun z hz => by
  obtain ⟨i, h1, h2⟩ := lift1_get hz
  subst h2
  refine (bT C hg hm (by decide +kernel) call_int1 (h i h1) (by decide) hs).imp (tD_b1 fun F G σ H I ps v Q R d q => ?_)
  cases d
  exact .inr ⟨i, rfl, q _ _ _ Grow.refl R (.int _)⟩
theorem ed_all {ol : Option (List Bool)} (C : Ctx X N sc fs k) (hg : glbB sc "all" = true) (hm : X.mg "all" = none) (h : ER X G e ol) (hs : starEach [e] X.env = (false, eval e X.env) :: starEach [] X.env := by rfl) : ED X G (.Call (.Name "all" p) [e] [] pos) (lift1 (fun l => l.all id) ol) := fun z hz => by
  obtain ⟨l, h1, h2⟩ := lift1_get hz
  subst h2
  refine (b1 (id := "all") C hg hm (by decide +kernel) (cr_all C.calm) (h l h1) (by decide) hs).imp (tR_b1 fun F G σ H I ps ad xs Q R s d q => ?_)
  rw [bools_of d] at s
  exact ⟨ad, l, rfl, s, q _ _ _ Grow.refl R (.bl _)⟩
theorem ed_any {ol : Option (List Bool)} (C : Ctx X N sc fs k) (hg : glbB sc "any" = true) (hm : X.mg "any" = none) (h : ER X G e ol) (hs : starEach [e] X.env = (false, eval e X.env) :: starEach [] X.env := by rfl) : ED X G (.Call (.Name "any" p) [e] [] pos) (lift1 (fun l => l.any id) ol) := fun z hz => by
  obtain ⟨l, h1, h2⟩ := lift1_get hz
  subst h2
  refine (b1 (id := "any") C hg hm (by decide +kernel) (cr_any C.calm) (h l h1) (by decide) hs).imp (tR_b1 fun F G σ H I ps ad xs Q R s d q => ?_)
  rw [bools_of d] at s
  exact ⟨ad, l, rfl, s, q _ _ _ Grow.refl R (.bl _)⟩
/-- min(a, b), max(a, b) -/
theorem b2 {x : Str} {bid : String} {d1 d2 d : PyData} {r : List V → Hp → VK → Prop} (C : Ctx X N sc fs k) (hg : glbB sc x = true) (hm : X.mg x = none) (hv : bootBuiltins x = some (.builtin bid)) (hc : CallR X (.builtin bid) r) (h1 : PE X a (tD X.K G d1)) (h2 : PE X b (tD X.K G d2)) (hn : x ≠ "__name__")
    (w : ∀ (F : Hp) (G : List Sl) (σ : L2.St) (H I : Hp) (ps : Nat → Option Addr) (v w : V) (Q : VK), RS X.K F G σ H I ps → Dq I v d1 → Dq I w d2 → (∀ u H' I', Grow F I I' → RS X.K F G σ H' I' ps → Dq I' u d → Q u H') → r [v, w] H Q)
    (hs : starEach [a, b] X.env = (false, eval a X.env) :: starEach [b] X.env) (hs2 : starEach [b] X.env = (false, eval b X.env) :: starEach [] X.env) (hp : (backTo pos (starEach [b] X.env)).any (·.1) = false) : PE X (.Call (.Name x p) [a, b] [] pos) (tD X.K G d) := by
  obtain ⟨gl, db⟩ := glbB_gl C.s hg
  refine (pe_callB hc gl hm hv (pa_cons h1 (pa_cons h2 pa_nil hs2) hs) hn db hs hp).imp fun σ H Q ⟨F, I, ps, R, q⟩ => ⟨F, I, ps, R, fun v H1 I1 g1 R1 d1 => ⟨F, I1, ps, R1, fun u H2 I2 g2 R2 d2 => ?_⟩⟩
  exact w F G σ H2 I2 ps v u Q R2 (Dq_mono g2.same _ _ d1) d2 fun z H3 I3 g3 R3 d3 => q z H3 I3 (g1.trans (g2.trans g3)) R3 d3
theorem ed_max2 {oa ob : Option Int} (C : Ctx X N sc fs k) (hg : glbB sc "max" = true) (hm : X.mg "max" = none) (ha : ED X G a oa) (hb : ED X G b ob)
    (hs : starEach [a, b] X.env = (false, eval a X.env) :: starEach [b] X.env := by rfl) (hs2 : starEach [b] X.env = (false, eval b X.env) :: starEach [] X.env := by rfl) (hp : (backTo pos (starEach [b] X.env)).any (·.1) = false := by rfl) :
    ED X G (.Call (.Name "max" p) [a, b] [] pos) (lift2 (fun i j => if j > i then j else i) oa ob) := fun z hz => by
  obtain ⟨i, j, h1, h2, h3⟩ := lift2_get hz
  subst h3
  exact b2 C hg hm (by decide +kernel) (call_max2 C.calm) (ha i h1) (hb j h2) (by decide) (fun F G σ H I ps v w Q R d1 d2 q => by cases d1; cases d2; exact ⟨i, j, rfl, q _ _ _ Grow.refl R (.int _)⟩) hs hs2 hp
theorem ed_min2 {oa ob : Option Int} (C : Ctx X N sc fs k) (hg : glbB sc "min" = true) (hm : X.mg "min" = none) (ha : ED X G a oa) (hb : ED X G b ob)
    (hs : starEach [a, b] X.env = (false, eval a X.env) :: starEach [b] X.env := by rfl) (hs2 : starEach [b] X.env = (false, eval b X.env) :: starEach [] X.env := by rfl) (hp : (backTo pos (starEach [b] X.env)).any (·.1) = false := by rfl) :
    ED X G (.Call (.Name "min" p) [a, b] [] pos) (lift2 (fun i j => if j < i then j else i) oa ob) := fun z hz => by
  obtain ⟨i, j, h1, h2, h3⟩ := lift2_get hz
  subst h3
  exact b2 C hg hm (by decide +kernel) (call_min2 C.calm) (ha i h1) (hb j h2) (by decide) (fun F G σ H I ps v w Q R d1 d2 q => by cases d1; cases d2; exact ⟨i, j, rfl, q _ _ _ Grow.refl R (.int _)⟩) hs hs2 hp

/-! ### lists from lists -/
def sortI (l : List Int) : List Int := l.mergeSort (fun a b => decide (a ≤ b))
theorem sortI_perm (l : List Int) : (sortI l).Perm l := List.mergeSort_perm ..
theorem sortI_sorted (l : List Int) : (sortI l).Pairwise (· ≤ ·) := by
  have h := List.pairwise_mergeSort (le := fun a b : Int => decide (a ≤ b)) (fun a b c h1 h2 => by simp only [decide_eq_true_eq] at *; omega) (fun a b => by simp only [Bool.or_eq_true, decide_eq_true_eq]; omega) l
  exact h.imp fun h => of_decide_eq_true h
theorem sorted_unique : ∀ {l m : List Int}, l.Perm m → l.Pairwise (· ≤ ·) → m.Pairwise (· ≤ ·) → l = m := fun h h1 h2 => h.eq_of_pairwise (fun a b _ _ h3 h4 => Int.le_antisymm h3 h4) h1 h2
theorem eo_sorted {ol : Option (List Int)} (C : Ctx X N sc fs k) (hg : glbB sc "sorted" = true) (hm : X.mg "sorted" = none) (h : ER X G e ol) (hs : starEach [e] X.env = (false, eval e X.env) :: starEach [] X.env := by rfl) : EO X G (.Call (.Name "sorted" p) [e] [] pos) (lift1 sortI ol) := fun z hz => by
  obtain ⟨l, h1, h2⟩ := lift1_get hz
  subst h2
  refine (b1 (id := "sorted") C hg hm (by decide +kernel) cr_sortedI (h l h1) (by decide) hs).imp (tR_bO fun F G σ H I ps ad xs Q R s d q => ?_)
  rw [ints_of d] at s
  refine ⟨ad, l, rfl, s, fun ns' p hp1 hp2 hp => ?_⟩
  have e : ns' = sortI l := sorted_unique (hp1.trans (sortI_perm l).symm) hp2 (sortI_sorted l)
  subst e
  exact q p _ hp (of_ints _)
theorem eo_listL {ol : Option (List α)} (C : Ctx X N sc fs k) (hg : glbB sc "list" = true) (hm : X.mg "list" = none) (h : ER X G e ol) (hs : starEach [e] X.env = (false, eval e X.env) :: starEach [] X.env := by rfl) : EO X G (.Call (.Name "list" p) [e] [] pos) ol := fun l h1 => by
  refine (bT C hg hm (by decide +kernel) call_list_of (h l h1) (by decide) hs).imp (tR_bO fun F G σ H I ps ad xs Q R s d q => ?_)
  exact ⟨ad, xs, rfl, .inl s, fun l hl => q l xs hl d⟩
theorem eo_listT {ol : Option (Tup α)} (C : Ctx X N sc fs k) (hg : glbB sc "list" = true) (hm : X.mg "list" = none) (h : ED X G e ol) (hs : starEach [e] X.env = (false, eval e X.env) :: starEach [] X.env := by rfl) : EO X G (.Call (.Name "list" p) [e] [] pos) (lift1 Tup.l ol) := fun z hz => by
  obtain ⟨t, h1, h2⟩ := lift1_get hz
  subst h2
  refine (bT C hg hm (by decide +kernel) call_list_of (h t h1) (by decide) hs).imp fun σ H Q ⟨F, I, ps, R, q⟩ => ⟨F, I, ps, R, fun v H1 I1 g1 R1 d => ?_⟩
  cases d with
  | tup k1 k2 =>
    exact ⟨_, _, rfl, .inr (.inl (rd_mono R1.si k1)), fun p hp => q p _ _ I1 g1 (R1.newOwn hp) (R1.si.free hp) (R1.sf.free hp) (fun i c => by obtain ⟨_, _, _, z⟩ := R1.own_at c; rw [hp] at z; cases z) upd_same k2⟩
theorem ed_tupL {ol : Option (List α)} (C : Ctx X N sc fs k) (hg : glbB sc "tuple" = true) (hm : X.mg "tuple" = none) (h : ER X G e ol) (hs : starEach [e] X.env = (false, eval e X.env) :: starEach [] X.env := by rfl) : ED X G (.Call (.Name "tuple" p) [e] [] pos) (lift1 Tup.mk ol) := fun z hz => by
  obtain ⟨l, h1, h2⟩ := lift1_get hz
  subst h2
  refine (bT C hg hm (by decide +kernel) call_tuple_of (h l h1) (by decide) hs).imp fun σ H Q ⟨F, I, ps, R, q⟩ => ⟨F, I, ps, R, fun ad xs H1 I1 g1 R1 s d => ?_⟩
  refine ⟨ad, xs, rfl, .inl ⟨s, fun p hp => q _ _ _ (g1.trans (R1.grow_new hp)) (R1.new hp) (.tup (.inl upd_same) (DqAll_mono (R1.grow_new (o := .tup xs) hp).same _ _ d))⟩⟩
/-- list(range(..)) -/
theorem op_catR {X : Cx} : OpR X (binaryOp .Add) (fun x y H Q => ∃ l b xs zs, x = .ref l ∧ y = .ref b ∧ Rd H l (.lst xs) ∧ Rd H b (.lst zs) ∧ xs.length + zs.length ≤ sizeLine ∧ ∀ p, H p = none → Q (.ref p) (upd H p (.lst (xs ++ zs)))) := by
  intro pins s σ H x y v u Q I rx ry h
  obtain ⟨l, b, xs, zs, e1, e2, hl, hb, hz, q⟩ := h
  subst e1 e2
  have e1 : v = .ref l := rx
  have e2 : u = .ref b := ry
  subst e1 e2
  obtain ⟨z1, its, n, r1, o1⟩ := hl.ok I.hok
  obtain ⟨z2, its2, n2, r2, o2⟩ := hb.ok I.hok
  refine PySem.P.add_list o1 o2 ?_ (by rw [List.size_toArray, List.size_toArray, ← r1.length, ← r2.length]; exact hz)
  rw [show its.toArray ++ its2.toArray = (its ++ its2).toArray by simp]
  exact ⟨.ref _, _, I.lnew (t' := s.toks) (r1.append r2) (by rw [List.length_append]; exact hz), rfl, q _ I.fresh⟩
def catG {α : Type} (l m : List α) : Option (List α) := if l.length + m.length ≤ sizeLine then some (l ++ m) else none
theorem eo_cat {oa ob : Option (List α)} (ha : ED X G a oa) (hb : ED X G b ob) : EO X G (.BinOp a .Add b pos) (bind2 catG oa ob) := fun z hz => by
  obtain ⟨l, m, h1, h2, h3⟩ := bind2_get hz
  obtain ⟨hc, h3⟩ := ite_get h3
  subst h3
  refine (pe_op op_catR (ha l h1) (hb m h2)).imp fun σ H Q ⟨F, I, ps, R, q⟩ => ⟨F, I, ps, R, fun v H1 I1 g1 R1 d1 => ⟨F, I1, ps, R1, fun w H2 I2 g2 R2 d2 => ?_⟩⟩
  have d1 := Dq_mono g2.same _ _ d1
  cases d1 with
  | lst k1 k2 =>
    cases d2 with
    | lst k3 k4 =>
      refine ⟨_, _, _, _, rfl, rfl, rd_mono R2.si k1, rd_mono R2.si k3, by rw [k2.len, k4.len, List.length_map, List.length_map]; exact hc, fun p hp => q p _ _ I2 (g1.trans g2) (R2.newOwn hp) (R2.si.free hp) (R2.sf.free hp) (fun i c => by obtain ⟨_, _, _, z⟩ := R2.own_at c; rw [hp] at z; cases z) upd_same (by rw [List.map_append]; exact k2.app k4)⟩
theorem ed_catT {oa ob : Option (Tup α)} (ha : ED X G a oa) (hb : ED X G b ob) : ED X G (.BinOp a .Add b pos) (bind2 (fun s t => lift1 Tup.mk (catG s.l t.l)) oa ob) := fun z hz => by
  obtain ⟨l, m, h1, h2, h3⟩ := bind2_get hz
  obtain ⟨y, h3, h4⟩ := lift1_get h3
  obtain ⟨hc, h3⟩ := ite_get h3
  subst h3 h4
  refine (pe_op op_catA (ha l h1) (hb m h2)).imp fun σ H Q ⟨F, I, ps, R, q⟩ => ⟨F, I, ps, R, fun v H1 I1 g1 R1 d1 => ⟨F, I1, ps, R1, fun w H2 I2 g2 R2 d2 => ?_⟩⟩
  have d1 := Dq_mono g2.same _ _ d1
  cases d1 with
  | tup k1 k2 =>
    cases d2 with
    | tup k3 k4 =>
      refine ⟨_, _, _, _, rfl, rfl, .inl (rd_mono R2.si k1), .inl (rd_mono R2.si k3), by rw [k2.len, k4.len, List.length_map, List.length_map]; exact hc, fun e => ?_, fun _ e => ?_, fun _ _ p hp => ?_⟩
      · refine q _ _ I2 (g1.trans g2) R2 (.tup k3 ?_)
        have : l.l = [] := by
          have := k2.len; rw [e, List.length_map] at this
          exact List.eq_nil_of_length_eq_zero this.symm
        rw [this]; exact k4
      · refine q _ _ I2 (g1.trans g2) R2 (.tup k1 ?_)
        have : m.l = [] := by
          have := k4.len; rw [e, List.length_map] at this
          exact List.eq_nil_of_length_eq_zero this.symm
        rw [this, List.append_nil]; exact k2
      · refine q _ _ _ (g1.trans (g2.trans (R2.grow_new hp))) (R2.new hp) (.tup (.inl upd_same) (DqAll_mono (R2.grow_new (o := .tup _) hp).same _ _ ?_))
        rw [List.map_append]; exact k2.app k4
theorem op_repR {X : Cx} : OpR X (binaryOp .Mult) (fun x y H Q => ∃ l k xs, x = .ref l ∧ y = .int k ∧ H l = some (.lst xs) ∧ -(2 ^ 63) ≤ k ∧ k < 2 ^ 63 ∧ xs.length * k.toNat ≤ sizeLine ∧ ∀ p, H p = none → Q (.ref p) (upd H p (.lst (List.replicate k.toNat xs).flatten))) := op_rep
def repG {α : Type} (l : List α) (k : Int) : Option (List α) := if (l.length ≤ 64 ∧ k ≤ 262144) ∧ -262144 ≤ k then some (List.replicate k.toNat l).flatten else none
theorem DqAll.rep {I : Hp} {xs : List V} {ds : List PyData} (h : DqAll I xs ds) : ∀ k : Nat, DqAll I (List.replicate k xs).flatten (List.replicate k ds).flatten
  | 0 => .nil
  | k + 1 => by rw [List.replicate_succ, List.replicate_succ, List.flatten_cons, List.flatten_cons]; exact h.app (DqAll.rep h k)
/-- [..] * n, of a new list -/
theorem eo_rep {oa : Option (List α)} {ob : Option Int} (ha : EO X G a oa) (hb : ED X G b ob) : EO X G (.BinOp a .Mult b pos) (bind2 repG oa ob) := fun z hz => by
  obtain ⟨l, m, h1, h2, h3⟩ := bind2_get hz
  obtain ⟨⟨⟨hc, hc2⟩, hc3⟩, h3⟩ := ite_get h3
  subst h3
  refine (pe_op op_repR (ha l h1) (hb m h2)).imp fun σ H Q ⟨F, I, ps, R, q⟩ => ⟨F, I, ps, R, fun pa xs H1 I1 g1 R1 n1 n2 n3 hH d1 => ?_⟩
  -- the new list stands for others while the number is reckoned
  have R1' : RS X.K (upd F pa (.lst xs)) G σ H1 I1 ps := R1.frame (fun b o z => by
    by_cases c : b = pa
    · subst c; rw [upd_same] at z; cases z; exact hH
    · rw [upd_ne c] at z; exact R1.sf _ _ z) (fun i a ha => by rw [upd_ne (fun c : a = pa => n3 i (by rw [← c]; exact ha))]; exact R1.fo i a ha) (upd_iff n1) (fix_in n2)
  have sF : Same F (upd F pa (.lst xs)) := same_upd n2
  refine ⟨upd F pa (.lst xs), I1, ps, R1', fun w H2 I2 g2 R2 d2 => ?_⟩
  cases d2
  have hH2 : H2 pa = some (.lst xs) := R2.sf _ _ upd_same
  have g2' : Grow F I1 I2 := ⟨g2.same, fun a h => (g2.out a h).imp_right sF.free⟩
  have R2' : RS X.K F G σ H2 I2 ps := R2.frame (sF.trans R2.sf) R1.fo (fun a z => (upd_iff (by
    cases w : I2 pa with
    | none => rfl
    | some o =>
      rcases g2.out pa (by rw [w]; simp) with h | h
      · exact absurd n1 h
      · rw [upd_same] at h; cases h) a z).symm) (fix_out (fun c => c))
  have lx : xs.length = l.length := by rw [d1.len, List.length_map]
  refine ⟨pa, m, xs, rfl, rfl, hH2, by omega, by omega, ?_, fun p hp => q p _ _ I2 (g1.trans g2') (R2'.newOwn hp) (R2'.si.free hp) (R2'.sf.free hp) (fun i c => by obtain ⟨_, _, _, z⟩ := R2'.own_at c; rw [hp] at z; cases z) upd_same ?_⟩
  · have e1 : xs.length * m.toNat ≤ 64 * 262144 := Nat.mul_le_mul (by omega) (by omega)
    rw [sizeLine_eq]; omega
  · have := (DqAll_mono g2.same _ _ d1).rep m.toNat
    rw [show (List.replicate m.toNat (l.map enc)).flatten = ((List.replicate m.toNat l).flatten).map enc by rw [List.map_flatten, List.map_replicate]] at this
    exact this
end
end Lay

set_option Elab.async false
set_option linter.all false
set_option maxRecDepth 100000
/-! LayZ: zip of two lists, two tuples, or one of both, over the library's iterators of any kind (KE.GoesZip). -/
namespace Lay
open PySem PySem.Spec PyProof.Rows L2
open Lay.Enc (enc)

/-- true: a tuple, false: a list -/
def SqB (K : PySem.W.Frag) (b : Bool) (H : Hp) (a : Addr) (xs : List V) : Prop := match b with
  | true => SqT K H a xs
  | false => SqL K H a xs
def IterB (b : Bool) (h : Heap) (it l : Addr) (i : Nat) : Prop := match b with
  | true => h.IsTupleIter it l i
  | false => h.IsListIter it l i
def ObjB (b : Bool) (h : Heap) (l : Addr) (its : Array Value) : Prop := match b with
  | true => h.IsTuple l its
  | false => h.IsList l its
theorem IterB.at {b : Bool} {h h' : Heap} {it l : Addr} {i : Nat} (x : IterB b h it l i) (e : ∀ o, h.get? it = some o → h'.get? it = some o) : IterB b h' it l i := by
  cases b with
  | true => exact Heap.IsTupleIter.at x e
  | false => exact Heap.IsListIter.at x e
theorem IterB.obj {b : Bool} {h : Heap} {it l : Addr} {i : Nat} (x : IterB b h it l i) : ∃ o, h.get? it = some o ∧ ∀ v, o.data ≠ .cell v := by
  cases b with
  | true => obtain ⟨o, e, _, d⟩ := x; exact ⟨o, e, fun v z => by rw [d] at z; cases z⟩
  | false => obtain ⟨o, e, _, d⟩ := x; exact ⟨o, e, fun v z => by rw [d] at z; cases z⟩
theorem draws_b {prog : Program} {w : World} {A : Around} (hh : A.handled = none) (b : Bool) (it l : Addr) (ne : l ≠ it) (its : Array Value) :
    Draws prog w A it [it, l] its.size (fun i v => its[i]? = some v) (fun i h => IterB b h it l i ∧ ObjB b h l its) := by
  cases b with
  | true => exact Draws.tuple hh it l ne its
  | false => exact Draws.list hh it l ne its
section
variable {X : Cx} {pins : List (Addr × Obj)} {σ : L2.St} {H : Hp} {s : Shared} {a : Addr} {xs ys : List V} {b : Bool}
theorem sqB_items (I : Inv X pins σ H s) (h : SqB X.K b H a xs) : ∃ its : List Value, Vals xs its ∧ ObjB b s.heap a its.toArray := by
  cases b with
  | true => obtain ⟨its, r, p, _⟩ := I.tuple h; exact ⟨its, r, p⟩
  | false => obtain ⟨its, r, p, _⟩ := I.list h; exact ⟨its, r, p.isList⟩
theorem sqB_inj (I : Inv X pins σ H s) (h : SqB X.K b H a xs) (h' : SqB X.K b H a ys) : xs = ys := by
  cases b with
  | true => exact I.tuple_inj h h'
  | false => exact I.list_inj h h'
theorem objB_lt {h : Heap} {l : Addr} {its : Array Value} (x : ObjB b h l its) : l < h.objs.size := by
  cases b with
  | true => obtain ⟨o, e, _⟩ := x; exact Heap.lt_size e
  | false => obtain ⟨o, e, _⟩ := x; exact Heap.lt_size e
end
/-- the two at a and at c as they stand, item by item, in new pairs -/
def ItzB (K : PySem.W.Frag) (ba bc : Bool) (a c : Addr) : It where
  go i H := ∃ (xs ys : List V) (x y : V), SqB K ba H a xs ∧ SqB K bc H c ys ∧ xs[i]? = some x ∧ ys[i]? = some y
  yld i H v H' := ∃ T x y, v = .ref T ∧ H T = none ∧ H' = upd H T (.tup [x, y]) ∧ (∀ xs, SqB K ba H a xs → xs[i]? = some x) ∧ ∀ ys, SqB K bc H c ys → ys[i]? = some y
  stop i H := ∃ xs ys : List V, SqB K ba H a xs ∧ SqB K bc H c ys ∧ i ≤ xs.length ∧ i ≤ ys.length ∧ (i = xs.length ∨ i = ys.length)
/-- the five objects of a zip that was made at n -/
abbrev zipFp (n : Nat) : List Addr := [n + 4, n + 2, n + 3, n, n + 1]
def zipSt (n : Nat) (ba bc : Bool) (a c : Addr) (i : Nat) (h : Heap) : Prop :=
  IsZip h (n + 4) (n + 2) (n + 3) .none ∧ IsTupOf2 h (n + 2) (.ref n) (.ref (n + 1)) ∧ (∃ u v, IsTupOf2 h (n + 3) u v) ∧ IterB ba h n a i ∧ IterB bc h (n + 1) c i
theorem turn_zipB {P : Program} {w : World} {K : PySem.W.Frag} {es : List Expr} {kk : Nat} {tp : Pos} {ba bc : Bool} {a c n : Addr} (ha : a < n) (hc : c < n) :
    Turn P w K (.Tuple es kk tp) (ItzB K ba bc a c) (zipFp n) (n + 4) (zipSt n ba bc a c) := by
  have sep : ZipSep2 (n + 4) (n + 2) (n + 3) n (n + 1) [n, a] [n + 1, c] := zip_sep2 (N := n) (fp1 := [a]) (fp2 := [c]) (fun b h => by rw [List.mem_singleton.mp h]; exact ha) (fun b h => by rw [List.mem_singleton.mp h]; exact hc)
  have five : ∀ {b : Addr}, b ∈ zipFp n → b = n + 4 ∨ b = n + 2 ∨ b = n + 3 ∨ b = n ∨ b = n + 1 := fun h => by simpa [zipFp] using h
  refine { mem := by simp [zipFp], obj := ?_, keep := ?_, item := ?_, done := ?_, self := ?_ }
  · rintro i h ⟨z1, z2, ⟨u, v, z3⟩, z4, z5⟩ b hb
    rcases five hb with e | e | e | e | e <;> subst e
    · exact ⟨_, z1, fun _ z => nomatch z⟩
    · exact ⟨_, z2, fun _ z => nomatch z⟩
    · exact ⟨_, z3, fun _ z => nomatch z⟩
    · exact z4.obj
    · exact z5.obj
  · rintro i h h' ⟨z1, z2, ⟨u, v, z3⟩, z4, z5⟩ kp
    exact ⟨kp _ (by simp [zipFp]) _ z1, kp _ (by simp [zipFp]) _ z2, ⟨u, v, kp _ (by simp [zipFp]) _ z3⟩, z4.at (kp _ (by simp [zipFp])), z5.at (kp _ (by simp [zipFp]))⟩
  · intro X e1 e2 e3 calm i pins s σ H E I hf st hg
    subst e1 e2 e3
    obtain ⟨z1, z2, ⟨u, v, z3⟩, z4, z5⟩ := st
    obtain ⟨xs, ys, x, y, qa, qc, hx, hy⟩ := hg
    obtain ⟨ia, ra, pa⟩ := sqB_items I qa
    obtain ⟨ic, rc, pc⟩ := sqB_items I qc
    have hd : X.A.in1.handled = none := I.ok.hd calm
    have la : i < ia.toArray.size := by rw [List.size_toArray, ← ra.length]; exact (List.getElem?_eq_some_iff.mp hx).1
    have lc : i < ic.toArray.size := by rw [List.size_toArray, ← rc.length]; exact (List.getElem?_eq_some_iff.mp hy).1
    refine wpAny_pyNext_zipD2_item sep (draws_b hd ba n a (Nat.ne_of_lt ha) ia.toArray) (draws_b hd bc (n + 1) c (Nat.ne_of_lt (Nat.lt_succ_of_lt hc)) ic.toArray) z1 z2 z3 ⟨z4, pa⟩ ⟨z5, pc⟩ la lc
      fun u1 u2 h1 tk p1 p2 y1 y2 y4 y5 hT hsz kp => ?_
    have zlt : n + 4 < s.heap.objs.size := Heap.lt_size z1
    refine ⟨_, rfl, wpAny_letOwnedTupleGo_zip (s := { s with heap := h1, toks := tk }) y1 fun h2 y1' sb => ?_⟩
    -- the new pair
    obtain ⟨w1, hw1, r1⟩ := ra.get hx
    obtain ⟨w2, hw2, r2⟩ := rc.get hy
    have q1 : u1 = w1 := by
      have := p1; simp only [List.getElem?_toArray] at this; rw [hw1] at this; exact (Option.some.inj this).symm
    have q2 : u2 = w2 := by
      have := p2; simp only [List.getElem?_toArray] at this; rw [hw2] at this; exact (Option.some.inj this).symm
    subst q1 q2
    have hT2 : h2.get? s.heap.objs.size = some { cls := .type "tuple", data := .seq #[u1, u2] } := (sb.2 _ (Nat.ne_of_gt zlt)).trans hT
    have ok : ObjOk X.prog X.w (upd H s.heap.objs.size (.tup [x, y])) h2 s.heap.objs.size (.tup [x, y]) := ⟨small_line (by show 2 ≤ 8; decide), [u1, u2], .cons r1 (.cons r2 .nil), ⟨_, hT2, rfl, _, rfl⟩⟩
    have kp2 : ∀ b o, b ∉ zipFp n → s.heap.get? b = some o → h2.get? b = some o := fun b o hb e => by
      simp only [zipFp, List.mem_cons, List.not_mem_nil, or_false, not_or] at hb
      exact (sb.2 b hb.1).trans (kp b o hb.1 hb.2.2.1 hb.2.2.2.1 hb.2.2.2.2 e)
    have I1 : Inv X pins σ (upd H s.heap.objs.size (.tup [x, y])) { s with heap := h2, toks := tk } := I.turnedNew (t' := tk) (ch := zipFp n) kp2 hf (Nat.le_refl _) ok
    refine ⟨.ref s.heap.objs.size, _, I1, rfl, ⟨_, x, y, rfl, I.hok.fresh (Nat.le_refl _), rfl, fun l hl => ?_, fun l hl => ?_⟩, ⟨y1', ?_, ⟨u1, u2, ?_⟩, ?_, ?_⟩, fun b hb => ?_⟩
    · rw [sqB_inj I hl qa]; exact hx
    · rw [sqB_inj I hl qc]; exact hy
    · exact (sb.2 _ sep.TIz).trans (kp _ _ sep.TIz sep.TITO sep.TIi1 sep.TIi2 z2)
    · exact (sb.2 _ sep.TOz).trans y2
    · exact y4.1.at fun o e => (sb.2 _ sep.zi1.symm).trans e
    · exact y5.1.at fun o e => (sb.2 _ sep.zi2.symm).trans e
    · have lt : b < s.heap.objs.size := by
        rcases five hb with e | e | e | e | e <;> subst e
        · exact zlt
        · exact Heap.lt_size z2
        · exact Heap.lt_size z3
        · obtain ⟨o, e, _⟩ := z4.obj; exact Heap.lt_size e
        · obtain ⟨o, e, _⟩ := z5.obj; exact Heap.lt_size e
      rw [upd_ne (Nat.ne_of_lt lt)]
      exact (hf b hb).1
  · intro X e1 e2 e3 calm i pins s σ H E I hf st hg
    subst e1 e2 e3
    obtain ⟨z1, z2, ⟨u, v, z3⟩, z4, z5⟩ := st
    obtain ⟨xs, ys, qa, qc, l1, l2, hend⟩ := hg
    obtain ⟨ia, ra, pa⟩ := sqB_items I qa
    obtain ⟨ic, rc, pc⟩ := sqB_items I qc
    have hd : X.A.in1.handled = none := I.ok.hd calm
    have ea : ia.toArray.size = xs.length := by rw [List.size_toArray, ra.length]
    have ec : ic.toArray.size = ys.length := by rw [List.size_toArray, rc.length]
    refine wpAny_pyNext_zipD2_end sep (draws_b hd ba n a (Nat.ne_of_lt ha) ia.toArray) (draws_b hd bc (n + 1) c (Nat.ne_of_lt (Nat.lt_succ_of_lt hc)) ic.toArray) z1 z2 z3 ⟨z4, pa⟩ ⟨z5, pc⟩ (by omega) (by omega) (by rw [ea, ec]; exact hend)
      fun h1 tk kp => ⟨rfl, I.turnedL (t' := tk) (ch := zipFp n) (fun b o hb e => ?_) hf⟩
    simp only [zipFp, List.mem_cons, List.not_mem_nil, or_false, not_or] at hb
    exact kp b o hb.1 hb.2.2.1 hb.2.2.2.1 hb.2.2.2.2 e
  · exact fun A i s Q E st h => wpAny_pyIter_zip st.1 h

theorem begins_b (b : Bool) (l : Addr) (its : Array Value) : ∃ o, Begins (.ref l) o (fun h => ObjB b h l its) ∧ ∀ (h : Heap) (it : Addr), h.get? it = some o → IterB b h it l 0 := by
  cases b with
  | true => exact ⟨_, begins_tuple l its, fun h it e => ⟨_, e, rfl, rfl⟩⟩
  | false => exact ⟨_, begins_list l its, fun h it e => ⟨_, e, rfl, rfl⟩⟩
def iZipB (K : PySem.W.Frag) (ba bc : Bool) (ta : TA) : TI := fun σ H R => ta σ H fun vs H1 => ∃ a c xs ys, vs = [.ref a, .ref c] ∧ SqB K ba H1 a xs ∧ SqB K bc H1 c ys ∧ R (ItzB K ba bc a c) H1
theorem pi_zipB {X : Cx} {e e2 : Expr} {ta : TA} {p pos tp : Pos} {es : List Expr} {kk : Nat} (ba bc : Bool) (gl : Gl X "zip") (hm : X.mg "zip" = none) (hA : PA X [e, e2] ta)
    (s1 : starEach [e, e2] X.env = (false, eval e X.env) :: starEach [e2] X.env) (s2 : (backTo pos (starEach [e2] X.env)).any (·.1) = false) : PI X (.Tuple es kk tp) (.Call (.Name "zip" p) [e, e2] [] pos) (iZipB X.K ba bc ta) := ⟨fun pins s σ H R I h => by
  refine Call_ (ld_blt I gl hm PyProof.Rows.boot_zip (PyProof.Rows.callWith_type1 (thn (hA.run pos pins s σ H _ I h) fun us st q => ?_) s1 s2))
  obtain ⟨vs, H1, I1, rv, a, c, xs, ys, ev, qa, qc, q⟩ := q
  subst ev
  obtain ⟨u1, u2, eu, r1, r2⟩ := Vals.two rv
  subst eu
  have r1 : u1 = .ref a := r1
  have r2 : u2 = .ref c := r2
  subst r1 r2
  obtain ⟨ia, ra, pa⟩ := sqB_items I1 qa
  obtain ⟨ic, rc, pc⟩ := sqB_items I1 qc
  obtain ⟨o1, B1, w1⟩ := begins_b ba a ia.toArray
  obtain ⟨o2, B2, w2⟩ := begins_b bc c ic.toArray
  refine zip_begins2 B1 B2 pa pc fun h' z1 z2 z3 z4 z5 hz kp => wpAny_pyIter_zip z1 ?_
  exact ⟨_, zipFp st.heap.objs.size, _, _, H1, rfl, I1.kept (t' := st.toks) kp, turn_zipB (objB_lt pa) (objB_lt pc), ⟨z1, z2, ⟨_, _, z3⟩, w1 _ _ z4, w2 _ _ z5⟩, fun b hb => by
    have le : st.heap.objs.size ≤ b := by
      simp only [zipFp, List.mem_cons, List.not_mem_nil, or_false] at hb
      rcases hb with e | e | e | e | e <;> (rw [e]; first | exact Nat.le_refl _ | exact Nat.le_add_right _ _)
    exact I1.fpOk le (I1.hok.fresh le), q⟩⟩

/-! ### over data -/
/-- a list or a tuple of data -/
class SeqD (σ : Type) (α : outParam Type) [Enc α] [Enc σ] where
  kd : Bool
  ls : σ → List α
  ok : ∀ x, enc x = if kd then PyData.tuple ((ls x).map enc) else PyData.list ((ls x).map enc)
instance {α : Type} [Enc α] : SeqD (List α) α := ⟨false, id, fun _ => rfl⟩
instance {α : Type} [Enc α] : SeqD (Tup α) α := ⟨true, Tup.l, fun _ => rfl⟩
theorem SeqD.sq {σ α : Type} [Enc α] [Enc σ] [S : SeqD σ α] {K : PySem.W.Frag} {H : Hp} {v : V} {x : σ} (d : Dq H v (enc x)) : ∃ a xs, v = .ref a ∧ (∀ H', Same H H' → SqB K S.kd H' a xs) ∧ DqAll H xs ((S.ls x).map enc) := by
  rw [S.ok x] at d
  cases h : S.kd with
  | true =>
    rw [h, if_pos rfl] at d
    cases d with | tup k1 k2 => exact ⟨_, _, rfl, fun H' s => .inl (rd_mono s k1), k2⟩
  | false =>
    rw [h, if_neg (by decide)] at d
    cases d with | lst k1 k2 => exact ⟨_, _, rfl, fun H' s => .inl (rd_mono s k1), k2⟩
theorem it_zipS {X : Cx} {G : List Sl} {σ τ α β : Type} [Enc α] [Enc β] [Enc σ] [Enc τ] [S : SeqD σ α] [T : SeqD τ β] {e e2 : Expr} {N : List Str} {sc : Scope} {fs : Option Scope} {k : Nat} {p pos tpos : Pos} {elts : List Expr} {kk : Nat} {o : Option σ} {o2 : Option τ}
    (C : Ctx X N sc fs k) (hg : glbB sc "zip" = true) (hm : X.mg "zip" = none) (h : ED X G e o) (h' : ED X G e2 o2)
    (hs : starEach [e, e2] X.env = (false, eval e X.env) :: starEach [e2] X.env := by rfl) (hs2 : starEach [e2] X.env = [(false, eval e2 X.env)] := by rfl) (hpl : (backTo pos (starEach [e2] X.env)).any (·.1) = false := by rfl) :
    IT X G (.Tuple elts kk tpos) (.Call (.Name "zip" p) [e, e2] [] pos) (lift2 (fun x y => zipL (S.ls x) (T.ls y)) o o2) := fun l hl => by
  obtain ⟨t, u, h1, h2, h3⟩ := lift2_get hl
  subst h3
  have pa : PA X [e, e2] (tA X.K G [enc t, enc u]) := ad_cons h (ad_cons h' ad_nil hs2) hs _ (by rw [h1, h2]; rfl)
  refine (pi_len (pi_zipB S.kd T.kd (glbB_gl C.s hg).1 hm pa hs hpl) fun σ H R R' w ⟨F, I, ps, r, q⟩ => ⟨F, I, ps, r, fun v H' I' g r' d => by obtain ⟨a, b, xs, ys, e, z1, z2, q⟩ := q v H' I' g r' d; exact ⟨a, b, xs, ys, e, z1, z2, w _ _ q⟩⟩).imp
    fun σ H R ⟨F, I, ps, r, q⟩ => ⟨F, I, ps, r, fun vs H' I' g r' d => ?_⟩
  cases d with
  | cons d1 d2 =>
    cases d2 with
    | cons d2 d3 =>
      cases d3
      obtain ⟨a1, xs, e1, k1, k2⟩ := SeqD.sq (K := X.K) d1
      obtain ⟨a2, ys, e2, k3, k4⟩ := SeqD.sq (K := X.K) d2
      subst e1 e2
      have lx : xs.length = (S.ls t).length := by rw [k2.len, List.length_map]
      have ly : ys.length = (T.ls u).length := by rw [k4.len, List.length_map]
      have ln : (zipL (S.ls t) (T.ls u)).length = min (S.ls t).length (T.ls u).length := by unfold zipL; rw [List.length_zipWith]
      refine ⟨_, _, _, _, rfl, k1 _ r'.si, k3 _ r'.si, fun lo => q _ _ I' g r' ⟨fun i d H s hd => ?_, fun H s => ?_⟩ ?_⟩
      · have hi : i < min (S.ls t).length (T.ls u).length := by
          have := (List.getElem?_eq_some_iff.mp hd).1
          rw [List.length_map, ln] at this; exact this
        have hx : (S.ls t)[i]? = some ((S.ls t)[i]'(by omega)) := List.getElem?_eq_getElem (by omega)
        have hy : (T.ls u)[i]? = some ((T.ls u)[i]'(by omega)) := List.getElem?_eq_getElem (by omega)
        unfold zipL at hd
        rw [List.getElem?_map, List.getElem?_zipWith, hx, hy] at hd
        have hd := Option.some.inj hd
        subst hd
        obtain ⟨v, hv, dv⟩ := k2.at (show ((S.ls t).map enc)[i]? = some (enc ((S.ls t)[i]'(by omega))) by rw [List.getElem?_map, hx]; rfl)
        obtain ⟨w, hw, dw⟩ := k4.at (show ((T.ls u).map enc)[i]? = some (enc ((T.ls u)[i]'(by omega))) by rw [List.getElem?_map, hy]; rfl)
        refine ⟨⟨_, _, v, w, k1 _ s, k3 _ s, hv, hw⟩, fun x H' y => ?_⟩
        obtain ⟨T, z, z', e1, e2, e3, e4, e5⟩ := y
        have e4 := e4 _ (k1 _ s)
        have e5 := e5 _ (k3 _ s)
        rw [hv] at e4; cases e4
        rw [hw] at e5; cases e5
        subst e1
        have m := same_upd (o := HO.tup [v, w]) (s.free e2)
        exact .inr ⟨T, _, e2, e3, .tup (.inl upd_same) (.cons (Dq_mono m _ _ dv) (.cons (Dq_mono m _ _ dw) .nil))⟩
      · rw [List.length_map, ln]
        exact ⟨_, _, k1 _ s, k3 _ s, by omega, by omega, by omega⟩
      · rw [List.length_map, ln]
        have : xs.length ≤ sizeLine := by
          have := k1 _ r'.si
          cases hk : S.kd with
          | true => rw [hk] at this; exact (lo _ _).2 this
          | false => rw [hk] at this; exact (lo _ _).1 this
        omega
end Lay

set_option Elab.async false
set_option linter.all false
set_option maxRecDepth 100000
/-! Lay8: equality, in, repr, stores to own lists, list(range), gcd, raise. -/
namespace Lay
open PySem PySem.Spec PyProof.Rows L2
open Lay.Enc (enc)

/-! ### data of bounded depth that == and repr read -/
class Sh (α : Type) [Enc α] where
  dp : Nat
  lay : ∀ x : α, (enc x).canLay0 = true
  dep : ∀ x : α, (enc x).depth ≤ dp
instance : Sh Int := ⟨0, fun _ => rfl, fun _ => Nat.le_refl _⟩
instance : Sh Bool := ⟨0, fun _ => rfl, fun _ => Nat.le_refl _⟩
instance : Sh Unit := ⟨0, fun _ => rfl, fun _ => Nat.le_refl _⟩
theorem layAll {α : Type} [Enc α] [S : Sh α] : ∀ l : List α, PyData.canLayAll0 (l.map enc) = true
  | [] => rfl
  | x :: xs => by
    show (PyData.canLay0 (enc x) && PyData.canLayAll0 (xs.map enc)) = true
    rw [S.lay x, layAll xs]; rfl
theorem depAll {α : Type} [Enc α] [S : Sh α] : ∀ l : List α, PyData.depthAll (l.map enc) ≤ S.dp
  | [] => Nat.zero_le _
  | x :: xs => by
    show max (PyData.depth (enc x)) (PyData.depthAll (xs.map enc)) ≤ _
    have h1 := S.dep x
    have h2 := depAll xs
    omega
instance {α : Type} [Enc α] [S : Sh α] : Sh (List α) := ⟨S.dp + 1, fun l => layAll l, fun l => Nat.succ_le_succ (depAll l)⟩
instance {α : Type} [Enc α] [S : Sh α] : Sh (Tup α) := ⟨S.dp + 1, fun t => layAll t.l, fun t => Nat.succ_le_succ (depAll t.l)⟩
instance {α : Type} [Enc α] [S : Sh α] : Sh (Option α) := ⟨S.dp, fun o => by cases o with | none => rfl | some x => exact S.lay x, fun o => by cases o with | none => exact Nat.zero_le _ | some x => exact S.dep x⟩
instance {α β : Type} [Enc α] [Enc β] [S : Sh α] [T : Sh β] : Sh (T2 α β) := ⟨max S.dp T.dp + 1, fun t => by
  show (PyData.canLay0 (enc t.a) && (PyData.canLay0 (enc t.b) && true)) = true
  rw [S.lay, T.lay]; rfl, fun t => by
  show max (PyData.depth (enc t.a)) (max (PyData.depth (enc t.b)) 0) + 1 ≤ _
  have := S.dep t.a; have := T.dep t.b; omega⟩
instance {α β γ : Type} [Enc α] [Enc β] [Enc γ] [S : Sh α] [T : Sh β] [U : Sh γ] : Sh (T3 α β γ) := ⟨max S.dp (max T.dp U.dp) + 1, fun t => by
  show (PyData.canLay0 (enc t.a) && (PyData.canLay0 (enc t.b) && (PyData.canLay0 (enc t.c) && true))) = true
  rw [S.lay, T.lay, U.lay]; rfl, fun t => by
  show max (PyData.depth (enc t.a)) (max (PyData.depth (enc t.b)) (max (PyData.depth (enc t.c)) 0)) + 1 ≤ _
  have := S.dep t.a; have := T.dep t.b; have := U.dep t.c; omega⟩
instance {α β γ δ : Type} [Enc α] [Enc β] [Enc γ] [Enc δ] [S : Sh α] [T : Sh β] [U : Sh γ] [W : Sh δ] : Sh (T4 α β γ δ) := ⟨max S.dp (max T.dp (max U.dp W.dp)) + 1, fun t => by
  show (PyData.canLay0 (enc t.a) && (PyData.canLay0 (enc t.b) && (PyData.canLay0 (enc t.c) && (PyData.canLay0 (enc t.d) && true)))) = true
  rw [S.lay, T.lay, U.lay, W.lay]; rfl, fun t => by
  show max (PyData.depth (enc t.a)) (max (PyData.depth (enc t.b)) (max (PyData.depth (enc t.c)) (max (PyData.depth (enc t.d)) 0))) + 1 ≤ _
  have := S.dep t.a; have := T.dep t.b; have := U.dep t.c; have := W.dep t.d; omega⟩
/-- == on data is equality -/
class EqL (α : Type) [Enc α] [DecidableEq α] : Prop where
  eqv : ∀ x y : α, PyData.eqv (enc x) (enc y) = decide (x = y)
instance : EqL Int := ⟨fun x y => by show (x == y) = _; by_cases h : x = y <;> simp [h]⟩
instance : EqL Bool := ⟨fun x y => by cases x <;> cases y <;> rfl⟩
instance : EqL Unit := ⟨fun x y => rfl⟩
theorem eqvAll_eq {α : Type} [Enc α] [DecidableEq α] [S : EqL α] : ∀ l m : List α, PyData.eqvAll (l.map enc) (m.map enc) = decide (l = m)
  | [], [] => rfl
  | [], y :: ys => rfl
  | x :: xs, [] => rfl
  | x :: xs, y :: ys => by
    show (PyData.eqv (enc x) (enc y) && PyData.eqvAll (xs.map enc) (ys.map enc)) = _
    rw [S.eqv, eqvAll_eq xs ys]
    by_cases h1 : x = y <;> by_cases h2 : xs = ys <;> simp [h1, h2]
instance {α : Type} [Enc α] [DecidableEq α] [EqL α] : EqL (List α) := ⟨fun l m => eqvAll_eq l m⟩
instance {α : Type} [Enc α] [DecidableEq α] [EqL α] : EqL (Tup α) := ⟨fun ⟨l⟩ ⟨m⟩ => by
  show PyData.eqvAll (l.map enc) (m.map enc) = _
  rw [eqvAll_eq]; simp⟩
theorem eqv_none {d : PyData} (h : d ≠ .none) : PyData.eqv .none d = false ∧ PyData.eqv d .none = false := by
  cases d <;> first | exact absurd rfl h | exact ⟨rfl, rfl⟩
instance {α : Type} [Enc α] [DecidableEq α] [S : EqL α] [N : NonNone α] : EqL (Option α) := ⟨fun x y => by
  cases x with
  | none => cases y with
    | none => rfl
    | some y => exact (eqv_none (N.ne y)).1
  | some x => cases y with
    | none => exact (eqv_none (N.ne x)).2
    | some y => show PyData.eqv (enc x) (enc y) = _; rw [S.eqv]; simp⟩
instance {α β : Type} [Enc α] [Enc β] [DecidableEq α] [DecidableEq β] [S : EqL α] [T : EqL β] : EqL (T2 α β) := ⟨fun ⟨a, b⟩ ⟨c, d⟩ => by
  show (PyData.eqv (enc a) (enc c) && (PyData.eqv (enc b) (enc d) && true)) = _
  rw [S.eqv, T.eqv]; by_cases h1 : a = c <;> by_cases h2 : b = d <;> simp [h1, h2]⟩
instance {α β γ : Type} [Enc α] [Enc β] [Enc γ] [DecidableEq α] [DecidableEq β] [DecidableEq γ] [S : EqL α] [T : EqL β] [U : EqL γ] : EqL (T3 α β γ) := ⟨fun ⟨a, b, c⟩ ⟨d, e, f⟩ => by
  show (PyData.eqv (enc a) (enc d) && (PyData.eqv (enc b) (enc e) && (PyData.eqv (enc c) (enc f) && true))) = _
  rw [S.eqv, T.eqv, U.eqv]; by_cases h1 : a = d <;> by_cases h2 : b = e <;> by_cases h3 : c = f <;> simp [h1, h2, h3]⟩
instance {α β γ δ : Type} [Enc α] [Enc β] [Enc γ] [Enc δ] [DecidableEq α] [DecidableEq β] [DecidableEq γ] [DecidableEq δ] [S : EqL α] [T : EqL β] [U : EqL γ] [W : EqL δ] : EqL (T4 α β γ δ) := ⟨fun ⟨a, b, c, x⟩ ⟨d, e, f, y⟩ => by
  show (PyData.eqv (enc a) (enc d) && (PyData.eqv (enc b) (enc e) && (PyData.eqv (enc c) (enc f) && (PyData.eqv (enc x) (enc y) && true)))) = _
  rw [S.eqv, T.eqv, U.eqv, W.eqv]; by_cases h1 : a = d <;> by_cases h2 : b = e <;> by_cases h3 : c = f <;> by_cases h4 : x = y <;> simp [h1, h2, h3, h4]⟩
theorem shaped_of {α : Type} [Enc α] [S : Sh α] (h : S.dp ≤ 60) (x : α) : SeqAt.shaped (enc x) = true := by
  unfold SeqAt.shaped
  have h2 : PyData.depth (enc x) ≤ 64 := Nat.le_trans (Nat.le_trans (S.dep x) h) (by decide)
  rw [S.lay x, decide_eq_true h2]; rfl

section
variable {X : Cx} {G : List Sl} {α β : Type} [Enc α] [Enc β] {a b e : Expr} {pos p : Pos} {N : List Str} {sc : Scope} {fs : Option Scope} {k : Nat}
theorem ec_eqD [DecidableEq α] [EqL α] [S : Sh α] {oa ob : Option α} (C : Ctx X N sc fs k) (ha : ED X G a oa) (hb : ED X G b ob) (hd : S.dp ≤ 60 := by decide) : EC X G .Eq a b (lift2 (fun x y => decide (x = y)) oa ob) :=
  ec_of (op_eqD C.rm.units) (fun x y F G σ H I ps v w Q R dv dw q => ⟨_, _, Dq_dp _ _ (Dq_mono R.si _ _ dv), Dq_dp _ _ (Dq_mono R.si _ _ dw), shaped_of hd x, shaped_of hd y, by rw [EqL.eqv]; exact q _ _ _ Grow.refl R (.bl _)⟩) (nomark _) ha hb
theorem ec_neD [DecidableEq α] [EqL α] [S : Sh α] {oa ob : Option α} (C : Ctx X N sc fs k) (ha : ED X G a oa) (hb : ED X G b ob) (hd : S.dp ≤ 60 := by decide) : EC X G .NotEq a b (lift2 (fun x y => !decide (x = y)) oa ob) :=
  ec_of (op_neD C.rm.units) (fun x y F G σ H I ps v w Q R dv dw q => ⟨_, _, Dq_dp _ _ (Dq_mono R.si _ _ dv), Dq_dp _ _ (Dq_mono R.si _ _ dw), shaped_of hd x, shaped_of hd y, by rw [EqL.eqv]; exact q _ _ _ Grow.refl R (.bl _)⟩) (nomark _) ha hb
theorem DqAll_toDp {K : PySem.W.Frag} {H I : Hp} {xs : List V} {ds : List PyData} (s : Same I H) (h : DqAll I xs ds) : DpAll K H xs ds := DqAll_dp _ _ (DqAll_mono s _ _ h)
theorem any_mem [DecidableEq α] [EqL α] (l : List α) (x : α) : ((l.map enc).any fun z => PyData.eqv z (enc x)) = decide (x ∈ l) := by
  induction l with
  | nil => simp
  | cons y ys ih =>
    rw [List.map_cons, List.any_cons, ih, EqL.eqv]
    by_cases h1 : y = x
    · simp [h1]
    · have h2 : ¬ x = y := fun h => h1 h.symm
      simp [h1, h2]
theorem tOp_in {K : PySem.W.Frag} {r : R2} {d : PyData} {ds : List PyData} {c : Bool} (h : ∀ (F : Hp) (G : List Sl) (σ : L2.St) (H I : Hp) (ps : Nat → Option Addr) (v : V) (ad : Addr) (xs : List V) (Q : VK), RS K F G σ H I ps → Dq I v d → SqL K H ad xs → DqAll I xs ds → Q (.bl c) H → r v (.ref ad) H Q)
    (σ : L2.St) (H : Hp) (Q : VK) (t : tD K G (.bool c) σ H Q) : tOp r (tD K G d) (tR K G ds) σ H Q := by
  obtain ⟨F, I, ps, R, q⟩ := t
  exact ⟨F, I, ps, R, fun v H1 I1 g1 R1 dv => ⟨F, I1, ps, R1, fun ad xs H2 I2 g2 R2 s dx => h F G σ H2 I2 ps v ad xs Q R2 (Dq_mono g2.same _ _ dv) s dx (q _ _ _ (g1.trans g2) R2 (.bl _))⟩⟩
theorem ec_in [DecidableEq α] [EqL α] [S : Sh α] {oa : Option α} {ob : Option (List α)} (C : Ctx X N sc fs k) (ha : ED X G a oa) (hb : ER X G b ob) (hm : behindInMarks .In b = false := by rfl) (hd : S.dp ≤ 59 := by decide) : EC X G .In a b (lift2 (fun x l => decide (x ∈ l)) oa ob) := fun c hc => by
  obtain ⟨x, l, h1, h2, h3⟩ := lift2_get hc
  subst h3
  refine ⟨_, _, _, op_inD (by have := C.rm.un; omega), ha x h1, hb l h2, hm, tOp_in fun F G σ H I ps v ad xs Q R dv s dx q => ?_⟩
  refine ⟨_, _, Dq_dp _ _ (Dq_mono R.si _ _ dv), .lst s (DqAll_toDp R.si dx), shaped_of (Nat.le_trans hd (by decide)) x, shaped_of (α := List α) (Nat.succ_le_succ hd) l, ?_⟩
  rw [any_mem]; exact q
theorem ec_notIn [DecidableEq α] [EqL α] [S : Sh α] {oa : Option α} {ob : Option (List α)} (C : Ctx X N sc fs k) (ha : ED X G a oa) (hb : ER X G b ob) (hm : behindInMarks .NotIn b = false := by rfl) (hd : S.dp ≤ 59 := by decide) : EC X G .NotIn a b (lift2 (fun x l => !decide (x ∈ l)) oa ob) := fun c hc => by
  obtain ⟨x, l, h1, h2, h3⟩ := lift2_get hc
  subst h3
  refine ⟨_, _, _, op_notInD (by have := C.rm.un; omega), ha x h1, hb l h2, hm, tOp_in fun F G σ H I ps v ad xs Q R dv s dx q => ?_⟩
  refine ⟨_, _, Dq_dp _ _ (Dq_mono R.si _ _ dv), .lst s (DqAll_toDp R.si dx), shaped_of (Nat.le_trans hd (by decide)) x, shaped_of (α := List α) (Nat.succ_le_succ hd) l, ?_⟩
  rw [any_mem]; exact q

/-! ### repr -/
def reprD (d : PyData) : Option Str := if d.showable = true ∧ d.shown.length ≤ sizeLine then some d.shown else none
theorem cr_repr (C : Ctx X N sc fs k) : CallR X (.builtin "repr") (fun vs H Q => ∃ v d, vs = [v] ∧ Dp X.K H v d ∧ d.canLay0 = true ∧ d.depth ≤ 60 ∧ d.showable = true ∧ d.shown.length ≤ sizeLine ∧ Q (.str d.shown) H) := by
  intro pins s σ H vs us Q I r h
  obtain ⟨v, d, e, dv, lay, dep, shw, len, q⟩ := h
  subst e
  obtain ⟨u, eu, ru⟩ := vals1 r
  subst eu
  have nd := PyData.hasDict_of_canLay d lay
  have un := C.rm.un
  cases dv with
  | non => cases ru; exact PySem.P.repr_of_none ⟨.str _, H, I.tok _, ⟨_, rfl⟩, q⟩
  | bl b => cases ru; exact PySem.P.repr_of_bool ⟨.str _, H, I.tok _, ⟨_, rfl⟩, q⟩
  | int i => obtain ⟨t, rfl⟩ := ru; exact PySem.P.repr_of_int (of_decide_eq_true shw) ⟨.str _, H, I.tok _, ⟨_, rfl⟩, q⟩
  | str x => obtain ⟨t, rfl⟩ := ru; exact PySem.P.repr_of_str ⟨.str _, H, I.tok _, ⟨_, rfl⟩, q⟩ len
  | lst h1 h2 =>
    have dv : Dp X.K H _ _ := .lst h1 h2
    obtain ⟨as, rd⟩ := Dp.reads I _ _ _ dv ru
    cases ru
    exact repr_of_reads' rd shw (PyData.noDict_hsm nd) C.gd (by omega) (fun _ _ e => e) (fun h' u tk hk => ⟨.str _, H, I.kept hk, ⟨_, rfl⟩, q⟩) len
  | tup h1 h2 =>
    have dv : Dp X.K H _ _ := .tup h1 h2
    obtain ⟨as, rd⟩ := Dp.reads I _ _ _ dv ru
    cases ru
    exact repr_of_reads' rd shw (PyData.noDict_hsm nd) C.gd (by omega) (fun _ _ e => e) (fun h' u tk hk => ⟨.str _, H, I.kept hk, ⟨_, rfl⟩, q⟩) len
theorem ed_repr [S : Sh α] {o : Option α} (C : Ctx X N sc fs k) (hg : glbB sc "repr" = true) (hm : X.mg "repr" = none) (h : ED X G e o) (hs : starEach [e] X.env = (false, eval e X.env) :: starEach [] X.env := by rfl) (hd : S.dp ≤ 60 := by decide) :
    ED X G (.Call (.Name "repr" p) [e] [] pos) (o.bind fun x => reprD (enc x)) := fun z hz => by
  obtain ⟨x, h1, h2⟩ := bind_get hz
  obtain ⟨⟨h3, h4⟩, h5⟩ := ite_get h2
  subst h5
  refine (b1 (id := "repr") C hg hm (by decide +kernel) (cr_repr C) (h x h1) (by decide) hs).imp (tD_b1 fun F G σ H I ps v Q R d q => ?_)
  exact ⟨v, _, rfl, Dq_dp _ _ (Dq_mono R.si _ _ d), S.lay x, Nat.le_trans (S.dep x) hd, h3, h4, q _ _ _ Grow.refl R (.str _)⟩

/-! ### math.gcd, list(range(..)) -/
def gcdI (i j : Int) : Int := ((Nat.gcd i.natAbs j.natAbs : Nat) : Int)
theorem ed_gcd {oa ob : Option Int} (C : Ctx X N sc fs k) (hg : glbB sc "gcd" = true) (hm : X.mg "gcd" = some (.builtin "math.gcd")) (ha : ED X G a oa) (hb : ED X G b ob)
    (hs : starEach [a, b] X.env = (false, eval a X.env) :: starEach [b] X.env := by rfl) (hs2 : starEach [b] X.env = (false, eval b X.env) :: starEach [] X.env := by rfl) (hp : (backTo pos (starEach [b] X.env)).any (·.1) = false := by rfl) :
    ED X G (.Call (.Name "gcd" p) [a, b] [] pos) (lift2 gcdI oa ob) := fun z hz => by
  obtain ⟨i, j, h1, h2, h3⟩ := lift2_get hz
  subst h3
  obtain ⟨gl, db⟩ := glbB_gl C.s hg
  refine (pe_callBfun cr_gcd gl hm (pa_cons (ha i h1) (pa_cons (hb j h2) pa_nil hs2) hs) db hs hp).imp fun σ H Q ⟨F, I, ps, R, q⟩ => ⟨F, I, ps, R, fun v H1 I1 g1 R1 d1 => ⟨F, I1, ps, R1, fun u H2 I2 g2 R2 d2 => ?_⟩⟩
  cases d1; cases d2
  exact ⟨i, j, rfl, q _ _ _ (g1.trans g2) R2 (.int _)⟩
theorem eo_lrng1 {p2 pos2 : Pos} {o : Option Int} (C : Ctx X N sc fs k) (hg : glbB sc "list" = true) (hm : X.mg "list" = none) (hg2 : glbB sc "range" = true) (hm2 : X.mg "range" = none) (h : ED X G e o)
    (hs : starEach [e] X.env = (false, eval e X.env) :: starEach [] X.env := by rfl) (hs2 : starEach [.Call (.Name "range" p2) [e] [] pos2] X.env = (false, eval (.Call (.Name "range" p2) [e] [] pos2) X.env) :: starEach [] X.env := by rfl) :
    EO X G (.Call (.Name "list" p) [.Call (.Name "range" p2) [e] [] pos2] [] pos) (o.bind rng1) := fun l hl => by
  obtain ⟨j, h1, h2⟩ := bind_get hl
  obtain ⟨hc, h2⟩ := ite_get h2
  subst h2
  refine (pe_listRg C.calm (glbB_gl C.s hg).1 hm (prg_1 (glbB_gl C.s hg2).1 hm2 (h j h1) hs) hs2).imp fun σ H Q ⟨F, I, ps, R, q⟩ => ⟨F, I, ps, R, fun v H1 I1 g1 R1 d => ?_⟩
  cases d
  have l24 : (sizeLine : Int) = 16777216 := by rw [sizeLine_eq]; rfl
  refine ⟨j, rfl, ⟨by omega, by omega, by omega, by omega, by omega⟩, fun p hp => q p _ _ I1 g1 (R1.newOwn hp) (R1.si.free hp) (R1.sf.free hp) (fun i c => by obtain ⟨_, _, _, z⟩ := R1.own_at c; rw [hp] at z; cases z) upd_same ?_⟩
  rw [show rgV 0 j = (rngL 0 j.toNat).map V.int by unfold rgV rngL; rw [List.map_map]; simp]
  exact of_ints _
theorem eo_lrng2 {e2 : Expr} {p2 pos2 : Pos} {o o2 : Option Int} (C : Ctx X N sc fs k) (hg : glbB sc "list" = true) (hm : X.mg "list" = none) (hg2 : glbB sc "range" = true) (hm2 : X.mg "range" = none) (h : ED X G e o) (h' : ED X G e2 o2)
    (hs : starEach [e, e2] X.env = (false, eval e X.env) :: starEach [e2] X.env := by rfl) (hs1 : starEach [e2] X.env = (false, eval e2 X.env) :: starEach [] X.env := by rfl) (hp : (backTo pos2 (starEach [e2] X.env)).any (·.1) = false := by rfl)
    (hs2 : starEach [.Call (.Name "range" p2) [e, e2] [] pos2] X.env = (false, eval (.Call (.Name "range" p2) [e, e2] [] pos2) X.env) :: starEach [] X.env := by rfl) :
    EO X G (.Call (.Name "list" p) [.Call (.Name "range" p2) [e, e2] [] pos2] [] pos) (bind2 rng2 o o2) := fun l hl => by
  obtain ⟨i, j, h1, h2, h3⟩ := bind2_get hl
  obtain ⟨hc, h3⟩ := ite_get h3
  subst h3
  refine (pe_listRg C.calm (glbB_gl C.s hg).1 hm (prg_2 (glbB_gl C.s hg2).1 hm2 (h i h1) (h' j h2) hs hs1 hp) hs2).imp fun σ H Q ⟨F, I, ps, R, q⟩ => ⟨F, I, ps, R, fun v H1 I1 g1 R1 d => ⟨F, I1, ps, R1, fun v2 H2 I2 g2 R2 d2 => ?_⟩⟩
  cases d; cases d2
  have l24 : (sizeLine : Int) = 16777216 := by rw [sizeLine_eq]; rfl
  refine ⟨i, j, rfl, rfl, ⟨by omega, by omega, by omega, by omega, by omega⟩, fun p hp => q p _ _ I2 (g1.trans g2) (R2.newOwn hp) (R2.si.free hp) (R2.sf.free hp) (fun i c => by obtain ⟨_, _, _, z⟩ := R2.own_at c; rw [hp] at z; cases z) upd_same ?_⟩
  rw [show rgV i j = (rngL i (j - i).toNat).map V.int by unfold rgV rngL; rw [List.map_map]; rfl]
  exact of_ints _
end

/-! ### stores to an own list -/
section
variable {X : Cx} {G : List Sl} {S B R : Type} [Enc R] {P : S → List Sl} {PB : B → List Sl} {own : Rk} {rest : List Stmt} {N : List Str} {sc : Scope} {fs : Option Scope} {k i : Nat} {x : Str} {α : Type} [Enc α] {e b : Expr} {pos p p2 sp : Pos}
theorem sv_raise {exc : Option Expr} : SV X G (.Raise exc none pos :: rest) P PB own (none : Option (Out S B R)) := sv_none
def appG {α : Type} (l : List α) (x : α) : Option (List α) := if l.length < sizeLine then some (l ++ [x]) else none
theorem own_slot {K : PySem.W.Frag} {F H I : Hp} {σ : L2.St} {ps : Nat → Option Addr} (R : RS K F G σ H I ps) {ds : List PyData} (hs : slAt G i = .own ds) : ∃ a xs, ps i = some a ∧ σ[i]? = some (some (.ref a)) ∧ H a = some (.lst xs) ∧ DqAll I xs ds := by
  have hi : i < G.length := by
    by_cases c : i < G.length
    · exact c
    · rw [slAt_out (by omega)] at hs; cases hs
  obtain ⟨w, k1, k2⟩ := R.sl i hi
  rw [hs] at k2
  obtain ⟨a, xs, e1, e2, n, hH, d⟩ := k2
  subst e2
  exact ⟨a, xs, e1, k1, hH, d⟩
theorem pe_name (C : Ctx X N sc fs k) (hv : visB N sc i x = true) : PE X (.Name x p) (tVar i) := by
  unfold visB at hv
  simp only [Bool.and_eq_true, decide_eq_true_eq, Bool.not_eq_true'] at hv
  obtain ⟨⟨⟨h1, hv⟩, hd⟩, hcd⟩ := hv
  exact pe_var (by rw [C.n]; exact h1) (by rw [C.s]; unfold Vis; split at hv <;> simp_all) hd hcd
/-- x.append(e) -/
theorem sv_app {l : List α} {oe : Option α} {kk : List α → Option (Out S B R)} {ap cp : Pos} (C : Ctx X N sc fs k) (hv : visB N sc i x = true) (hsl : slAt G i = .own (l.map enc)) (he : ED X G e oe) (hk : ∀ v : List α, SV X (G.set i (.own (v.map enc))) rest P PB own (kk v))
    (hfew : ((backTo cp (starEach [e] X.env)).all (fun x => !x.1) && (backToKw cp (keywordEach [] X.env)).all (fun x => x.1.isSome) && decide (([e] : List Expr).length + ([] : List Keyword).length + (if ([] : List Keyword).isEmpty then 0 else 1) < 30)) = true := by rfl) (hline : (ap.endLine == cp.line) = true := by rfl)
    (hs : starEach [e] X.env = (false, eval e X.env) :: starEach [] X.env := by rfl) : SV X G (.Expr (.Call (.Attribute (.Name x p) "append" ap) [e] [] cp) sp :: rest) P PB own ((oe.bind (appG l)).bind kk) := fun y hy => by
  obtain ⟨l', h1, h2⟩ := bind_get hy
  obtain ⟨v, h3, h4⟩ := bind_get h1
  obtain ⟨hc, h5⟩ := ite_get h4
  subst h5
  refine (pss_cons (ps_expr (pe_bm PySem.F.plainAttrs_list PySem.F.slot_list_append PySem.F.type_list_append mt_append (pe_name C hv) (pa_cons (he v h3) pa_nil hs) rfl hfew hline hs)) (hk _ y h2)).imp fun D σ H ⟨F, I, ps, Rr, q⟩ => ?_
  obtain ⟨a, xs, e1, e2, hH, d⟩ := own_slot Rr hsl
  refine ⟨_, e2, .inl ⟨rfl, _, .inl (.inl hH)⟩, F, I, ps, Rr, fun w H1 I1 g1 R1 d1 => ?_⟩
  obtain ⟨a', xs', f1, _, hH1, d'⟩ := own_slot R1 hsl
  rw [e1] at f1; cases f1
  refine ⟨a, xs', w, rfl, rfl, hH1, by rw [d'.len, List.length_map]; exact hc, tS_after (H := H) (ps := ps) (σ := σ) g1 (R1.wrOwn (es := (l ++ [v]).map enc) e1 ?_) q⟩
  rw [List.map_append]; exact d'.app (.cons d1 .nil)
/-- x[j] = e -/
def setG {α : Type} (l : List α) (i : Int) (x : α) : Option (List α) := (ixN l.length i).bind fun j => some (l.set j x)
theorem sv_sti {l : List α} {oe : Option α} {oi : Option Int} {kk : List α → Option (Out S B R)} {tp : Pos} (C : Ctx X N sc fs k) (hv : visB N sc i x = true) (hsl : slAt G i = .own (l.map enc)) (he : ED X G e oe) (hi : ED X G b oi) (hk : ∀ v : List α, SV X (G.set i (.own (v.map enc))) rest P PB own (kk v))
    (hs : swapsWithSole [.Subscript (.Name x p) b tp] e sp.line X.env = pure false := by rfl) (hw : swappedStores [.Subscript (.Name x p) b tp] e X.env = pure none := by rfl) (h1 : (assignEach [.Subscript (.Name x p) b tp] X.env).map (·.2) = [assign (.Subscript (.Name x p) b tp) X.env] := by rfl)
    (ha : ∀ v, assign (.Subscript (.Name x p) b tp) X.env v = (do
      let ov ← holding [v] (eval (.Name x p) X.env)
      let iv ← holding [v, ov] (eval b X.env)
      standAt tp
      holding [v, ov, iv] (setItem ov iv v)
      release [v, ov, iv] []) := by intro _; rfl) :
    SV X G (.Assign [.Subscript (.Name x p) b tp] e sp :: rest) P PB own ((bind2 (fun v j => setG l j v) oe oi).bind kk) := fun y hy => by
  obtain ⟨l', h2, h3⟩ := bind_get hy
  obtain ⟨v, j, h4, h5, h6⟩ := bind2_get h2
  obtain ⟨jj, h7, h8⟩ := bind_get h6
  cases h8
  refine (pss_cons (ps_asg (he v h4) (pg_sub (pe_name C hv) (hi j h5) set_list ha) hs hw h1) (hk _ y h3)).imp fun D σ H ⟨F, I, ps, Rr, q⟩ => ⟨F, I, ps, Rr, fun w H1 I1 g1 R1 d1 => ?_⟩
  obtain ⟨a, xs, e1, e2, hH, d⟩ := own_slot R1 hsl
  refine ⟨_, e2, F, I1, ps, R1, fun u H2 I2 g2 R2 d2 => ?_⟩
  cases d2
  obtain ⟨a', xs', f1, _, hH2, d'⟩ := own_slot R2 hsl
  rw [e1] at f1; cases f1
  refine ⟨a, xs', j, jj, rfl, rfl, hH2, by rw [d'.len, List.length_map]; exact h7, tS_after (H := H) (ps := ps) (σ := σ) (g1.trans g2) (R2.wrOwn (es := (l.set jj v).map enc) e1 ?_) q⟩
  rw [List.map_set]; exact d'.set jj (Dq_mono g2.same _ _ d1)
/-- x.extend(a new list) -/
theorem sv_ext {l : List α} {oe : Option (List α)} {kk : List α → Option (Out S B R)} {ap cp : Pos} (C : Ctx X N sc fs k) (hv : visB N sc i x = true) (hsl : slAt G i = .own (l.map enc)) (he : EO X G e oe) (hk : ∀ v : List α, SV X (G.set i (.own (v.map enc))) rest P PB own (kk v))
    (hfew : ((backTo cp (starEach [e] X.env)).all (fun x => !x.1) && (backToKw cp (keywordEach [] X.env)).all (fun x => x.1.isSome) && decide (([e] : List Expr).length + ([] : List Keyword).length + (if ([] : List Keyword).isEmpty then 0 else 1) < 30)) = true := by rfl) (hline : (ap.endLine == cp.line) = true := by rfl)
    (hs : starEach [e] X.env = (false, eval e X.env) :: starEach [] X.env := by rfl) : SV X G (.Expr (.Call (.Attribute (.Name x p) "extend" ap) [e] [] cp) sp :: rest) P PB own ((oe.bind (catG l)).bind kk) := fun y hy => by
  obtain ⟨l', h1, h2⟩ := bind_get hy
  obtain ⟨v, h3, h4⟩ := bind_get h1
  obtain ⟨hc, h5⟩ := ite_get h4
  subst h5
  refine (pss_cons (ps_expr (pe_bm PySem.F.plainAttrs_list PySem.F.slot_list_extend PySem.F.type_list_extend mt_extend (pe_name C hv) (pa_cons (he v h3) pa_nil hs) rfl hfew hline hs)) (hk _ y h2)).imp fun D σ H ⟨F, I, ps, Rr, q⟩ => ?_
  obtain ⟨a, xs, e1, e2, hH, d⟩ := own_slot Rr hsl
  refine ⟨_, e2, .inl ⟨rfl, _, .inl (.inl hH)⟩, F, I, ps, Rr, fun pa ys H1 I1 g1 R1 n1 n2 n3 hHp d1 => ?_⟩
  obtain ⟨a', xs', f1, _, hH1, d'⟩ := own_slot R1 hsl
  rw [e1] at f1; cases f1
  refine ⟨a, pa, xs', ys, rfl, rfl, hH1, hHp, by rw [d'.len, d1.len, List.length_map, List.length_map]; exact hc, tS_after (H := H) (ps := ps) (σ := σ) g1 (R1.wrOwn (es := (l ++ v).map enc) e1 ?_) q⟩
  rw [List.map_append]; exact d'.app d1
end
end Lay

set_option Elab.async false
set_option linter.all false
set_option maxRecDepth 100000
/-! Lay9: the script, a def's body as a promise, constants of the module, the law's end. -/
namespace Lay
open PySem PySem.Spec PyProof.Rows L2
open Lay.Enc (enc)

section
variable {X : Cx} {G : List Sl} {α β : Type} [Enc α] [Enc β] {a b e : Expr} {pos p : Pos} {N : List Str} {sc : Scope} {fs : Option Scope} {k i : Nat} {x : Str}
/-! ### a list that is only read (the script) -/
theorem rd_slot {K : PySem.W.Frag} {F H I : Hp} {σ : L2.St} {ps : Nat → Option Addr} (R : RS K F G σ H I ps) {ds : List PyData} (hs : slAt G i = .rd ds) : ∃ a xs, σ[i]? = some (some (.ref a)) ∧ SqL K I a xs ∧ DqAll I xs ds := by
  have hi : i < G.length := by
    by_cases c : i < G.length
    · exact c
    · rw [slAt_out (by omega)] at hs; cases hs
  obtain ⟨w, k1, k2⟩ := R.sl i hi
  rw [hs] at k2
  obtain ⟨e1, a, xs, e2, q, d⟩ := k2
  subst e2
  exact ⟨a, xs, k1, q, d⟩
theorem er_rd {l : List α} (C : Ctx X N sc fs k) (hv : visB N sc i x = true) (hs : slAt G i = .rd (l.map enc)) : ER X G (.Name x pos) (some l) := fun y hy => by
  cases hy
  refine (pe_name C hv).imp fun σ H Q ⟨F, I, ps, R, q⟩ => ?_
  obtain ⟨a, xs, e, s, d⟩ := rd_slot R hs
  exact ⟨_, e, q a xs H I Grow.refl R (Same.seq R.si s) d⟩
theorem ed_ixR {l : List α} {oi : Option Int} (C : Ctx X N sc fs k) (hv : visB N sc i x = true) (hsl : slAt G i = .rd (l.map enc)) (hb : ED X G b oi) (hs : PlainIx b := by intro _ _; rfl) :
    ED X G (.Subscript (.Name x p) b pos) (oi.bind fun j => atI l j) := fun z hz => by
  obtain ⟨j, h2, h3⟩ := bind_get hz
  refine (pe_ix ix_list (pe_name C hv) (hb j h2) hs).imp fun σ H Q ⟨F, I, ps, R, q⟩ => ?_
  obtain ⟨a, xs, e, s, d⟩ := rd_slot R hsl
  refine ⟨_, e, F, I, ps, R, fun w H1 I1 g1 R1 dw => ?_⟩
  cases dw
  obtain ⟨u, hu, du⟩ := d.atI (atI_map h3)
  exact ⟨_, _, j, u, rfl, rfl, Same.seq (g1.same.trans R1.si) s, hu, q u H1 I1 g1 R1 (Dq_mono g1.same _ _ du)⟩
/-- a def of the script alone -/
def spR (K : PySem.W.Frag) (own : Rq) {α ρ : Type} [Enc α] [Enc ρ] (m : List α → Option ρ) : Sp := fun vs H Q _ =>
  ∃ a xs l r I, vs = [.ref a] ∧ m l = some r ∧ Same I H ∧ SqL K I a xs ∧ DqAll I xs (l.map enc) ∧ ∀ v H' I', Same H H' → Grow H I I' → Same I' H' → RetR K own H I' H' v (enc r) → Q v H'
theorem ed_callR {β ρ : Type} [Enc β] [Enc ρ] {m : List β → Option ρ} {l : List β} {f : Str} {prm : List Str} {j : Nat} {p1 : Pos} (C : Ctx X N sc fs k) (c : Cal X.prog X.w X.K X.mg X.base CX0 j f prm (spR X.K .dd m)) (hj : j ≤ k) (hg : glbB sc f = true) (hv : visB N sc i x = true) (hsl : slAt G i = .rd (l.map enc))
    (he : starEach [.Name x p1] X.env = (false, eval (.Name x p1) X.env) :: starEach [] X.env := by rfl) : ED X G (.Call (.Name f p) [.Name x p1] [] pos) (m l) := fun r hr => by
  refine (pe_callG (c.up hj) C.gd C.rm C.s hg (pass0 (X := X)) (pa_cons (pe_name C hv) pa_nil he) he rfl).imp fun σ H Q ⟨F, I, ps, R, q⟩ => ?_
  obtain ⟨a, xs, e, s, d⟩ := rd_slot R hsl
  refine ⟨_, e, a, xs, l, r, I, rfl, hr, R.si, s, d, fun v H' I' s' g' si rr => ?_⟩
  obtain ⟨g2, R2⟩ := R.called s' g' si
  exact q v H' I' g2 R2 rr
/-! ### a constant of the module -/
theorem ed_glb {n : Int} (C : Ctx X N sc fs k) (hg : glbB sc x = true) (h : ∃ t, X.mg x = some (.int n t)) : ED X G (.Name x pos) (some n) := fun y hy => by
  cases hy
  obtain ⟨t, ht⟩ := h
  obtain ⟨gl, db⟩ := glbB_gl C.s hg
  exact (pe_glob gl ht (v := .int n) ⟨t, rfl⟩ db).imp (tC_ed fun _ => .int _)
end

/-! ### a, b = x, y (plain local names) -/
section
variable {X : Cx} {G : List Sl} {S B R : Type} [Enc R] {P : S → List Sl} {PB : B → List Sl} {own : Rk} {rest : List Stmt} {N : List Str} {sc : Scope} {fs : Option Scope} {k i j : Nat} {x y : Str} {α β : Type} [Enc α] [Enc β] {a b : Expr} {px py pt pt2 sp : Pos} {kt k2 : Nat}
def lclB (N : List Str) (sc : Scope) (i : Nat) (x : Str) : Bool := decide (N[i]? = some x) && (match sc.names.lookup x with | some .local => true | _ => false)
theorem lclB_ok (C : Ctx X N sc fs k) (h : lclB N sc i x = true) : X.N[i]? = some x ∧ X.env.scope.names.lookup x = some .local := by
  unfold lclB at h
  simp only [Bool.and_eq_true, decide_eq_true_eq] at h
  rw [C.n, C.s]
  refine ⟨h.1, ?_⟩
  have h2 := h.2
  split at h2
  · assumption
  · cases h2
theorem sv_par {oa : Option α} {ob : Option β} {kk : α → β → Option (Out S B R)} (C : Ctx X N sc fs k) (h1 : lclB N sc i x = true) (h2 : lclB N sc j y = true) (hij : i ≠ j) (hne : (x == y) = false) (hl : (px.line == py.line) = true) (ha : ED X G a oa) (hb : ED X G b ob)
    (hk : ∀ v w, SV X ((G.set i (.dat (enc v))).set j (.dat (enc w))) rest P PB own (kk v w)) (hf : ([a, b].any fun | .Starred .. => true | _ => false) = false := by rfl) (hc : ([a, b].all (foldedForSure 8)) = false := by rfl) (hc2 : ([a, b].all (constantsAlone 8)) = false := by rfl)
    (s1 : starEach [a, b] X.env = (false, eval a X.env) :: starEach [b] X.env := by rfl) (s2 : starEach [b] X.env = (false, eval b X.env) :: starEach [] X.env := by rfl)
    (hsw : swapsWithSole [.Tuple [.Name x px, .Name y py] kt pt] (.Tuple [a, b] k2 pt2) sp.line X.env = pure false := by rfl) :
    SV X G (.Assign [.Tuple [.Name x px, .Name y py] kt pt] (.Tuple [a, b] k2 pt2) sp :: rest) P PB own (oa.bind fun v => ob.bind fun w => kk v w) := fun z hz => by
  obtain ⟨v, e1, hz⟩ := bind_get hz
  obtain ⟨w, e2, hz⟩ := bind_get hz
  obtain ⟨i1, i2⟩ := lclB_ok C h1
  obtain ⟨j1, j2⟩ := lclB_ok C h2
  have hw : swappedStores [.Tuple [.Name x px, .Name y py] kt pt] (.Tuple [a, b] k2 pt2) X.env = pure (some [x, y]) := by
    have kx : X.env.kindOf x = some .local := i2
    have ky : X.env.kindOf y = some .local := j2
    have bk : X.env.blockKind = .function := by unfold Env.blockKind; rw [C.s, C.fk]; rfl
    unfold swappedStores
    have l2 : (py.line == px.line) = true := by rw [beq_iff_eq] at hl ⊢; exact hl.symm
    simp only [List.length_cons, List.length_nil, bk, hf, hc, hc2, List.head?_cons, Option.map_some, Expr.pos, Option.getD_some, List.filterMap_cons, kx, ky, l2, List.filterMap_nil]
    rw [if_neg (by decide), if_neg (by rw [Bool.not_eq_true]; exact hf)]
    have e1 : (some NameKind.local == some NameKind.local) = true := by decide
    have e3 : (y == x) = false := by rw [beq_eq_false_iff_ne] at hne ⊢; exact fun c => hne c.symm
    simp [e1, List.eraseDups, List.eraseDupsBy, List.eraseDupsBy.loop, e3, hne]
  refine (pss_cons (ps_par C.calm (by rw [C.n]; exact C.nd) i1 j1 hij i2 j2 (pa_cons (ha v e1) (pa_cons (hb w e2) pa_nil s2) s1) hw hsw) (hk v w z hz)).imp fun D σ H ⟨F, I, ps, Rr, q⟩ => ?_
  refine ⟨F, I, ps, Rr, fun v1 H1 I1 g1 R1 d1 => ⟨F, I1, ps, R1, fun w1 H2 I2 g2 R2 d2 => ⟨_, _, rfl, ?_⟩⟩⟩
  exact tS_after (H := H) (ps := ps) (σ := σ) (g1.trans g2) ((R2.setDat (Dq_mono g2.same _ _ d1)).setDat d2) q
end

/-! ### a def's body kept as a promise -/
def finO {R : Type} (d : Option R) (o : Option (Out Unit Unit R)) : Option R := o.bind fun x => match x with
  | .nx _ => d
  | .rt r => some r
  | _ => none
@[simp] theorem finO_nx {R : Type} (d : Option R) : finO d (some (.nx ())) = d := rfl
@[simp] theorem finO_rt {R : Type} (d : Option R) (r : R) : finO d (some (.rt r)) = some r := rfl
@[simp] theorem finO_none {R : Type} (d : Option R) : finO d none = none := rfl
theorem slAt_get : ∀ {G : List Sl} {i : Nat} {s : Sl}, G[i]? = some s → slAt G i = s
  | [], _, _, h => by simp at h
  | s :: r, 0, _, h => Option.some.inj h
  | s :: r, i + 1, _, h => slAt_get (G := r) (i := i) h
theorem slAt_rep : ∀ n i, slAt (List.replicate n Sl.un) i = .un
  | 0, _ => rfl
  | n + 1, 0 => rfl
  | n + 1, i + 1 => slAt_rep n i
theorem wkR_all {G : List Sl} {n : Nat} (h : G.length = n) : WkR G (List.replicate n .un) := fun K F σ H I ps R => by
  subst h
  have at_ : ∀ n i, slAt (List.replicate n Sl.un) i = .un := slAt_rep
  refine ⟨I, fun _ => none, Grow.refl, ⟨R.si, R.sf, fun i a h => (nomatch h), by rw [List.length_replicate]; exact R.len, fun i hi => ?_, fun _ _ => rfl, fun i j a h => (nomatch h)⟩⟩
  rw [List.length_replicate] at hi
  obtain ⟨v, h1, h2⟩ := R.sl i hi
  refine ⟨v, h1, ?_⟩
  rw [at_]
  rfl
def dats (n : Nat) (ds : List PyData) : List Sl := ds.map .dat ++ List.replicate (n - ds.length) .un
def tBody (K : PySem.W.Frag) (G : List Sl) (own : Rq) (r : PyData) : TS := fun D σ H =>
  ∃ F I ps, RS K F G σ H I ps ∧ ∀ v H' I', Grow F I I' → Same F H' → Same I' H' → RetR K own F I' H' v r → (v = .non → ∀ σ', D.nx σ' H') ∧ D.rt v H'
theorem body_of {X : Cx} {G : List Sl} {R : Type} [Enc R] {P : Unit → List Sl} {PB : Unit → List Sl} {own : Rq} {body : List Stmt} {d : Option R} {o : Option (Out Unit Unit R)} {r : R} (h : SV X G body P PB ⟨own, false⟩ o) (hr : finO d o = some r) (hd : ∀ x, d = some x → own = .dd ∧ enc x = .none) :
    PSs X body (tBody X.K G own (enc r)) := by
  obtain ⟨x, h1, h2⟩ := bind_get hr
  refine (h x h1).imp fun D σ H ⟨F, I, ps, Rr, q⟩ => ⟨F, I, ps, Rr, ?_⟩
  cases x with
  | nx s =>
    have h2 : d = some r := h2
    obtain ⟨e1, e2⟩ := hd r h2
    subst e1
    exact fun σ' H' I' ps' g R' => (q .non H' I' g R'.sf R'.si (by rw [e2]; exact Dq.non)).1 rfl σ'
  | rt s =>
    have e : s = r := Option.some.inj h2
    subst e
    exact fun v H' I' g s1 s2 rr => (q v H' I' g s1 s2 rr).2
  | bk s => cases h2
  | ct s => cases h2
  | er s => cases h2
section
variable {P : Program} {w : World} {K : PySem.W.Frag} {mg : Str → Option Value} {base : Heap} {x : Str} {st : Stmt} {f : Addr} {fd : FuncData} {N prm : List Str} {k : Nat} {own : Rq}
theorem start_rs {n : Nat} {vs : List V} {ds : List PyData} {H I : Hp} (hN : N.length = n) (hl : ds.length ≤ n) (hi : Same I H) (d : DqAll I vs ds) : RS K H (dats n ds) (start N vs) H I (fun _ => none) := by
  subst hN
  have ln := d.len
  refine ⟨hi, Same.refl _, fun i a h => (nomatch h), ?_, fun i h => ?_, fun _ _ => rfl, fun i j a h => (nomatch h)⟩
  · unfold dats L2.start
    simp only [List.length_append, List.length_map, List.length_replicate]; omega
  · unfold dats L2.start
    by_cases c : i < ds.length
    · have c2 : i < vs.length := by omega
      refine ⟨some vs[i], ?_, ?_⟩
      · rw [List.getElem?_append_left (by rw [List.length_map]; exact c2), List.getElem?_map, List.getElem?_eq_getElem c2]; rfl
      · have e : slAt (ds.map Sl.dat ++ List.replicate (N.length - ds.length) .un) i = .dat ds[i] := slAt_get (by
          rw [List.getElem?_append_left (by rw [List.length_map]; exact c), List.getElem?_map, List.getElem?_eq_getElem c]; rfl)
        rw [e]
        obtain ⟨v, hv, hd⟩ := d.at (List.getElem?_eq_getElem c)
        rw [List.getElem?_eq_getElem c2] at hv
        cases hv
        exact ⟨rfl, _, rfl, hd⟩
    · have h2 : i < N.length := by
        unfold dats at h
        simp only [List.length_append, List.length_map, List.length_replicate] at h; omega
      refine ⟨none, ?_, ?_⟩
      · rw [List.getElem?_append_right (by rw [List.length_map]; omega), List.length_map, List.getElem?_replicate, if_pos (by omega)]
      · have e : slAt (ds.map Sl.dat ++ List.replicate (N.length - ds.length) .un) i = .un := slAt_get (by
          rw [List.getElem?_append_right (by rw [List.length_map]; omega), List.length_map, List.getElem?_replicate, if_pos (by omega)])
        rw [e]; rfl
theorem ctx_of {qual : Str} {sc : Scope} {f : Addr} {cd : Value} {A : Around} {out : List Env} {s : Shared} {H : Hp} {E : XK} (S : FnScope N prm sc) (gd : A.guards = some []) (rm : Room k (A.deeper (envOfC qual sc s.heap.objs.size f cd))) : Ctx (cxOf CX0 P w K mg base N qual sc f cd A out s H E) N sc none k :=
  ⟨rfl, rfl, S.kind, rfl, S.nd, gd, rm, PassesOwn.leaving, rfl⟩
/-- what a body's text must give, in any context of the def -/
abbrev AnyX (P : Program) (w : World) (K : PySem.W.Frag) (mg : Str → Option Value) (base : Heap) (N : List Str) (sc : Scope) (k : Nat) (g : Cx → Prop) : Prop :=
  ∀ X : Cx, X.prog = P → X.w = w → X.K = K → X.mg = mg → X.base = base → Ctx X N sc none k → g X
theorem ok_def {g : List PyData → PyData → Prop} {qual : Str} (F : Fun K x qual st f fd) (S : FnScope N prm (defScope st)) (ar : ∀ ds r, g ds r → ds.length = prm.length) (n : Nat) (hN : N.length = n) (hp : prm.length ≤ n)
    (body : AnyX P w K mg base N (defScope st) k fun X => ∀ ds r, g ds r → PSs X (defBody st) (tBody X.K (dats n ds) own r)) : FnG P w K mg base CX0 (k + 1) f fd prm (spD K own g) := by
  refine fnG F S (fun vs H Q E ⟨ds, r, I, h1, _, h2, _⟩ => by rw [← ar ds r h1]; exact h2.len) fun cd A out s H vs Q E gd rm ⟨ds, r, I, h1, hi, h2, q⟩ => ?_
  refine ⟨_, body _ rfl rfl rfl rfl rfl (ctx_of S gd rm) ds r h1, H, I, _, start_rs hN (by rw [ar ds r h1]; exact hp) hi h2, fun v H' I' g s1 s2 rr => ⟨fun e σ' => ?_, q v H' I' s1 g s2 rr⟩⟩
  subst e
  exact q .non H' I' s1 g s2 rr
theorem ok_rd {α ρ : Type} [Enc α] [Enc ρ] {m : List α → Option ρ} {qual : Str} {y : Str} (F : Fun K x qual st f fd) (S : FnScope N [y] (defScope st)) (n : Nat) (hN : N.length = n) (hp : 1 ≤ n)
    (body : AnyX P w K mg base N (defScope st) k fun X => ∀ l r, m l = some r → PSs X (defBody st) (tBody X.K (.rd (l.map enc) :: List.replicate (n - 1) .un) own (enc r))) : FnG P w K mg base CX0 (k + 1) f fd [y] (spR K own m) := by
  refine fnG F S (fun vs H Q E ⟨a, xs, l, r, I, h1, _⟩ => by rw [h1]; rfl) fun cd A out s H vs Q E gd rm ⟨a, xs, l, r, I, h1, hr, hi, hs, hd, q⟩ => ?_
  subst h1
  have R0 : RS K H (.rd (l.map enc) :: List.replicate (n - 1) .un) (start N [.ref a]) H I (fun _ => none) := by
    have R1 := start_rs (K := K) (N := N) (n := n) (H := H) (I := I) (vs := [.int 0]) (ds := [.int 0]) hN hp hi (.cons (.int 0) .nil)
    refine ⟨R1.si, R1.sf, R1.fo, ?_, fun i h => ?_, fun _ _ => rfl, R1.dis⟩
    · exact R1.len
    · cases i with
      | zero => exact ⟨_, rfl, rfl, a, xs, rfl, hs, hd⟩
      | succ i => exact R1.sl (i + 1) h
  refine ⟨_, body _ rfl rfl rfl rfl rfl (ctx_of S gd rm) l r hr, H, I, _, R0, fun v H' I' g s1 s2 rr => ⟨fun e σ' => ?_, q v H' I' s1 g s2 rr⟩⟩
  subst e
  exact q .non H' I' s1 g s2 rr
theorem cal_of {f : Addr} {qual : Str} {sp : Sp} (G : FnG P w K mg base CX0 k f fd prm sp) (F : Fun K x qual st f fd) (hm : mg x = some (.ref f)) (b : Binds K fd prm []) : Cal P w K mg base CX0 k x prm sp := ⟨f, fd, G, hm, F.kp, b⟩
theorem dq_ints {H : Hp} : ∀ ns : List Int, DqAll H (ns.map V.int) (ns.map enc)
  | [] => .nil
  | n :: r => .cons (.int n) (dq_ints r)
theorem law_sp {m : List Int → Option Bool} {n : Nat} (h : ∀ ns : List Int, ns.length ≤ n → m ns = some true) (K : PySem.W.Frag) (H : Hp) (a : Addr) (ns : List Int) (hl : ns.length ≤ n) (_ : Only H) (hS : SqL K H a (ns.map V.int)) : spR K .dd m [.ref a] H (fun v _ => v = .bl true) fun _ _ _ => False :=
  ⟨a, _, ns, true, H, rfl, h ns hl, Same.refl _, hS, dq_ints ns, fun v H' I' _ _ _ rr => by cases rr; rfl⟩
end
end Lay

set_option Elab.async false
set_option linter.all false
set_option maxRecDepth 100000
/-! LayA: own lists lent to an expression with a flat answer; sorted of any data. -/
namespace Lay
open PySem PySem.Spec PyProof.Rows L2
open Lay.Enc (enc)
def frzAll (G : List Sl) : List Sl := G.map frzS
theorem slAt_map : ∀ {G : List Sl} {i : Nat}, slAt (G.map frzS) i = frzS (slAt G i)
  | [], _ => rfl
  | _ :: _, 0 => rfl
  | _ :: r, i + 1 => slAt_map (G := r) (i := i)
class Flat (α : Type) [Enc α] : Prop where
  fl : ∀ (x : α) (H H' : Hp) (v : V), Dq H v (enc x) → Dq H' v (enc x)
instance : Flat Int := ⟨fun x H H' v d => by cases d; exact .int _⟩
instance : Flat Bool := ⟨fun x H H' v d => by cases d; exact .bl _⟩
instance : Flat Str := ⟨fun x H H' v d => by cases d; exact .str _⟩
instance : Flat Unit := ⟨fun x H H' v d => by cases d; exact .non⟩
instance {α : Type} [Enc α] [S : Flat α] : Flat (Option α) := ⟨fun x H H' v d => by
  cases x with
  | none => cases d; exact .non
  | some x => exact S.fl x H H' v d⟩
theorem flatAll {α : Type} [Enc α] [S : Flat α] {H H' : Hp} : ∀ {xs : List V} {l : List α}, DqAll H xs (l.map enc) → DqAll H' xs (l.map enc)
  | [], [], _ => .nil
  | _ :: _, _ :: _, .cons d r => .cons (S.fl _ _ _ _ d) (flatAll r)
open Classical in
theorem lend_rs {K : PySem.W.Frag} {F H I : Hp} {G : List Sl} {σ : L2.St} {ps : Nat → Option Addr} (R : RS K F G σ H I ps) : ∃ I2, Grow F I I2 ∧ RS K F (frzAll G) σ H I2 (fun _ => none) ∧ (∀ i a, ps i = some a → I2 a ≠ none) ∧
    ∀ H' I', Same I2 I' → RS K F (frzAll G) σ H' I' (fun _ => none) → RS K F G σ H' I ps := by
  let I2 : Hp := fun a => if ∃ i, ps i = some a then H a else I a
  have own : ∀ {i a}, ps i = some a → I2 a = H a := fun {i a} h => if_pos ⟨i, h⟩
  have s1 : Same I I2 := fun b u e => by
    by_cases c : ∃ i, ps i = some b
    · obtain ⟨i, h⟩ := c
      rw [(R.own_at h).1] at e; cases e
    · show (if _ then _ else _) = _
      rw [if_neg c]; exact e
  have s2 : Same I2 H := fun b u e => by
    by_cases c : ∃ i, ps i = some b
    · obtain ⟨i, h⟩ := c
      rw [own h] at e; exact e
    · have e2 : (if ∃ i, ps i = some b then H b else I b) = some u := e
      rw [if_neg c] at e2; exact R.si _ _ e2
  refine ⟨I2, ⟨s1, fun a h => ?_⟩, ⟨s2, R.sf, fun i a h => (nomatch h), by unfold frzAll; rw [List.length_map]; exact R.len, fun i hi => ?_, fun _ _ => rfl, fun i j a h => (nomatch h)⟩, fun i a h => ?_, fun H' I' s3 R' => ⟨(s1.trans s3).trans R'.si, R'.sf, R.fo, R.len, fun i hi => ?_, R.out, R.dis⟩⟩
  · by_cases c : ∃ i, ps i = some a
    · obtain ⟨i, hh⟩ := c; exact .inr (R.fo _ _ hh)
    · have e2 : I2 a = I a := if_neg c
      rw [e2] at h; exact .inl h
  · unfold frzAll at hi
    rw [List.length_map] at hi
    obtain ⟨v, k1, k2⟩ := R.sl i hi
    refine ⟨v, k1, ?_⟩
    unfold frzAll
    rw [slAt_map]
    cases e : slAt G i with
    | un => rfl
    | dat d => rw [e] at k2; obtain ⟨_, x, h1, h2⟩ := k2; exact ⟨rfl, x, h1, Dq_mono s1 _ _ h2⟩
    | rd ds => rw [e] at k2; obtain ⟨_, a, xs, h1, h2, h3⟩ := k2; exact ⟨rfl, a, xs, h1, Same.seq s1 h2, DqAll_mono s1 _ _ h3⟩
    | st d => rw [e] at k2; exact ⟨rfl, k2.2.mono s1⟩
    | old d => rw [e] at k2; obtain ⟨_, x, h1, h2⟩ := k2; exact ⟨rfl, x, h1, Dq_mono (rgO_mono s1) _ _ h2⟩
    | nw d => rw [e] at k2; obtain ⟨_, x, h1, h2⟩ := k2; exact ⟨rfl, x, h1, Dq_mono (rgN_mono s1) _ _ h2⟩
    | own ds =>
      rw [e] at k2
      obtain ⟨a, xs, h1, h2, h3, h4, h5⟩ := k2
      exact ⟨rfl, _, h2, .lst (.inl ((own h1).trans h4)) (DqAll_mono s1 _ _ h5)⟩
  · obtain ⟨_, _, xs, e⟩ := R.own_at h
    rw [own h, e]; simp
  · obtain ⟨v, k1, k2⟩ := R.sl i hi
    refine ⟨v, k1, ?_⟩
    cases e : slAt G i with
    | un => rw [e] at k2; exact k2
    | dat d => rw [e] at k2; exact k2
    | rd ds => rw [e] at k2; exact k2
    | st ds => rw [e] at k2; exact k2
    | old ds => rw [e] at k2; exact k2
    | nw ds => rw [e] at k2; exact k2
    | own ds =>
      rw [e] at k2
      obtain ⟨a, xs, h1, h2, h3, h4, h5⟩ := k2
      exact ⟨a, xs, h1, h2, h3, R'.si _ _ (s3 _ _ ((own h1).trans h4)), h5⟩
section
variable {X : Cx} {G : List Sl} {α : Type} [Enc α] {e : Expr}
theorem ed_lend [S : Flat α] {o : Option α} (h : ED X (frzAll G) e o) : ED X G e o := fun x hx => (h x hx).imp fun σ H Q ⟨F, I, ps, R, q⟩ => by
  obtain ⟨I2, g, R2, _, back⟩ := lend_rs R
  exact ⟨F, I2, _, R2, fun v H' I' g' R' d => q v H' I Grow.refl (back H' I' g'.same R') (S.fl x _ _ _ d)⟩
theorem eb_lend {o : Option Bool} (h : EB X (frzAll G) e o) : EB X G e o := fun x hx => (h x hx).imp fun σ H Q ⟨F, I, ps, R, q⟩ => by
  obtain ⟨I2, g, R2, _, back⟩ := lend_rs R
  exact ⟨F, I2, _, R2, fun H' I' g' R' => q H' I Grow.refl (back H' I' g'.same R')⟩
theorem tO_lend [S : Flat α] {K : PySem.W.Frag} {l : List α} {σ : L2.St} {H : Hp} {Q : VK} (h : tO K G (l.map enc) σ H Q) : tO K (frzAll G) (l.map enc) σ H Q := by
  obtain ⟨F, I, ps, R, q⟩ := h
  obtain ⟨I2, g, R2, n2, back⟩ := lend_rs R
  refine ⟨F, I2, _, R2, fun p xs H' I' g' R' n hF hp hH d => q p xs H' I Grow.refl (back H' I' g'.same R') (g.same.free (g'.same.free n)) hF (fun i z => n2 i p z (g'.same.free n)) hH (flatAll d)⟩
theorem eo_lend [S : Flat α] {o : Option (List α)} (h : EO X (frzAll G) e o) : EO X G e o := fun x hx => (h x hx).imp fun σ H Q t => tO_lend t
theorem lc_lend [S : Flat α] {o : Option (List α)} (h : LC X (frzAll G) e o) : LC X G e o := fun l hl => by
  obtain ⟨t, h1, h2, h3⟩ := h l hl
  exact ⟨t, h1, h2, fun σ H Q w => h3 σ H Q (tO_lend w)⟩
end
/-! ### sorted of any data -/
/-- what sorted may be asked: items of one kind; tuples with an item -/
class SortT (α : Type) [Enc α] where
  ok : List α → Bool
  one : ∀ x y : α, PySem.W.alike (enc x) (enc y) = true
  srt : ∀ l, ok l = true → PySem.W.Sortable (l.map (enc : α → PyData))
theorem alikeAll_of {α : Type} [Enc α] (h : ∀ x y : α, PySem.W.alike (enc x) (enc y) = true) : ∀ l m : List α, PySem.W.alikeAll (l.map enc) (m.map enc) = true
  | [], _ => by simp [PySem.W.alikeAll]
  | _ :: _, [] => by simp [PySem.W.alikeAll]
  | x :: xs, y :: ys => by
    show PySem.W.alikeAll (enc x :: xs.map enc) (enc y :: ys.map enc) = true
    rw [PySem.W.alikeAll, alikeAll_of h xs ys, h x y]; rfl
instance : SortT Int := ⟨fun _ => true, fun x y => by simp [enc, PySem.W.alike], fun l _ => PySem.W.Sortable.others fun b => ⟨(nomatch ·), fun _ => (nomatch ·)⟩⟩
instance : SortT Bool := ⟨fun _ => true, fun x y => by simp [enc, PySem.W.alike], fun l _ => PySem.W.Sortable.others fun b => ⟨(nomatch ·), fun _ => (nomatch ·)⟩⟩
instance {α : Type} [Enc α] [S : SortT α] : SortT (List α) := ⟨fun _ => true, fun x y => by
  show PySem.W.alike (.list (x.map enc)) (.list (y.map enc)) = true
  rw [PySem.W.alike]; exact alikeAll_of S.one x y, fun l _ => PySem.W.Sortable.others fun b => ⟨(nomatch ·), fun _ => (nomatch ·)⟩⟩
instance {α : Type} [Enc α] [S : SortT α] : SortT (Tup α) := ⟨fun l => l.all fun t => !t.l.isEmpty, fun x y => by
  show PySem.W.alike (.tuple (x.l.map enc)) (.tuple (y.l.map enc)) = true
  rw [PySem.W.alike]; exact alikeAll_of S.one x.l y.l, fun l h => .inl fun d hd => by
    obtain ⟨t, ht, rfl⟩ := List.mem_map.mp hd
    have q := List.all_eq_true.mp h t ht
    cases e : t.l with
    | nil => rw [e] at q; cases q
    | cons x r => exact ⟨enc x, r.map enc, by show PyData.tuple (t.l.map enc) = _; rw [e]; rfl⟩⟩
instance {α β : Type} [Enc α] [Enc β] [S : SortT α] [T : SortT β] : SortT (T2 α β) := ⟨fun _ => true, fun x y => by
  show PySem.W.alike (.tuple [enc x.a, enc x.b]) (.tuple [enc y.a, enc y.b]) = true
  rw [PySem.W.alike, PySem.W.alikeAll, PySem.W.alikeAll, PySem.W.alikeAll, S.one, T.one]; rfl, fun l _ => PySem.W.Sortable.tuples fun b => ⟨_, _, rfl⟩⟩
instance {α β γ : Type} [Enc α] [Enc β] [Enc γ] [S : SortT α] [T : SortT β] [U : SortT γ] : SortT (T3 α β γ) := ⟨fun _ => true, fun x y => by
  show PySem.W.alike (.tuple [enc x.a, enc x.b, enc x.c]) (.tuple [enc y.a, enc y.b, enc y.c]) = true
  rw [PySem.W.alike, PySem.W.alikeAll, PySem.W.alikeAll, PySem.W.alikeAll, PySem.W.alikeAll, S.one, T.one, U.one]; rfl, fun l _ => PySem.W.Sortable.tuples fun b => ⟨_, _, rfl⟩⟩
def leD {α : Type} [Enc α] : α → α → Bool := PySem.W.dataLe false (enc : α → PyData)
def sortD {α : Type} [Enc α] [S : SortT α] (l : List α) : Option (List α) := if S.ok l = true ∧ l.length ≤ sizeLine then some (l.mergeSort leD) else none
def rSortedD (α : Type) [Enc α] [S : SortT α] (K : PySem.W.Frag) : List V → Hp → VK → Prop := fun vs H Q => ∃ (a : Addr) (xs : List V) (l : List α), vs = [.ref a] ∧ SqL K H a xs ∧ DpAll K H xs (l.map enc) ∧ S.ok l = true ∧ l.length ≤ sizeLine ∧
  ∀ (zs : List (V × α)) (p : Addr), zs.Perm (xs.zip l) → zs.map Prod.snd = l.mergeSort leD → H p = none → Q (.ref p) (upd H p (.lst (zs.map Prod.fst)))
section
variable {X : Cx} {α : Type} [Enc α] [S : SortT α] [T : Sh α]
theorem each_vals : ∀ {zs : List (V × α)} {us : List Value}, PySem.W.EachIs (fun u (z : V × α) => RelV z.1 u) us zs → Vals (zs.map Prod.fst) us
  | [], _, h => by cases h; exact .nil
  | z :: zs, _, h => by
    cases h with
    | cons h1 h2 => exact .cons h1 (each_vals h2)
theorem vals_each : ∀ {xs : List V} {l : List α} {us : List Value}, xs.length = l.length → Vals xs us → PySem.W.EachIs (fun u (z : V × α) => RelV z.1 u) us (xs.zip l)
  | [], [], _, _, h => by cases h; exact .nil
  | x :: xs, y :: l, _, e, h => by
    cases h with
    | cons h1 h2 => exact .cons h1 (vals_each (by simpa using e) h2)
theorem dpAll_len {K : PySem.W.Frag} {H : Hp} : ∀ {xs : List V} {ds : List PyData}, DpAll K H xs ds → xs.length = ds.length
  | _, _, .nil => rfl
  | _, _, .cons _ h => by simp [dpAll_len h]
theorem cr_sortedD (hu : X.A.units + 64 < cLine) (hd : T.dp ≤ 60) : CallR X (.builtin "sorted") (rSortedD α X.K) := by
  intro pins s σ H vs us Q I r h
  obtain ⟨a, xs, l, rfl, hs, hdp, hok, hL, q⟩ := h
  obtain ⟨its, rv, hl, hz⟩ := I.list hs
  rw [Vals.ref1 r]
  have el : xs.length = l.length := by rw [dpAll_len hdp, List.length_map]
  obtain ⟨as, rd⟩ := Dp.readsAll I _ _ _ hdp rv
  have e2 : (xs.zip l).map (fun z => (enc z.2 : PyData)) = l.map enc := by
    rw [show (fun z : V × α => (enc z.2 : PyData)) = enc ∘ Prod.snd from rfl, ← List.map_map, List.map_snd_zip (Nat.le_of_eq el.symm)]
  have lz : (xs.zip l).length = l.length := by rw [List.length_zip]; omega
  refine PySem.W.sorted_data (bs := xs.zip l) (enc := fun z => enc z.2) (R := fun u z => RelV z.1 u) hl.isList (vals_each el rv) (PySem.W.readsAll_each _ (by rw [e2]; exact rd)) (by
      rw [e2]; exact PySem.W.AllAlike.of S.one) (by rw [e2]; exact S.srt l hok) (by rw [lz]; exact hL) (fun b _ => ?_) fun out h1 h2 => ?_
  · have := T.dep b.2
    omega
  · have pm := List.mergeSort_perm (xs.zip l) (PySem.W.dataLe false fun z : V × α => (enc z.2 : PyData))
    have sn : ((xs.zip l).mergeSort (PySem.W.dataLe false fun z : V × α => (enc z.2 : PyData))).map Prod.snd = l.mergeSort leD := by
      have q := PySem.W.sort_maps (r := PySem.W.dataLe false fun z : V × α => (enc z.2 : PyData)) (s := leD) Prod.snd (l := xs.zip l) (fun a _ b _ => rfl)
      rw [List.map_snd_zip (Nat.le_of_eq el.symm)] at q
      exact q
    obtain ⟨ep, he'⟩ := PyProof.Rows.sortedAll_at s.heap its out.toArray
    have hlen : (((xs.zip l).mergeSort (PySem.W.dataLe false fun z : V × α => (enc z.2 : PyData))).map Prod.fst).length ≤ sizeLine := by
      rw [List.length_map, pm.length_eq, lz]; exact hL
    exact ⟨.ref _, upd H (s.heap.objs.size + 1) (.lst _), I.laid (t' := s.toks) (fun _ _ => PyProof.Rows.sortedAll_old) (Nat.le_succ _) ⟨hlen, out, ep, each_vals h2, he'⟩, rfl, q _ _ pm sn (I.hok.fresh (Nat.le_succ _))⟩
end
section
variable {X : Cx} {G : List Sl} {α : Type} [Enc α] [S : SortT α] [T : Sh α] {e : Expr} {pos p : Pos} {N : List Str} {sc : Scope} {fs : Option Scope} {k : Nat}
theorem dq_zip {I : Hp} : ∀ {xs : List V} {l : List α}, DqAll I xs (l.map enc) → ∀ z ∈ xs.zip l, Dq I z.1 (enc z.2)
  | [], [], _, z, h => by simp at h
  | x :: xs, y :: l, .cons d r, z, h => by
    rw [List.zip_cons_cons, List.mem_cons] at h
    rcases h with h | h
    · subst h; exact d
    · exact dq_zip r z h
theorem dq_of {I : Hp} : ∀ {zs : List (V × α)}, (∀ z ∈ zs, Dq I z.1 (enc z.2)) → DqAll I (zs.map Prod.fst) ((zs.map Prod.snd).map enc)
  | [], _ => .nil
  | z :: zs, h => .cons (h z (by simp)) (dq_of fun y hy => h y (by simp [hy]))
theorem eo_sortedD {ol : Option (List α)} (C : Ctx X N sc fs k) (hg : glbB sc "sorted" = true) (hm : X.mg "sorted" = none) (h : ER X G e ol) (hs : starEach [e] X.env = (false, eval e X.env) :: starEach [] X.env := by rfl) (hd : T.dp ≤ 60 := by decide) : EO X G (.Call (.Name "sorted" p) [e] [] pos) (ol.bind sortD) := fun z hz => by
  obtain ⟨l, h1, h2⟩ := bind_get hz
  obtain ⟨⟨hok, hL⟩, e1⟩ := ite_get h2
  refine (b1 (id := "sorted") C hg hm (by decide +kernel) (cr_sortedD (α := α) C.rm.units hd) (h l h1) (by decide) hs).imp (tR_bO fun F G σ H I ps ad xs Q R s d q => ?_)
  refine ⟨ad, xs, l, rfl, s, DqAll_dp _ _ (DqAll_mono R.si _ _ d), hok, hL, fun zs p hp hs hn => ?_⟩
  have dz := dq_of (fun z hz => dq_zip d z (hp.mem_iff.mp hz))
  rw [hs, e1] at dz
  exact q p _ hn dz
end
end Lay

set_option Elab.async false
set_option linter.all false
set_option maxRecDepth 100000
/-! LayM: plain facts of the mirrors' words. -/
namespace Lay
open PySem PySem.Spec PyProof.Rows L2
open Lay.Enc (enc)
@[simp] theorem lift1_none {α β : Type} (f : α → β) : lift1 f none = none := rfl
theorem sizeLine_val : sizeLine = 16777216 := by decide
/-! ### guards -/
theorem log2_lt64 {n : Nat} (h : n < 2 ^ 64) : n.log2 < 64 := by
  by_cases e : n = 0
  · subst e; decide
  · exact (Nat.log2_lt e).mpr h
theorem mulG_of {i j : Int} (hi : i.natAbs < 2 ^ 64) (hj : j.natAbs < 2 ^ 64) : mulG i j = some (i * j) := by
  have h1 := log2_lt64 hi
  have h2 := log2_lt64 hj
  exact if_pos (by omega)
theorem divG_of {i j : Int} (h : 0 < j) (h2 : j.natAbs < 2 ^ 64) : divG i j = some (i / j) := by
  have := log2_lt64 h2
  exact if_pos ⟨h, by omega⟩
theorem modG_of {i j : Int} (h : 0 < j) : modG i j = some (i % j) := if_pos h
theorem appG_of {α : Type} {l : List α} {x : α} (h : l.length < 16777216) : appG l x = some (l ++ [x]) := if_pos (by rw [sizeLine_val]; exact h)
theorem catG_of {α : Type} {l m : List α} (h : l.length + m.length ≤ 16777216) : catG l m = some (l ++ m) := if_pos (by rw [sizeLine_val]; exact h)
theorem szG_of {α : Type} {l : List α} (h : l.length ≤ 16777216) : szG l = some l := if_pos (by rw [sizeLine_val]; exact h)
theorem repG_of {α : Type} {x : α} {k : Int} (h : 0 ≤ k) (h2 : k ≤ 262144) : repG [x] k = some (List.replicate k.toNat x) := by
  unfold repG
  rw [if_pos ⟨⟨by simp, h2⟩, by omega⟩]
  congr 1
  generalize k.toNat = n
  induction n with
  | zero => rfl
  | succ n ih => rw [List.replicate_succ, List.flatten_cons, ih]; rfl
theorem rng1_of {j : Int} (h : 0 ≤ j) (h2 : j ≤ 16777216) : rng1 j = some (rngL 0 j.toNat) := if_pos (by rw [sizeLine_val]; omega)
theorem rng2_of {i j : Int} (h : 0 ≤ i) (hj : 0 ≤ j) (h1 : i ≤ 16777216) (h2 : j ≤ 16777216) : rng2 i j = some (rngL i (j - i).toNat) := if_pos (by rw [sizeLine_val]; omega)
theorem mem_rng {lo : Int} {n : Nat} {x : Int} : x ∈ rngL lo n ↔ lo ≤ x ∧ x < lo + n := by
  unfold rngL
  rw [List.mem_map]
  constructor
  · rintro ⟨i, hi, rfl⟩
    rw [List.mem_range] at hi
    omega
  · intro ⟨h1, h2⟩
    exact ⟨(x - lo).toNat, by rw [List.mem_range]; omega, by omega⟩
theorem rng_get {lo : Int} {n i : Nat} {x : Int} (h : (rngL lo n)[i]? = some x) : i < n ∧ x = lo + i := by
  unfold rngL at h
  rw [List.getElem?_map] at h
  by_cases c : i < n
  · rw [List.getElem?_range c] at h
    exact ⟨c, (Option.some.inj h).symm⟩
  · rw [List.getElem?_eq_none (by rw [List.length_range]; omega)] at h
    cases h
@[simp] theorem rng_len {lo : Int} {n : Nat} : (rngL lo n).length = n := by unfold rngL; simp
theorem atI_nat' {α : Type} {l : List α} {i : Int} (h : 0 ≤ i) (h2 : i < l.length) : ∃ x, atI l i = some x ∧ l[i.toNat]? = some x ∧ x ∈ l := by
  have h3 : i.toNat < l.length := by omega
  refine ⟨l[i.toNat], ?_, List.getElem?_eq_getElem h3, List.getElem_mem h3⟩
  unfold atI ixN
  rw [if_pos h, if_pos h2]
  exact List.getElem?_eq_getElem h3
theorem atI_eq {α : Type} {l : List α} {i : Int} (h : 0 ≤ i) (h2 : i < l.length) : atI l i = l[i.toNat]? := by
  unfold atI ixN
  rw [if_pos h, if_pos h2]; rfl
/-! ### loops -/
section
variable {S B R α β : Type}
theorem forL_inv {step : S → α → Option (Out S S R)} (I : S → Prop) : ∀ {l : List α} {s : S}, I s → (∀ s x, x ∈ l → I s → ∃ s', step s x = some (.nx s') ∧ I s') → ∃ s', forL (B := B) step s l = some (.nx s') ∧ I s'
  | [], s, h, _ => ⟨s, rfl, h⟩
  | x :: xs, s, h, hs => by
    obtain ⟨s1, e1, h1⟩ := hs s x (by simp) h
    obtain ⟨s2, e2, h2⟩ := forL_inv (l := xs) I h1 (fun s y hy => hs s y (by simp [hy]))
    exact ⟨s2, by unfold forL; rw [e1]; exact e2, h2⟩
theorem forL_invN {step : S → α → Option (Out S S R)} (I : Nat → S → Prop) : ∀ {l : List α} {s : S} {i : Nat}, I i s → (∀ i s x, x ∈ l → I i s → ∃ s', step s x = some (.nx s') ∧ I (i + 1) s') → ∃ s', forL (B := B) step s l = some (.nx s') ∧ I (i + l.length) s'
  | [], s, i, h, _ => ⟨s, rfl, h⟩
  | x :: xs, s, i, h, hs => by
    obtain ⟨s1, e1, h1⟩ := hs i s x (by simp) h
    obtain ⟨s2, e2, h2⟩ := forL_invN (l := xs) I h1 (fun i s y hy => hs i s y (by simp [hy]))
    refine ⟨s2, by unfold forL; rw [e1]; exact e2, ?_⟩
    rw [List.length_cons, Nat.add_comm xs.length, ← Nat.add_assoc]; exact h2
theorem forL_fold {step : S → α → Option (Out S S R)} (f : S → α → S) (I : S → Prop) : ∀ {l : List α} {s : S}, I s → (∀ s x, x ∈ l → I s → step s x = some (.nx (f s x)) ∧ I (f s x)) → forL (B := B) step s l = some (.nx (l.foldl f s)) ∧ I (l.foldl f s)
  | [], s, h, _ => ⟨rfl, h⟩
  | x :: xs, s, h, hs => by
    obtain ⟨e1, h1⟩ := hs s x (by simp) h
    obtain ⟨e2, h2⟩ := forL_fold (l := xs) f I h1 (fun s y hy => hs s y (by simp [hy]))
    exact ⟨by unfold forL; rw [e1]; exact e2, h2⟩
theorem forL_unit {step : Unit → α → Option (Out Unit Unit R)} : ∀ {l : List α}, (∀ x, x ∈ l → step () x = some (.nx ())) → forL (B := B) step () l = some (.nx ())
  | [], _ => rfl
  | x :: xs, hs => by
    unfold forL
    rw [hs x (by simp)]
    exact forL_unit fun y hy => hs y (by simp [hy])
theorem lcL_eq {c : α → Option Bool} {e : α → Option β} {p : α → Bool} {f : α → β} : ∀ {l : List α}, (∀ x, x ∈ l → c x = some (p x)) → (∀ x, x ∈ l → p x = true → e x = some (f x)) → lcL c e l = some ((l.filter p).map f)
  | [], _, _ => rfl
  | x :: xs, hc, he => by
    have ih := lcL_eq (l := xs) (fun y hy => hc y (by simp [hy])) (fun y hy => he y (by simp [hy]))
    unfold lcL
    rw [hc x (by simp), Option.bind_some, ih]
    cases q : p x with
    | true => rw [cond_true, he x (by simp) q, List.filter_cons_of_pos q]; rfl
    | false => rw [cond_false, List.filter_cons_of_neg (by rw [q]; simp)]
theorem lcL_map {e : α → Option β} {f : α → β} {l : List α} (he : ∀ x, x ∈ l → e x = some (f x)) : lcL (fun _ => some true) e l = some (l.map f) := by
  rw [lcL_eq (p := fun _ => true) (fun _ _ => rfl) fun x hx _ => he x hx, List.filter_eq_self.mpr fun _ _ => rfl]
theorem lcL_filter {c : α → Option Bool} {p : α → Bool} {l : List α} (hc : ∀ x, x ∈ l → c x = some (p x)) : lcL c (fun x => some x) l = some (l.filter p) := by
  have h := lcL_eq (f := id) hc (fun x hx _ => rfl : ∀ x, x ∈ l → p x = true → (fun x => some x) x = some (id x))
  rw [List.map_id] at h
  exact h
/-- two comprehensions that agree item by item -/
theorem lcL_congr {c c' : α → Option Bool} {e e' : α → Option β} : ∀ {l : List α}, (∀ x, x ∈ l → c x = c' x) → (∀ x, x ∈ l → e x = e' x) → lcL c e l = lcL c' e' l
  | [], _, _ => rfl
  | x :: xs, hc, he => by
    unfold lcL
    rw [hc x (by simp), he x (by simp), lcL_congr (fun y hy => hc y (by simp [hy])) (fun y hy => he y (by simp [hy]))]
theorem forL_congr {step step' : S → α → Option (Out S S R)} : ∀ {l : List α} {s : S}, (∀ s x, x ∈ l → step s x = step' s x) → forL (B := B) step s l = forL step' s l
  | [], _, _ => rfl
  | x :: xs, s, h => by
    unfold forL
    rw [h s x (by simp)]
    congr 1
    funext o
    cases o with
    | nx s' => exact forL_congr fun s y hy => h s y (by simp [hy])
    | ct s' => exact forL_congr fun s y hy => h s y (by simp [hy])
    | bk s' => rfl
    | rt r => rfl
    | er e => rfl
end
/-! ### repr -/
class Rp (α : Type) [Enc α] where
  len : α → Nat
  sm : α → Prop
  ok : ∀ x, sm x → (enc x : PyData).showable = true ∧ (enc x : PyData).shown.length ≤ len x
theorem shown_int {i : Int} {k : Nat} (h : i.natAbs < 2 ^ k) (hk : 0 < k) : (PyData.shown (.int i)).length ≤ k + 1 := by
  have h10 : 2 ^ k ≤ 10 ^ k := Nat.pow_le_pow_left (by decide) k
  have := int_text_length_le10 (k := k) hk (Nat.lt_of_lt_of_le h h10)
  simp only [PyData.shown]
  show (Str.ofString (toString i)).length ≤ k + 1
  have e : (Str.ofString (toString i)).length = (toString i).length := PySem.ofString_length _
  omega
instance : Rp Int := ⟨fun i => i.natAbs.log2 + 3, fun i => i.natAbs.log2 < 1900, fun i h => ⟨by
  show decide (i.natAbs.log2 < 1920) = true
  exact decide_eq_true (by omega), by
  have h2 : i.natAbs < 2 ^ (i.natAbs.log2 + 1) := Nat.lt_log2_self
  have := shown_int h2 (by omega)
  show (PyData.shown (.int i)).length ≤ i.natAbs.log2 + 3
  omega⟩⟩
instance : Rp Bool := ⟨fun _ => 5, fun _ => True, fun b _ => by cases b <;> exact ⟨rfl, by decide⟩⟩
theorem rp_all {α : Type} [Enc α] [S : Rp α] : ∀ l : List α, (∀ x, x ∈ l → S.sm x) → PyData.showableAll (l.map enc) = true ∧ ((PyData.shownAll (l.map enc)).map (·.length)).sum + 2 * (PyData.shownAll (l.map enc)).length ≤ (l.map fun x => S.len x + 2).sum
  | [], _ => ⟨rfl, Nat.le_refl _⟩
  | x :: xs, h => by
    obtain ⟨h1, h2⟩ := rp_all xs fun y hy => h y (by simp [hy])
    obtain ⟨h3, h4⟩ := S.ok x (h x (by simp))
    refine ⟨?_, ?_⟩
    · show ((enc x : PyData).showable && PyData.showableAll (xs.map enc)) = true
      rw [h3, h1]; rfl
    · show ((((enc x : PyData).shown :: PyData.shownAll (xs.map enc)).map (·.length)).sum + 2 * ((enc x : PyData).shown :: PyData.shownAll (xs.map enc)).length) ≤ ((x :: xs).map fun x => S.len x + 2).sum
      simp only [List.map_cons, List.sum_cons, List.length_cons]
      omega
instance {α : Type} [Enc α] [S : Rp α] : Rp (List α) := ⟨fun l => (l.map fun x => S.len x + 2).sum + 3, fun l => ∀ x, x ∈ l → S.sm x, fun l h => by
  obtain ⟨h1, h2⟩ := rp_all l h
  refine ⟨h1, ?_⟩
  have := listText_len_le (PyData.shownAll (l.map enc))
  show (listText (PyData.shownAll (l.map enc))).length ≤ _
  omega⟩
instance {α : Type} [Enc α] [S : Rp α] : Rp (Tup α) := ⟨fun l => (l.l.map fun x => S.len x + 2).sum + 3, fun l => ∀ x, x ∈ l.l → S.sm x, fun l h => by
  obtain ⟨h1, h2⟩ := rp_all l.l h
  refine ⟨h1, ?_⟩
  have := tupleText_len_le (PyData.shownAll (l.l.map enc))
  show (tupleText (PyData.shownAll (l.l.map enc))).length ≤ _
  omega⟩
instance {α β : Type} [Enc α] [Enc β] [S : Rp α] [T : Rp β] : Rp (T2 α β) := ⟨fun t => S.len t.a + T.len t.b + 7, fun t => S.sm t.a ∧ T.sm t.b, fun t h => by
  obtain ⟨h1, h2⟩ := S.ok t.a h.1
  obtain ⟨h3, h4⟩ := T.ok t.b h.2
  refine ⟨?_, ?_⟩
  · show ((enc t.a : PyData).showable && ((enc t.b : PyData).showable && true)) = true
    rw [h1, h3]; rfl
  · have := tupleText_len_le [(enc t.a : PyData).shown, (enc t.b : PyData).shown]
    show (tupleText [(enc t.a : PyData).shown, (enc t.b : PyData).shown]).length ≤ _
    simp only [List.map_cons, List.map_nil, List.sum_cons, List.sum_nil, List.length_cons, List.length_nil] at this
    omega⟩
instance {α : Type} [Enc α] [S : Rp α] : Rp (Option α) := ⟨fun o => match o with | none => 4 | some x => S.len x, fun o => ∀ x, o = some x → S.sm x, fun o h => by
  cases o with
  | none => exact ⟨rfl, show 4 ≤ 4 from Nat.le_refl _⟩
  | some x => exact S.ok x (h x rfl)⟩
theorem repr_ok {α : Type} [Enc α] [S : Rp α] {x : α} (h : S.sm x) (h2 : S.len x ≤ 16777216) : reprD (enc x) = some (enc x : PyData).shown := by
  obtain ⟨h3, h4⟩ := S.ok x h
  exact if_pos ⟨h3, by rw [sizeLine_val]; omega⟩
theorem len_list {α : Type} [Enc α] [S : Rp α] (c : Nat) : ∀ (l : List α), (∀ x, x ∈ l → S.len x ≤ c) → Rp.len l ≤ l.length * (c + 2) + 3 := by
  intro l h
  show (l.map fun x => S.len x + 2).sum + 3 ≤ _
  have : (l.map fun x => S.len x + 2).sum ≤ l.length * (c + 2) := by
    induction l with
    | nil => simp
    | cons x xs ih =>
      have h1 := ih fun y hy => h y (by simp [hy])
      have h2 := h x (by simp)
      simp only [List.map_cons, List.sum_cons, List.length_cons, Nat.add_mul, Nat.one_mul]
      omega
  omega
/-! ### a mirror that ends well -/
def Ok {α : Type} (o : Option α) (P : α → Prop) : Prop := ∃ x, o = some x ∧ P x
section
variable {α β γ δ ε S S' B R : Type}
theorem ok_mono {o : Option α} {P Q : α → Prop} (h : Ok o P) (w : ∀ x, P x → Q x) : Ok o Q := let ⟨x, e, p⟩ := h; ⟨x, e, w x p⟩
theorem ok_some {x : α} {P : α → Prop} : Ok (some x) P ↔ P x := ⟨fun ⟨_, e, p⟩ => by cases e; exact p, fun p => ⟨x, rfl, p⟩⟩
theorem ok_none {P : α → Prop} : Ok (none : Option α) P ↔ False := ⟨fun ⟨_, e, _⟩ => (nomatch e), False.elim⟩
theorem ok_bind {o : Option α} {k : α → Option β} {P : β → Prop} : Ok (o.bind k) P ↔ Ok o fun x => Ok (k x) P :=
  ⟨fun ⟨y, e, p⟩ => let ⟨x, h1, h2⟩ := bind_get e; ⟨x, h1, y, h2, p⟩, fun ⟨x, h1, y, h2, p⟩ => ⟨y, by rw [h1]; exact h2, p⟩⟩
theorem ok_lift1 {f : α → β} {o : Option α} {P : β → Prop} : Ok (lift1 f o) P ↔ Ok o fun x => P (f x) := by unfold lift1; rw [ok_bind]; simp only [ok_some]
theorem ok_lift2 {f : α → β → γ} {a : Option α} {b : Option β} {P : γ → Prop} : Ok (lift2 f a b) P ↔ Ok a fun x => Ok b fun y => P (f x y) := by unfold lift2; simp only [ok_bind, ok_some]
theorem ok_lift3 {f : α → β → γ → δ} {a : Option α} {b : Option β} {c : Option γ} {P : δ → Prop} : Ok (lift3 f a b c) P ↔ Ok a fun x => Ok b fun y => Ok c fun z => P (f x y z) := by unfold lift3; simp only [ok_bind, ok_some]
theorem ok_lift4 {f : α → β → γ → δ → ε} {a : Option α} {b : Option β} {c : Option γ} {d : Option δ} {P : ε → Prop} : Ok (lift4 f a b c d) P ↔ Ok a fun x => Ok b fun y => Ok c fun z => Ok d fun w => P (f x y z w) := by unfold lift4; simp only [ok_bind, ok_some]
theorem ok_bind2 {f : α → β → Option γ} {a : Option α} {b : Option β} {P : γ → Prop} : Ok (bind2 f a b) P ↔ Ok a fun x => Ok b fun y => Ok (f x y) P := by unfold bind2; simp only [ok_bind]
theorem ok_app1 {m : α → Option β} {a : Option α} {P : β → Prop} : Ok (app1 m a) P ↔ Ok a fun x => Ok (m x) P := by unfold app1; simp only [ok_bind]
theorem ok_app2 {m : α → β → Option γ} {a : Option α} {b : Option β} {P : γ → Prop} : Ok (app2 m a b) P ↔ Ok a fun x => Ok b fun y => Ok (m x y) P := by unfold app2; simp only [ok_bind]
theorem ok_app3 {m : α → β → γ → Option δ} {a : Option α} {b : Option β} {c : Option γ} {P : δ → Prop} : Ok (app3 m a b c) P ↔ Ok a fun x => Ok b fun y => Ok c fun z => Ok (m x y z) P := by unfold app3; simp only [ok_bind]
theorem ok_app4 {m : α → β → γ → δ → Option ε} {a : Option α} {b : Option β} {c : Option γ} {d : Option δ} {P : ε → Prop} : Ok (app4 m a b c d) P ↔ Ok a fun x => Ok b fun y => Ok c fun z => Ok d fun w => Ok (m x y z w) P := by unfold app4; simp only [ok_bind]
theorem ok_bif {t : Bool} {a b : Option α} {P : α → Prop} : Ok (bif t then a else b) P ↔ (t = true → Ok a P) ∧ (t = false → Ok b P) := by cases t <;> simp
theorem ok_andG {a b : Option Bool} {P : Bool → Prop} : Ok (andG a b) P ↔ Ok a fun x => (x = true → Ok b P) ∧ (x = false → P false) := by unfold andG; simp only [ok_bind, ok_bif, ok_some]
theorem ok_orG {a b : Option Bool} {P : Bool → Prop} : Ok (orG a b) P ↔ Ok a fun x => (x = true → P true) ∧ (x = false → Ok b P) := by unfold orG; simp only [ok_bind, ok_bif, ok_some]
theorem ok_chain {f g : Int → Int → Bool} {a b c : Option Int} {P : Bool → Prop} : Ok (chainG f g a b c) P ↔ Ok a fun x => Ok b fun y => (f x y = true → Ok c fun z => P (g y z)) ∧ (f x y = false → P false) := by unfold chainG; simp only [ok_bind, ok_bif, ok_some]
/-- what follows a block -/
def BO (k : S → Option (Out S' B R)) (P : Out S' B R → Prop) : Out S B R → Prop
  | .nx s => Ok (k s) P
  | .bk b => P (.bk b)
  | .ct b => P (.ct b)
  | .rt r => P (.rt r)
  | .er e => P (.er e)
theorem ok_bindOut {o : Option (Out S B R)} {k : S → Option (Out S' B R)} {P : Out S' B R → Prop} : Ok (bindOut o k) P ↔ Ok o (BO k P) := by
  unfold bindOut
  rw [ok_bind]
  constructor
  · rintro ⟨x, h, q⟩
    refine ⟨x, h, ?_⟩
    cases x with
    | nx s => exact q
    | bk s => exact (ok_some (x := Out.bk s) (P := P)).mp q
    | ct s => exact (ok_some (x := Out.ct s) (P := P)).mp q
    | rt s => exact (ok_some (x := Out.rt s) (P := P)).mp q
    | er s => exact (ok_some (x := Out.er s) (P := P)).mp q
  · rintro ⟨x, h, q⟩
    refine ⟨x, h, ?_⟩
    cases x with
    | nx s => exact q
    | bk s => exact ok_some.mpr q
    | ct s => exact ok_some.mpr q
    | rt s => exact ok_some.mpr q
    | er s => exact ok_some.mpr q
theorem bo_nx {k : S → Option (Out S' B R)} {P : Out S' B R → Prop} {s : S} : BO k P (.nx s) ↔ Ok (k s) P := Iff.rfl
theorem bo_rt {k : S → Option (Out S' B R)} {P : Out S' B R → Prop} {s : R} : BO k P (.rt s : Out S B R) ↔ P (.rt s) := Iff.rfl
theorem bo_er {k : S → Option (Out S' B R)} {P : Out S' B R → Prop} {s : Er} : BO k P (.er s : Out S B R) ↔ P (.er s) := Iff.rfl
theorem bo_bk {k : S → Option (Out S' B R)} {P : Out S' B R → Prop} {s : B} : BO k P (.bk s : Out S B R) ↔ P (.bk s) := Iff.rfl
theorem bo_ct {k : S → Option (Out S' B R)} {P : Out S' B R → Prop} {s : B} : BO k P (.ct s : Out S B R) ↔ P (.ct s) := Iff.rfl
def FO (d : Option R) (P : R → Prop) : Out Unit Unit R → Prop
  | .nx _ => Ok d P
  | .rt r => P r
  | _ => False
theorem ok_finO {d : Option R} {o : Option (Out Unit Unit R)} {P : R → Prop} : Ok (finO d o) P ↔ Ok o (FO d P) := by
  unfold finO
  rw [ok_bind]
  constructor
  · rintro ⟨x, h, q⟩
    refine ⟨x, h, ?_⟩
    cases x with
    | nx s => exact q
    | bk s => exact (ok_none (P := P)).mp q
    | ct s => exact (ok_none (P := P)).mp q
    | er s => exact (ok_none (P := P)).mp q
    | rt s => exact (ok_some (x := s) (P := P)).mp q
  · rintro ⟨x, h, q⟩
    refine ⟨x, h, ?_⟩
    cases x with
    | nx s => exact q
    | bk s => exact ok_none.mpr q
    | ct s => exact ok_none.mpr q
    | er s => exact ok_none.mpr q
    | rt s => exact ok_some.mpr q
theorem fo_nx {d : Option R} {P : R → Prop} {s : Unit} : FO d P (.nx s) ↔ Ok d P := Iff.rfl
theorem fo_rt {d : Option R} {P : R → Prop} {s : R} : FO d P (.rt s) ↔ P s := Iff.rfl
/-- the block falls through with I -/
def Nx (I : S → Prop) : Out S B R → Prop
  | .nx s => I s
  | _ => False
theorem nx_nx {I : S → Prop} {s : S} : Nx I (.nx s : Out S B R) ↔ I s := Iff.rfl
theorem nx_rt {I : S → Prop} {s : R} : Nx I (.rt s : Out S B R) ↔ False := Iff.rfl
theorem ok_for {step : S → α → Option (Out S S R)} {P : Out S B R → Prop} (I : Nat → S → Prop) {l : List α} {s : S} (h0 : I 0 s) (hs : ∀ i s x, l[i]? = some x → I i s → Ok (step s x) (Nx (I (i + 1)))) (hk : ∀ s, I l.length s → P (.nx s)) : Ok (forL step s l) P := by
  have key : ∀ (m : List α) (i : Nat) (s : S), l.drop i = m → I i s → ∃ s', forL (B := B) step s m = some (.nx s') ∧ I (i + m.length) s' := by
    intro m
    induction m with
    | nil => exact fun i s _ h => ⟨s, rfl, h⟩
    | cons x m ih =>
      intro i s hm h
      have hx : l[i]? = some x := by
        rw [← List.head?_drop, hm]; rfl
      obtain ⟨o, e1, h1⟩ := hs i s x hx h
      cases o with
      | nx s1 =>
        obtain ⟨s2, e2, h2⟩ := ih (i + 1) s1 (by rw [← List.tail_drop, hm]; rfl) h1
        exact ⟨s2, by unfold forL; rw [e1]; exact e2, by rw [List.length_cons, Nat.add_comm m.length, ← Nat.add_assoc]; exact h2⟩
      | bk b => exact False.elim h1
      | ct b => exact False.elim h1
      | rt b => exact False.elim h1
      | er b => exact False.elim h1
  obtain ⟨s', e, h⟩ := key l 0 s rfl h0
  exact ⟨_, e, hk s' (by rw [Nat.zero_add] at h; exact h)⟩
theorem ok_while {c : S → Option Bool} {b : S → Option (Out S S R)} {P : Out S B R → Prop} (I : S → Prop) (μ : S → Nat) (hs : ∀ s, I s → Ok (c s) fun t => (t = true → Ok (b s) (Nx fun s' => I s' ∧ μ s' < μ s)) ∧ (t = false → P (.nx s))) :
    ∀ (n : Nat) (s : S), I s → μ s < n → Ok (whileF c b n s) P
  | 0, _, _, h => absurd h (Nat.not_lt_zero _)
  | n + 1, s, hI, hn => by
    unfold whileF
    rw [ok_bind]
    refine ok_mono (hs s hI) fun t ⟨h1, h2⟩ => ?_
    rw [ok_bif]
    refine ⟨fun e => ?_, fun e => ok_some.mpr (h2 e)⟩
    rw [ok_bind]
    refine ok_mono (h1 e) fun o ho => ?_
    cases o with
    | nx s' => exact ok_while I μ hs n s' ho.1 (by have := ho.2; omega)
    | bk b => exact False.elim ho
    | ct b => exact False.elim ho
    | rt b => exact False.elim ho
    | er b => exact False.elim ho
theorem ok_lc {c : α → Option Bool} {e : α → Option β} {P : List β → Prop} (p : α → Bool) (f : α → β) {l : List α} (hc : ∀ x, x ∈ l → c x = some (p x)) (he : ∀ x, x ∈ l → p x = true → e x = some (f x)) (h : P ((l.filter p).map f)) : Ok (lcL c e l) P := ⟨_, lcL_eq hc he, h⟩
theorem ok_map {e : α → Option β} {P : List β → Prop} (f : α → β) {l : List α} (he : ∀ x, x ∈ l → e x = some (f x)) (h : P (l.map f)) : Ok (lcL (fun _ => some true) e l) P := ⟨_, lcL_map he, h⟩
theorem ok_filter {c : α → Option Bool} {P : List α → Prop} (p : α → Bool) {l : List α} (hc : ∀ x, x ∈ l → c x = some (p x)) (h : P (l.filter p)) : Ok (lcL c (fun x => some x) l) P := ⟨_, lcL_filter hc, h⟩
theorem ok_iff {o : Option α} {v : α} : o = some v ↔ Ok o fun x => x = v := ⟨fun h => ⟨v, h, rfl⟩, fun ⟨_, e, h⟩ => h ▸ e⟩
theorem ok_of {o : Option α} {v : α} {P : α → Prop} (h : o = some v) (p : P v) : Ok o P := ⟨v, h, p⟩
/-- every item has a good value: then the list -/
theorem ok_all {e : α → Option β} {P : List β → Prop} (Q : α → β → Prop) : ∀ {l : List α}, (∀ x, x ∈ l → Ok (e x) (Q x)) → (∀ m : List β, m.length = l.length → (∀ (i : Nat) x y, l[i]? = some x → m[i]? = some y → Q x y) → P m) → Ok (lcL (fun _ => some true) e l) P := by
  intro l
  induction l generalizing P with
  | nil => exact fun _ h => ⟨[], rfl, h [] rfl fun i x y h => by simp at h⟩
  | cons x xs ih =>
    intro he h
    obtain ⟨y, e1, q1⟩ := he x (by simp)
    obtain ⟨m, e2, p⟩ := ih (P := fun m => P (y :: m)) (fun z hz => he z (by simp [hz])) fun m hm hq => h (y :: m) (by simp [hm]) fun i a b ha hb => by
      cases i with
      | zero => simp at ha hb; subst ha hb; exact q1
      | succ i => exact hq i a b (by simpa using ha) (by simpa using hb)
    refine ⟨y :: m, ?_, p⟩
    unfold lcL
    rw [Option.bind_some, cond_true, e1, Option.bind_some, e2]; rfl
def MulOk (i j : Int) : Prop := i.natAbs.log2 + j.natAbs.log2 < 1000000
theorem ok_mul {i j : Int} {P : Int → Prop} : Ok (mulG i j) P ↔ MulOk i j ∧ P (i * j) := by
  unfold mulG MulOk
  split <;> rename_i h
  · rw [ok_some]; simp [h]
  · rw [ok_none]; simp [h]
theorem mulOk {i j : Int} (hi : i.natAbs < 2 ^ 64) (hj : j.natAbs < 2 ^ 64) : MulOk i j := by
  have h1 := log2_lt64 hi
  have h2 := log2_lt64 hj
  unfold MulOk; omega
theorem ok_mod {i j : Int} {P : Int → Prop} : Ok (modG i j) P ↔ 0 < j ∧ P (i % j) := by
  unfold modG
  split <;> rename_i h
  · rw [ok_some]; simp [h]
  · rw [ok_none]; simp [h]
def DivOk (j : Int) : Prop := 0 < j ∧ j.natAbs.log2 < 9000
theorem divOk {j : Int} (h : 0 < j) (h2 : j.natAbs < 2 ^ 64) : DivOk j := ⟨h, by have := log2_lt64 h2; omega⟩
theorem ok_div {i j : Int} {P : Int → Prop} : Ok (divG i j) P ↔ DivOk j ∧ P (i / j) := by
  unfold divG DivOk
  split <;> rename_i h
  · rw [ok_some]; simp [h]
  · rw [ok_none]; simp [h]
theorem ok_appG {l : List α} {x : α} {P : List α → Prop} : Ok (appG l x) P ↔ l.length < 16777216 ∧ P (l ++ [x]) := by
  unfold appG
  rw [sizeLine_val]
  split <;> rename_i h
  · rw [ok_some]; simp [h]
  · rw [ok_none]; simp [h]
theorem ok_szG {l : List α} {P : List α → Prop} : Ok (szG l) P ↔ l.length ≤ 16777216 ∧ P l := by
  unfold szG
  rw [sizeLine_val]
  split <;> rename_i h
  · rw [ok_some]; simp [h]
  · rw [ok_none]; simp [h]
theorem ok_catG {l m : List α} {P : List α → Prop} : Ok (catG l m) P ↔ l.length + m.length ≤ 16777216 ∧ P (l ++ m) := by
  unfold catG
  rw [sizeLine_val]
  split <;> rename_i h
  · rw [ok_some]; simp [h]
  · rw [ok_none]; simp [h]
theorem ok_rng1 {j : Int} {P : List Int → Prop} (h : 0 ≤ j) (h2 : j ≤ 16777216) (p : P (rngL 0 j.toNat)) : Ok (rng1 j) P := ⟨_, rng1_of h h2, p⟩
theorem ok_atI {l : List α} {i : Int} {P : α → Prop} (h : 0 ≤ i) (h2 : i < l.length) (p : ∀ x, l[i.toNat]? = some x → x ∈ l → P x) : Ok (atI l i) P := by
  obtain ⟨x, h1, h3, h4⟩ := atI_nat' h h2
  exact ⟨x, h1, p x h3 h4⟩
end

section
variable {α β : Type}
theorem ok_allP {e : α → Option β} {P : List β → Prop} {l : List α} (Q : β → Prop) (he : ∀ x, x ∈ l → Ok (e x) Q) (h : ∀ m : List β, m.length = l.length → (∀ y, y ∈ m → Q y) → P m) : Ok (lcL (fun _ => some true) e l) P :=
  ok_all (fun _ y => Q y) he fun m hm hq => h m hm fun y hy => by
    obtain ⟨i, hi, e⟩ := List.mem_iff_getElem.mp hy
    exact hq i _ y (List.getElem?_eq_getElem (by omega)) (by rw [List.getElem?_eq_getElem hi, e])
theorem sum_bound {a b : Int} : ∀ {l : List Int}, (∀ w, w ∈ l → a ≤ w ∧ w ≤ b) → a * l.length ≤ l.sum ∧ l.sum ≤ b * l.length
  | [], _ => by simp
  | x :: xs, h => by
    obtain ⟨h1, h2⟩ := sum_bound (l := xs) fun w hw => h w (by simp [hw])
    obtain ⟨h3, h4⟩ := h x (by simp)
    simp only [List.sum_cons, List.length_cons, Int.natCast_add, Int.mul_add, Int.natCast_one, Int.mul_one]
    omega
theorem enumL_eq {l : List Int} : enumL l = (rngL 0 l.length).map fun k => T2.mk k (l.getD k.toNat 0) := by
  apply List.ext_getElem?
  intro i
  unfold enumL rngL
  rw [List.getElem?_zipWith, List.map_map, List.getElem?_map]
  by_cases c : i < l.length
  · rw [List.getElem?_range c, List.getElem?_eq_getElem c]
    simp [List.getElem?_eq_getElem c]
  · rw [List.getElem?_eq_none (by rw [List.length_range]; omega)]
    rfl
theorem maxL_ok {l : List Int} {P : Int → Prop} (h : l ≠ []) (hp : ∀ m, m ∈ l → (∀ x, x ∈ l → x ≤ m) → P m) : Ok (maxL l) P := by
  cases l with
  | nil => exact absurd rfl h
  | cons x xs =>
    have key : ∀ (ys : List Int) (m : Int), (ys.foldl (fun m y => if y > m then y else m) m = m ∨ ys.foldl (fun m y => if y > m then y else m) m ∈ ys) ∧ m ≤ ys.foldl (fun m y => if y > m then y else m) m ∧ ∀ y, y ∈ ys → y ≤ ys.foldl (fun m y => if y > m then y else m) m := by
      intro ys
      induction ys with
      | nil => exact fun m => ⟨.inl rfl, Int.le_refl _, fun y h => by simp at h⟩
      | cons y ys ih =>
        intro m
        obtain ⟨h1, h2, h3⟩ := ih (if y > m then y else m)
        rw [List.foldl_cons]
        refine ⟨?_, ?_, ?_⟩
        · rcases h1 with h1 | h1
          · rw [h1]
            split
            · exact .inr (by simp)
            · exact .inl rfl
          · exact .inr (by simp [h1])
        · have : m ≤ (if y > m then y else m) := by split <;> omega
          omega
        · intro z hz
          rw [List.mem_cons] at hz
          rcases hz with hz | hz
          · subst hz
            have : z ≤ (if z > m then z else m) := by split <;> omega
            omega
          · exact h3 z hz
    obtain ⟨h1, h2, h3⟩ := key xs x
    refine ⟨_, rfl, hp _ ?_ ?_⟩
    · rcases h1 with h1 | h1
      · rw [h1]; simp
      · simp [h1]
    · intro z hz
      rw [List.mem_cons] at hz
      rcases hz with hz | hz
      · subst hz; exact h2
      · exact h3 z hz
theorem ok_sortD [Enc α] [S : SortT α] {l : List α} {P : List α → Prop} (h : S.ok l = true) (h2 : l.length ≤ 16777216) (p : P (l.mergeSort leD)) : Ok (sortD l) P := ⟨_, if_pos ⟨h, by rw [sizeLine_val]; exact h2⟩, p⟩
theorem filter_sub [DecidableEq α] {l t : List α} (hn : l.Nodup) (h : t.Sublist l) : l.filter (fun x => decide (x ∈ t)) = t := by
  induction h with
  | slnil => rfl
  | @cons t l x h ih =>
    have hx := (List.nodup_cons.mp hn).1
    rw [List.filter_cons_of_neg (by simp; exact fun c => hx (h.subset c))]
    exact ih (List.nodup_cons.mp hn).2
  | @cons_cons t l x h ih =>
    have hx := (List.nodup_cons.mp hn).1
    rw [List.filter_cons_of_pos (by simp)]
    congr 1
    refine Eq.trans ?_ (ih (List.nodup_cons.mp hn).2)
    apply List.filter_congr
    intro y hy
    have : y ≠ x := fun c => hx (c ▸ hy)
    simp [this]
theorem rng_nodup {lo : Int} {n : Nat} : (rngL lo n).Nodup := by
  unfold rngL
  exact List.Pairwise.map _ (fun a b h c => h (by omega)) List.nodup_range
end
end Lay

set_option Elab.async false
set_option linter.all false
set_option maxRecDepth 100000
/-! LayB: a list comprehension with two clauses. -/
namespace Lay
open PySem PySem.Spec PyProof.Rows L2
open Lay.Enc (enc)
def lc2L {α β γ : Type} (oc : α → Option Bool) (oi : α → Option (List β)) (od : α → β → Option Bool) (oe : α → β → Option γ) : List α → Option (List γ)
  | [] => some []
  | x :: xs => (oc x).bind fun t => bif t then (oi x).bind fun m => (lcL (od x) (oe x) m).bind fun r => (lc2L oc oi od oe xs).bind fun s => some (r ++ s) else lc2L oc oi od oe xs
theorem lc2L_at {α β γ : Type} {oc : α → Option Bool} {oi : α → Option (List β)} {od : α → β → Option Bool} {oe : α → β → Option γ} {l : List α} {i : Nat} {x : α} {r : List γ} (h : l[i]? = some x) (h2 : lc2L oc oi od oe (l.drop i) = some r) :
    ∃ t, oc x = some t ∧ ((t = true ∧ ∃ m r1 r', oi x = some m ∧ lcL (od x) (oe x) m = some r1 ∧ r = r1 ++ r' ∧ lc2L oc oi od oe (l.drop (i + 1)) = some r') ∨ (t = false ∧ lc2L oc oi od oe (l.drop (i + 1)) = some r)) := by
  have hl : i < l.length := by
    by_cases c : i < l.length
    · exact c
    · rw [List.getElem?_eq_none (by omega)] at h; cases h
  have hx : l[i] = x := by rw [List.getElem?_eq_getElem hl] at h; exact Option.some.inj h
  rw [List.drop_eq_getElem_cons hl, hx] at h2
  unfold lc2L at h2
  obtain ⟨t, h3, h4⟩ := bind_get h2
  refine ⟨t, h3, ?_⟩
  cases t with
  | true =>
    rw [cond_true] at h4
    obtain ⟨m, h5, h4⟩ := bind_get h4
    obtain ⟨r1, h6, h4⟩ := bind_get h4
    obtain ⟨r', h7, h4⟩ := bind_get h4
    cases h4
    exact .inl ⟨rfl, m, r1, r', h5, h6, rfl, h7⟩
  | false => exact .inr ⟨rfl, h4⟩
/-- one item of an iterator, as it comes -/
theorem item_of {K : PySem.W.Frag} {F H4 H3 I1 I3 : Hp} {G : List Sl} {σ : L2.St} {ps : Nat → Option Addr} {x : V} {d : PyData} {D : Addr} {xs : List V} (R3 : RS K F G σ H3 I3 ps) (g : Same I1 I3) (n3 : I3 D = none) (hD3 : H3 D = some (.lst xs))
    (y4 : (H4 = H3 ∧ Dq I1 x d) ∨ ∃ T o, H3 T = none ∧ H4 = upd H3 T o ∧ Dq (upd I1 T o) x d) : ∃ I4, Grow F I3 I4 ∧ RS K F G σ H4 I4 ps ∧ Dq I4 x d ∧ I4 D = none ∧ H4 D = some (.lst xs) := by
  rcases y4 with ⟨e, d⟩ | ⟨T, o, n, e, d⟩
  · subst e; exact ⟨I3, Grow.refl, R3, Dq_mono g _ _ d, n3, hD3⟩
  · subst e
    have nT : D ≠ T := ne_of_none hD3 n
    refine ⟨upd I3 T o, R3.grow_new n, R3.new n, Dq_mono (fun b u q => ?_) _ _ d, by rw [upd_ne nT]; exact n3, by rw [upd_ne nT]; exact hD3⟩
    by_cases c : b = T
    · subst c; rw [upd_same] at q ⊢; exact q
    · rw [upd_ne c] at q ⊢; exact g _ _ q
section
variable {K : PySem.W.Frag} {F I' I'' H' : Hp} {G : List Sl} {σ : L2.St} {ps : Nat → Option Addr} {D : Addr} {xs : List V}
/-- within a turn the new list stands for others -/
theorem lc_in (hDF : F D = none) (hDp : ∀ i, ps i ≠ some D) (r : RS K F G σ H' I' ps) (n : I' D = none) (h : H' D = some (.lst xs)) : RS K (upd F D (.lst xs)) G σ H' I' ps := r.frame (fun b o z => by
  by_cases c : b = D
  · subst c; rw [upd_same] at z; cases z; exact h
  · rw [upd_ne c] at z; exact r.sf _ _ z) (fun i a ha => by rw [upd_ne (fun c : a = D => hDp i (by rw [← c]; exact ha))]; exact r.fo i a ha) (upd_iff n) (fix_in hDF)
theorem lc_out (hDF : F D = none) (r : RS K (upd F D (.lst xs)) G σ H' I' ps) (n : I' D = none) (fo : ∀ i a, ps i = some a → F a = none) : RS K F G σ H' I' ps := r.frame ((same_upd hDF).trans r.sf) fo (fun a z => (upd_iff n a z).symm) (fix_out (fun c => c))
theorem lc_gr (hDF : F D = none) (g : Grow (upd F D (.lst xs)) I' I'') : Grow F I' I'' := ⟨g.same, fun a h => (g.out a h).imp_right (same_upd hDF).free⟩
theorem lc_keep (g : Grow (upd F D (.lst xs)) I' I'') (n : I' D = none) : I'' D = none := by
  cases z : I'' D with
  | none => rfl
  | some o =>
    rcases g.out D (by rw [z]; simp) with h | h
    · exact absurd n h
    · rw [upd_same] at h; cases h
theorem own_through {js vs : List Nat} {G' : List Sl} (hj : ∀ j ∈ js, j ∈ vs) (hf : ownFree G vs = true) (o5 : ∀ i, i ∉ js → slAt G' i = slAt (wipeG G vs) i) : ∀ (j : Nat) ds, slAt G j = .own ds → slAt G' j = .own ds ∧ j < G'.length := fun j ds h => by
  have nv : j ∉ vs := fun z => by
    have q := List.all_eq_true.mp hf j z
    rw [h] at q; cases q
  have e : slAt G' j = .own ds := by rw [o5 j (fun z => nv (hj j z)), wipeG_out nv]; exact h
  refine ⟨e, ?_⟩
  by_cases c : j < G'.length
  · exact c
  · rw [slAt_out (by omega)] at e; cases e
end
section
variable {X : Cx} {G : List Sl} {N : List Str} {sc : Scope} {fs : Option Scope} {k : Nat} {α β γ : Type} [Enc α] [Enc β] [Enc γ] {elt tg iter tg1 iter1 : Expr} {ifs ifs1 : List Expr} {scope : Scope} {pos : Pos} {g g1 : L2.TG} {js js1 : List Nat} {f : α → List Sl → List Sl} {f1 : β → List Sl → List Sl}
theorem lc2_mk {own : List (Str × Nat)} {vs1 : List Nat} {ol : Option (List α)} {oc : α → Option Bool} {oi : α → Option (List β)} {od : α → β → Option Bool} {oe : α → β → Option γ} (C : Ctx X N sc fs k) (hi : IT X G tg iter ol) (ok : blkC N sc scope own = true)
    (hg : ∀ s H Ca cl fp, PG (X.blk s H scope (compEnvC scope cl Ca X.env) fp) tg g) (ht : Tgt X.K g js f) (hj : ∀ j ∈ js, j ∈ own.map (·.2)) (hf : ownFree G (own.map (·.2)) = true)
    (hc : ∀ s H Ca cl fp x, ETs (X.blk s H scope (compEnvC scope cl Ca X.env) fp) (f x (wipeG G (own.map (·.2)))) ifs (oc x))
    (hi1 : ∀ s H Ca cl fp x, IT (X.blk s H scope (compEnvC scope cl Ca X.env) fp) (f x (wipeG G (own.map (·.2)))) tg1 iter1 (oi x))
    (hg1 : ∀ s H Ca cl fp, PG (X.blk s H scope (compEnvC scope cl Ca X.env) fp) tg1 g1) (ht1 : Tgt X.K g1 js1 f1) (hj1 : ∀ j ∈ js1, j ∈ vs1) (hv1 : ∀ j ∈ vs1, j ∈ own.map (·.2)) (hf1 : ∀ x, ownFree (f x (wipeG G (own.map (·.2)))) vs1 = true)
    (hd : ∀ s H Ca cl fp x y, ETs (X.blk s H scope (compEnvC scope cl Ca X.env) fp) (f1 y (wipeG (f x (wipeG G (own.map (·.2)))) vs1)) ifs1 (od x y))
    (he : ∀ s H Ca cl fp x y, ED (X.blk s H scope (compEnvC scope cl Ca X.env) fp) (f1 y (wipeG (f x (wipeG G (own.map (·.2)))) vs1)) elt (oe x y))
    (hs : ∀ x, foldedSetIterable iter X.env x = pure x := by intro _; rfl) (hs1 : ∀ env x, foldedSetIterable iter1 env x = pure x := by intro _ _; rfl) :
    LC X G (.ListComp elt [⟨tg, iter, ifs, 0⟩, ⟨tg1, iter1, ifs1, 0⟩] scope pos) (ol.bind fun l => (lc2L oc oi od oe l).bind szG) := fun r hr => by
  obtain ⟨l, h1, h0⟩ := bind_get hr
  obtain ⟨r0, h2, h3⟩ := bind_get h0
  obtain ⟨hsz, e0⟩ := ite_get h3
  subst e0
  obtain ⟨vs, hvs⟩ : ∃ vs, own.map (·.2) = vs := ⟨_, rfl⟩
  rw [hvs] at hj hf
  simp only [hvs] at hc he hi1 hd hv1 hf1
  let te : TE := fun σ H Q => ∃ x y z, oe x y = some z ∧ tD X.K (f1 y (wipeG (f x (wipeG G vs)) vs1)) (enc z) σ H Q
  let tt : TT := fun σ H Q => ∃ x b, oc x = some b ∧ tB X.K (f x (wipeG G vs)) b σ H Q
  let tt1 : TT := fun σ H Q => ∃ x y b, od x y = some b ∧ tB X.K (f1 y (wipeG (f x (wipeG G vs)) vs1)) b σ H Q
  let wi1 : TI := fun σ H R => ∃ x m, oi x = some m ∧ tI X.K (f x (wipeG G vs)) (m.map enc) σ H R
  have pe : ∀ s H Ca cl fp, PE (X.blk s H scope (compEnvC scope cl Ca X.env) fp) elt te := fun s H Ca cl fp => ⟨fun pins st σ H' Q I ⟨x, y, z, e, q⟩ => (he s H Ca cl fp x y z e).run pins st σ H' Q I q⟩
  have pt : ∀ s H Ca cl fp, PTs (X.blk s H scope (compEnvC scope cl Ca X.env) fp) ifs tt := fun s H Ca cl fp => ⟨fun pins st σ H' Q I ⟨x, b, e, q⟩ => (hc s H Ca cl fp x b e).run pins st σ H' Q I q⟩
  have pt1 : ∀ s H Ca cl fp, PTs (X.blk s H scope (compEnvC scope cl Ca X.env) fp) ifs1 tt1 := fun s H Ca cl fp => ⟨fun pins st σ H' Q I ⟨x, y, b, e, q⟩ => (hd s H Ca cl fp x y b e).run pins st σ H' Q I q⟩
  have pi1 : ∀ s H Ca cl fp, PI (X.blk s H scope (compEnvC scope cl Ca X.env) fp) tg1 iter1 wi1 := fun s H Ca cl fp => ⟨fun pins st σ H' Q I ⟨x, m, e, q⟩ => (hi1 s H Ca cl fp x m e).run pins st σ H' Q I q⟩
  have nd : X.N.Nodup := by rw [C.n]; exact C.nd
  have bk : BlkOk X.N X.env.scope scope own := by rw [C.n, C.s]; exact blkOk_by ok
  have hv : ∀ j ∈ vs1, j ∈ own.map (·.2) := by rw [hvs]; exact hv1
  refine ⟨_, pe_lc2 C.calm nd (hi l h1) bk hv hg pt pi1 hg1 pt1 pe hs hs1, fun i y py sp a b c => ps_setLc2 C.calm nd a b c (hi l h1) bk hv hg pt pi1 hg1 pt1 pe hs hs1, fun σ H Q ⟨F, I, ps, R, q⟩ => ?_⟩
  rw [hvs]
  refine ⟨F, I, ps, R, fun J H1 I1 gr1 R1 wl ll D hD => ?_⟩
  have hD1 : I1 D = none := R1.si.free hD
  have hDF : F D = none := R1.sf.free hD
  have hDp : ∀ i, ps i ≠ some D := fun i c => by obtain ⟨_, _, xs, z⟩ := R1.own_at c; rw [hD] at z; cases z
  refine ⟨fun i m H => m = l.length - i ∧ i ≤ l.length ∧ ∃ I' xs done rst, Grow F I1 I' ∧ RS X.K F G σ H I' ps ∧ I' D = none ∧ H D = some (.lst xs) ∧ DqAll I' xs (done.map enc) ∧ lc2L oc oi od oe (l.drop i) = some rst ∧ r0 = done ++ rst,
    ⟨_, rfl, Nat.zero_le _, I1, [], [], r0, Grow.refl, R1.newOwn hD, hD1, upd_same, .nil, h2, rfl⟩, ?_⟩
  rintro i m H3 ⟨rfl, hil, I3, xs, done, rst, gr3, R3, n3, hD3, d3, hr3, er⟩
  have sI : Same I1 H3 := gr3.same.trans R3.si
  by_cases hlt : i < l.length
  · have hx : l[i]? = some l[i] := List.getElem?_eq_getElem hlt
    obtain ⟨t, ht1', ht2⟩ := lc2L_at hx hr3
    obtain ⟨go, yl⟩ := wl.go i (enc l[i]) H3 sI (by rw [List.getElem?_map, hx]; rfl)
    refine .inr ⟨go, fun H' => ∃ I' xs done rst, Grow F I1 I' ∧ RS X.K F G σ H' I' ps ∧ I' D = none ∧ H' D = some (.lst xs) ∧ DqAll I' xs (done.map enc) ∧ lc2L oc oi od oe (l.drop (i + 1)) = some rst ∧ r0 = done ++ rst,
      fun H' hN => ⟨l.length - (i + 1), by omega, rfl, hlt, hN⟩, fun x H4 y4 => ?_⟩
    generalize l[i] = x0 at *
    obtain ⟨I4, g4, R4, d4, n4, hD4⟩ := item_of R3 gr3.same n3 hD3 (yl x H4 y4)
    have hpv := ownFree_ps R4 hf
    have Rw := (lc_in hDF hDp R4 n4 hD4).wiped vs hpv
    refine ht.go x0 _ _ _ H4 I4 ps x _ Rw (fun j h => hpv j (hj j h)) d4 fun σ5 R5 w5 o5 => ⟨(w5 vs hj).trans wipe_wipe, ?_⟩
    have hG := own_through hj hf o5
    refine ⟨x0, t, ht1', upd F D (.lst xs), I4, ps, R5, fun H6 I6 g6 R6 => ?_⟩
    have hD6 : H6 D = some (.lst xs) := R6.sf _ _ upd_same
    rcases ht2 with ⟨rfl, m, r1, r', hm, hr1, er2, hr4⟩ | ⟨rfl, hr4⟩
    · refine iteT ⟨x0, m, hm, upd F D (.lst xs), I6, ps, R6, fun J1 H7 I7 g7 R7 wl1 ll1 => ?_⟩
      have hD7 : H7 D = some (.lst xs) := R7.sf _ _ upd_same
      have n7 : I7 D = none := lc_keep (g6.trans g7) n4
      have R7' := lc_out hDF R7 n7 R4.fo
      have g47 := lc_gr hDF (g6.trans g7)
      refine ⟨fun j k H => k = m.length - j ∧ j ≤ m.length ∧ ∃ I' xs done rst, Grow F I7 I' ∧ RS X.K F (f x0 (wipeG G vs)) σ5 H I' ps ∧ I' D = none ∧ H D = some (.lst xs) ∧ DqAll I' xs (done.map enc) ∧ lcL (od x0) (oe x0) (m.drop j) = some rst ∧ r0 = done ++ rst ++ r',
        ⟨_, rfl, Nat.zero_le _, I7, xs, done, r1, Grow.refl, R7', n7, hD7, DqAll_mono (g4.trans g47).same _ _ d3, hr1, by rw [er, er2, List.append_assoc]⟩, ?_⟩
      rintro j k' H8 ⟨rfl, hjl, I8, ys, done8, rst8, gr8, R8, n8, hD8, d8, hr8, er8⟩
      have sI8 : Same I7 H8 := gr8.same.trans R8.si
      by_cases hlt8 : j < m.length
      · have hy : m[j]? = some m[j] := List.getElem?_eq_getElem hlt8
        obtain ⟨b, hb1, hb2⟩ := lcL_at hy hr8
        obtain ⟨go8, yl8⟩ := wl1.go j (enc m[j]) H8 sI8 (by rw [List.getElem?_map, hy]; rfl)
        refine .inr ⟨go8, fun H' => ∃ I' xs done rst, Grow F I7 I' ∧ RS X.K F (f x0 (wipeG G vs)) σ5 H' I' ps ∧ I' D = none ∧ H' D = some (.lst xs) ∧ DqAll I' xs (done.map enc) ∧ lcL (od x0) (oe x0) (m.drop (j + 1)) = some rst ∧ r0 = done ++ rst ++ r',
          fun H' hN => ⟨m.length - (j + 1), by omega, rfl, hlt8, hN⟩, fun y H9 y9 => ?_⟩
        generalize m[j] = y0 at *
        obtain ⟨I9, g9, R9, d9, n9, hD9⟩ := item_of R8 gr8.same n8 hD8 (yl8 y H9 y9)
        have hpv9 := ownFree_ps R9 (hf1 x0)
        have Rw9 := (lc_in hDF hDp R9 n9 hD9).wiped vs1 hpv9
        refine ht1.go y0 _ _ _ H9 I9 ps y _ Rw9 (fun j h => hpv9 j (hj1 j h)) d9 fun σA RA wA oA => ⟨(wA vs1 hj1).trans wipe_wipe, ?_⟩
        have hGA := own_through hj1 (hf1 x0) oA
        refine ⟨x0, y0, b, hb1, upd F D (.lst ys), I9, ps, RA, fun HB IB gB RB => ?_⟩
        rcases hb2 with ⟨rfl, z, r8', hz, er9, hr9⟩ | ⟨rfl, hr9⟩
        · refine iteT ⟨x0, y0, z, hz, upd F D (.lst ys), IB, ps, RB, fun v HC IC gC RC dC => ?_⟩
          have g9C := lc_gr hDF (gB.trans gC)
          have hDC : HC D = some (.lst ys) := RC.sf _ _ upd_same
          have nC : IC D = none := lc_keep (gB.trans gC) n9
          have R10 := (R9.back RC (same_upd hDF) (gB.trans gC).same hGA).wr (o := .lst (ys ++ [v])) nC hDF hDp
          have ly : ys.length = done8.length := by rw [d8.len, List.length_map]
          have lr : r0.length = done8.length + 1 + r8'.length + r'.length := by rw [er8, er9]; simp [List.length_append]; omega
          refine ⟨ys, hDC, by omega, IC, ys ++ [v], done8 ++ [z], r8', gr8.trans (g9.trans g9C), R10, nC, upd_same, ?_, hr9, by rw [er8, er9]; simp⟩
          rw [List.map_append]
          exact (DqAll_mono (g9.trans g9C).same _ _ d8).app (.cons dC .nil)
        · have hDB : HB D = some (.lst ys) := RB.sf _ _ upd_same
          exact iteF ⟨IB, ys, done8, rst8, gr8.trans (g9.trans (lc_gr hDF gB)), R9.back RB (same_upd hDF) gB.same hGA, lc_keep gB n9, hDB, DqAll_mono (g9.trans (lc_gr hDF gB)).same _ _ d8, hr9, er8⟩
      · have e : j = m.length := by omega
        subst e
        rw [List.drop_length] at hr8
        cases hr8
        rw [List.append_nil] at er8
        have wst := wl1.st H8 sI8
        rw [List.length_map] at wst
        exact .inl ⟨wst, I8, ys, done8, r', gr3.trans (g4.trans (g47.trans gr8)), R4.back R8 (Same.refl _) (g47.trans gr8).same hG, n8, hD8, d8, hr4, er8⟩
    · exact iteF ⟨I6, xs, done, rst, gr3.trans (g4.trans (lc_gr hDF g6)), R4.back R6 (same_upd hDF) g6.same hG, lc_keep g6 n4, hD6, DqAll_mono (g4.trans (lc_gr hDF g6)).same _ _ d3, hr4, er⟩
  · have e : i = l.length := by omega
    subst e
    rw [List.drop_length] at hr3
    cases hr3
    rw [List.append_nil] at er
    subst er
    have wst := wl.st H3 sI
    rw [List.length_map] at wst
    exact .inl ⟨wst, q D xs H3 I3 (gr1.trans gr3) R3 n3 hDF hDp hD3 d3⟩
end
end Lay

set_option Elab.async false
set_option linter.all false
set_option maxRecDepth 100000
/-! LayY: zip of three, lists and tuples in any mix. -/
namespace Lay
open PySem PySem.Spec PyProof.Rows L2
open Lay.Enc (enc)
/-- the three at a, c, e, item by item, in new tuples -/
def Itz3 (K : PySem.W.Frag) (ba bc be : Bool) (a c e : Addr) : It where
  go i H := ∃ (xs ys zs : List V) (x y z : V), SqB K ba H a xs ∧ SqB K bc H c ys ∧ SqB K be H e zs ∧ xs[i]? = some x ∧ ys[i]? = some y ∧ zs[i]? = some z
  yld i H v H' := ∃ T x y z, v = .ref T ∧ H T = none ∧ H' = upd H T (.tup [x, y, z]) ∧ (∀ xs, SqB K ba H a xs → xs[i]? = some x) ∧ (∀ ys, SqB K bc H c ys → ys[i]? = some y) ∧ ∀ zs, SqB K be H e zs → zs[i]? = some z
  stop i H := ∃ xs ys zs : List V, SqB K ba H a xs ∧ SqB K bc H c ys ∧ SqB K be H e zs ∧ i ≤ xs.length ∧ i ≤ ys.length ∧ i ≤ zs.length ∧ (i = xs.length ∨ i = ys.length ∨ i = zs.length)
abbrev zipF3 (n : Nat) : List Addr := [n + 5, n + 3, n + 4, n, n + 1, n + 2]
def zipS3 (n : Nat) (ba bc be : Bool) (a c e : Addr) (i : Nat) (h : Heap) : Prop :=
  IsZip h (n + 5) (n + 3) (n + 4) .none ∧ IsTupOf3 h (n + 3) (.ref n) (.ref (n + 1)) (.ref (n + 2)) ∧ (∃ u v w, IsTupOf3 h (n + 4) u v w) ∧ IterB ba h n a i ∧ IterB bc h (n + 1) c i ∧ IterB be h (n + 2) e i
theorem turn_zip3 {P : Program} {w : World} {K : PySem.W.Frag} {es : List Expr} {kk : Nat} {tp : Pos} {ba bc be : Bool} {a c e n : Addr} (ha : a < n) (hc : c < n) (he : e < n) :
    Turn P w K (.Tuple es kk tp) (Itz3 K ba bc be a c e) (zipF3 n) (n + 5) (zipS3 n ba bc be a c e) := by
  have one : ∀ {x : Addr}, x < n → ∀ b ∈ [x], b < n := fun h b hb => by rw [List.mem_singleton.mp hb]; exact h
  have sep : ZipSep3 (n + 5) (n + 3) (n + 4) n (n + 1) (n + 2) [n, a] [n + 1, c] [n + 2, e] := zip_sep3 (N := n) (fp1 := [a]) (fp2 := [c]) (fp3 := [e]) (one ha) (one hc) (one he)
  have six : ∀ {b : Addr}, b ∈ zipF3 n → b = n + 5 ∨ b = n + 3 ∨ b = n + 4 ∨ b = n ∨ b = n + 1 ∨ b = n + 2 := fun h => by simpa [zipF3] using h
  refine { mem := by simp [zipF3], obj := ?_, keep := ?_, item := ?_, done := ?_, self := ?_ }
  · rintro i h ⟨z1, z2, ⟨u, v, q, z3⟩, z4, z5, z6⟩ b hb
    rcases six hb with r | r | r | r | r | r <;> subst r
    · exact ⟨_, z1, fun _ z => nomatch z⟩
    · exact ⟨_, z2, fun _ z => nomatch z⟩
    · exact ⟨_, z3, fun _ z => nomatch z⟩
    · exact z4.obj
    · exact z5.obj
    · exact z6.obj
  · rintro i h h' ⟨z1, z2, ⟨u, v, q, z3⟩, z4, z5, z6⟩ kp
    exact ⟨kp _ (by simp [zipF3]) _ z1, kp _ (by simp [zipF3]) _ z2, ⟨u, v, q, kp _ (by simp [zipF3]) _ z3⟩, z4.at (kp _ (by simp [zipF3])), z5.at (kp _ (by simp [zipF3])), z6.at (kp _ (by simp [zipF3]))⟩
  · intro X e1 e2 e3 calm i pins s σ H E I hf st hg
    subst e1 e2 e3
    obtain ⟨z1, z2, ⟨u, v, q, z3⟩, z4, z5, z6⟩ := st
    obtain ⟨xs, ys, zs, x, y, z, qa, qc, qe, hx, hy, hz⟩ := hg
    obtain ⟨ia, ra, pa⟩ := sqB_items I qa
    obtain ⟨ic, rc, pc⟩ := sqB_items I qc
    obtain ⟨ie, re, pe⟩ := sqB_items I qe
    have hd : X.A.in1.handled = none := I.ok.hd calm
    have la : i < ia.toArray.size := by rw [List.size_toArray, ← ra.length]; exact (List.getElem?_eq_some_iff.mp hx).1
    have lc : i < ic.toArray.size := by rw [List.size_toArray, ← rc.length]; exact (List.getElem?_eq_some_iff.mp hy).1
    have le : i < ie.toArray.size := by rw [List.size_toArray, ← re.length]; exact (List.getElem?_eq_some_iff.mp hz).1
    refine wpAny_pyNext_zipD3_item sep (draws_b hd ba n a (Nat.ne_of_lt ha) ia.toArray) (draws_b hd bc (n + 1) c (Nat.ne_of_lt (Nat.lt_succ_of_lt hc)) ic.toArray) (draws_b hd be (n + 2) e (Nat.ne_of_lt (Nat.lt_succ_of_lt (Nat.lt_succ_of_lt he))) ie.toArray) z1 z2 z3 ⟨z4, pa⟩ ⟨z5, pc⟩ ⟨z6, pe⟩ la lc le
      fun u1 u2 u3 h1 tk p1 p2 p3 y1 y2 y4 y5 y6 hT hsz kp => ?_
    have zlt : n + 5 < s.heap.objs.size := Heap.lt_size z1
    refine ⟨_, rfl, wpAny_letOwnedTupleGo_zip (s := { s with heap := h1, toks := tk }) y1 fun h2 y1' sb => ?_⟩
    obtain ⟨w1, hw1, r1⟩ := ra.get hx
    obtain ⟨w2, hw2, r2⟩ := rc.get hy
    obtain ⟨w3, hw3, r3⟩ := re.get hz
    have q1 : u1 = w1 := by
      have := p1; simp only [List.getElem?_toArray] at this; rw [hw1] at this; exact (Option.some.inj this).symm
    have q2 : u2 = w2 := by
      have := p2; simp only [List.getElem?_toArray] at this; rw [hw2] at this; exact (Option.some.inj this).symm
    have q3 : u3 = w3 := by
      have := p3; simp only [List.getElem?_toArray] at this; rw [hw3] at this; exact (Option.some.inj this).symm
    subst q1 q2 q3
    have hT2 : h2.get? s.heap.objs.size = some { cls := .type "tuple", data := .seq #[u1, u2, u3] } := (sb.2 _ (Nat.ne_of_gt zlt)).trans hT
    have ok : ObjOk X.prog X.w (upd H s.heap.objs.size (.tup [x, y, z])) h2 s.heap.objs.size (.tup [x, y, z]) := ⟨small_line (by show 3 ≤ 8; decide), [u1, u2, u3], .cons r1 (.cons r2 (.cons r3 .nil)), ⟨_, hT2, rfl, _, rfl⟩⟩
    have kp2 : ∀ b o, b ∉ zipF3 n → s.heap.get? b = some o → h2.get? b = some o := fun b o hb e => by
      simp only [zipF3, List.mem_cons, List.not_mem_nil, or_false, not_or] at hb
      exact (sb.2 b hb.1).trans (kp b o hb.1 hb.2.2.1 hb.2.2.2.1 hb.2.2.2.2.1 hb.2.2.2.2.2 e)
    have I1 : Inv X pins σ (upd H s.heap.objs.size (.tup [x, y, z])) { s with heap := h2, toks := tk } := I.turnedNew (t' := tk) (ch := zipF3 n) kp2 hf (Nat.le_refl _) ok
    refine ⟨.ref s.heap.objs.size, _, I1, rfl, ⟨_, x, y, z, rfl, I.hok.fresh (Nat.le_refl _), rfl, fun l hl => ?_, fun l hl => ?_, fun l hl => ?_⟩, ⟨y1', ?_, ⟨u1, u2, u3, ?_⟩, ?_, ?_, ?_⟩, fun b hb => ?_⟩
    · rw [sqB_inj I hl qa]; exact hx
    · rw [sqB_inj I hl qc]; exact hy
    · rw [sqB_inj I hl qe]; exact hz
    · exact (sb.2 _ sep.TIz).trans (kp _ _ sep.TIz sep.TITO sep.TIi1 sep.TIi2 sep.TIi3 z2)
    · exact (sb.2 _ sep.TOz).trans y2
    · exact y4.1.at fun o e => (sb.2 _ sep.zi1.symm).trans e
    · exact y5.1.at fun o e => (sb.2 _ sep.zi2.symm).trans e
    · exact y6.1.at fun o e => (sb.2 _ sep.zi3.symm).trans e
    · have lt : b < s.heap.objs.size := by
        rcases six hb with r | r | r | r | r | r <;> subst r
        · exact zlt
        · exact Heap.lt_size z2
        · exact Heap.lt_size z3
        · obtain ⟨o, e, _⟩ := z4.obj; exact Heap.lt_size e
        · obtain ⟨o, e, _⟩ := z5.obj; exact Heap.lt_size e
        · obtain ⟨o, e, _⟩ := z6.obj; exact Heap.lt_size e
      rw [upd_ne (Nat.ne_of_lt lt)]
      exact (hf b hb).1
  · intro X e1 e2 e3 calm i pins s σ H E I hf st hg
    subst e1 e2 e3
    obtain ⟨z1, z2, ⟨u, v, q, z3⟩, z4, z5, z6⟩ := st
    obtain ⟨xs, ys, zs, qa, qc, qe, l1, l2, l3, hend⟩ := hg
    obtain ⟨ia, ra, pa⟩ := sqB_items I qa
    obtain ⟨ic, rc, pc⟩ := sqB_items I qc
    obtain ⟨ie, re, pe⟩ := sqB_items I qe
    have hd : X.A.in1.handled = none := I.ok.hd calm
    have ea : ia.toArray.size = xs.length := by rw [List.size_toArray, ra.length]
    have ec : ic.toArray.size = ys.length := by rw [List.size_toArray, rc.length]
    have ee : ie.toArray.size = zs.length := by rw [List.size_toArray, re.length]
    refine wpAny_pyNext_zipD3_end sep (draws_b hd ba n a (Nat.ne_of_lt ha) ia.toArray) (draws_b hd bc (n + 1) c (Nat.ne_of_lt (Nat.lt_succ_of_lt hc)) ic.toArray) (draws_b hd be (n + 2) e (Nat.ne_of_lt (Nat.lt_succ_of_lt (Nat.lt_succ_of_lt he))) ie.toArray) z1 z2 z3 ⟨z4, pa⟩ ⟨z5, pc⟩ ⟨z6, pe⟩ (by omega) (by omega) (by omega) (by rw [ea, ec, ee]; exact hend)
      fun h1 tk kp => ⟨rfl, I.turnedL (t' := tk) (ch := zipF3 n) (fun b o hb e => ?_) hf⟩
    simp only [zipF3, List.mem_cons, List.not_mem_nil, or_false, not_or] at hb
    exact kp b o hb.1 hb.2.2.1 hb.2.2.2.1 hb.2.2.2.2.1 hb.2.2.2.2.2 e
  · exact fun A i s Q E st h => wpAny_pyIter_zip st.1 h
def iZip3 (K : PySem.W.Frag) (ba bc be : Bool) (ta : TA) : TI := fun σ H R => ta σ H fun vs H1 => ∃ a c e xs ys zs, vs = [.ref a, .ref c, .ref e] ∧ SqB K ba H1 a xs ∧ SqB K bc H1 c ys ∧ SqB K be H1 e zs ∧ R (Itz3 K ba bc be a c e) H1
theorem vals3 {a b c : V} {us : List Value} (h : Vals [a, b, c] us) : ∃ u v w, us = [u, v, w] ∧ RelV a u ∧ RelV b v ∧ RelV c w := by
  cases h with
  | cons h1 h2 => cases h2 with
    | cons h2 h3 => cases h3 with
      | cons h3 h4 => cases h4; exact ⟨_, _, _, rfl, h1, h2, h3⟩
theorem pi_zip3 {X : Cx} {e e2 e3 : Expr} {ta : TA} {p pos tp : Pos} {es : List Expr} {kk : Nat} (ba bc be : Bool) (gl : Gl X "zip") (hm : X.mg "zip" = none) (hA : PA X [e, e2, e3] ta)
    (s1 : starEach [e, e2, e3] X.env = (false, eval e X.env) :: starEach [e2, e3] X.env) (s2 : (backTo pos (starEach [e2, e3] X.env)).any (·.1) = false) : PI X (.Tuple es kk tp) (.Call (.Name "zip" p) [e, e2, e3] [] pos) (iZip3 X.K ba bc be ta) := ⟨fun pins s σ H R I h => by
  refine Call_ (ld_blt I gl hm PyProof.Rows.boot_zip (PyProof.Rows.callWith_type1 (thn (hA.run pos pins s σ H _ I h) fun us st q => ?_) s1 s2))
  obtain ⟨vs, H1, I1, rv, a, c, d, xs, ys, zs, ev, qa, qc, qd, q⟩ := q
  subst ev
  obtain ⟨u1, u2, u3, eu, r1, r2, r3⟩ := vals3 rv
  subst eu
  have r1 : u1 = .ref a := r1
  have r2 : u2 = .ref c := r2
  have r3 : u3 = .ref d := r3
  subst r1 r2 r3
  obtain ⟨ia, ra, pa⟩ := sqB_items I1 qa
  obtain ⟨ic, rc, pc⟩ := sqB_items I1 qc
  obtain ⟨id', rd, pd⟩ := sqB_items I1 qd
  obtain ⟨o1, B1, w1⟩ := begins_b ba a ia.toArray
  obtain ⟨o2, B2, w2⟩ := begins_b bc c ic.toArray
  obtain ⟨o3, B3, w3⟩ := begins_b be d id'.toArray
  refine zip_begins3 B1 B2 B3 pa pc pd fun h' z1 z2 z3 z4 z5 z6 hz kp => wpAny_pyIter_zip z1 ?_
  exact ⟨_, zipF3 st.heap.objs.size, _, _, H1, rfl, I1.kept (t' := st.toks) kp, turn_zip3 (objB_lt pa) (objB_lt pc) (objB_lt pd), ⟨z1, z2, ⟨_, _, _, z3⟩, w1 _ _ z4, w2 _ _ z5, w3 _ _ z6⟩, fun b hb => by
    have le : st.heap.objs.size ≤ b := by
      simp only [zipF3, List.mem_cons, List.not_mem_nil, or_false] at hb
      rcases hb with e | e | e | e | e | e <;> (rw [e]; first | exact Nat.le_refl _ | exact Nat.le_add_right _ _)
    exact I1.fpOk le (I1.hok.fresh le), q⟩⟩
def zipL3 {α β γ : Type} (l : List α) (m : List β) (n : List γ) : List (T3 α β γ) := (l.zip (m.zip n)).map fun p => ⟨p.1, p.2.1, p.2.2⟩
theorem it_zip3 {X : Cx} {G : List Sl} {σ τ υ α β γ : Type} [Enc α] [Enc β] [Enc γ] [Enc σ] [Enc τ] [Enc υ] [S : SeqD σ α] [T : SeqD τ β] [U : SeqD υ γ] {e e2 e3 : Expr} {N : List Str} {sc : Scope} {fs : Option Scope} {k : Nat} {p pos tpos : Pos} {elts : List Expr} {kk : Nat} {o : Option σ} {o2 : Option τ} {o3 : Option υ}
    (C : Ctx X N sc fs k) (hg : glbB sc "zip" = true) (hm : X.mg "zip" = none) (h : ED X G e o) (h' : ED X G e2 o2) (h'' : ED X G e3 o3)
    (hs : starEach [e, e2, e3] X.env = (false, eval e X.env) :: starEach [e2, e3] X.env := by rfl) (hs1 : starEach [e2, e3] X.env = (false, eval e2 X.env) :: starEach [e3] X.env := by rfl) (hs2 : starEach [e3] X.env = [(false, eval e3 X.env)] := by rfl) (hpl : (backTo pos (starEach [e2, e3] X.env)).any (·.1) = false := by rfl) :
    IT X G (.Tuple elts kk tpos) (.Call (.Name "zip" p) [e, e2, e3] [] pos) (lift3 (fun x y z => zipL3 (S.ls x) (T.ls y) (U.ls z)) o o2 o3) := fun l hl => by
  obtain ⟨t, h1, hl⟩ := bind_get hl
  obtain ⟨u, h2, hl⟩ := bind_get hl
  obtain ⟨v, h3, hl⟩ := bind_get hl
  cases hl
  have pa : PA X [e, e2, e3] (tA X.K G [enc t, enc u, enc v]) := ad_cons h (ad_cons h' (ad_cons h'' ad_nil hs2) hs1) hs _ (by rw [h1, h2, h3]; rfl)
  refine (pi_len (pi_zip3 S.kd T.kd U.kd (glbB_gl C.s hg).1 hm pa hs hpl) fun σ H R R' w ⟨F, I, ps, r, q⟩ => ⟨F, I, ps, r, fun v H' I' g r' d => by obtain ⟨a, b, c, xs, ys, zs, e, z1, z2, z3, q⟩ := q v H' I' g r' d; exact ⟨a, b, c, xs, ys, zs, e, z1, z2, z3, w _ _ q⟩⟩).imp
    fun σ H R ⟨F, I, ps, r, q⟩ => ⟨F, I, ps, r, fun vs H' I' g r' d => ?_⟩
  cases d with
  | cons d1 d2 =>
    cases d2 with
    | cons d2 d3 =>
      cases d3 with
      | cons d3 d4 =>
        cases d4
        obtain ⟨a1, xs, e1, k1, k2⟩ := SeqD.sq (K := X.K) d1
        obtain ⟨a2, ys, e2, k3, k4⟩ := SeqD.sq (K := X.K) d2
        obtain ⟨a3, zs, e3, k5, k6⟩ := SeqD.sq (K := X.K) d3
        subst e1 e2 e3
        have lx : xs.length = (S.ls t).length := by rw [k2.len, List.length_map]
        have ly : ys.length = (T.ls u).length := by rw [k4.len, List.length_map]
        have lz : zs.length = (U.ls v).length := by rw [k6.len, List.length_map]
        have ln : (zipL3 (S.ls t) (T.ls u) (U.ls v)).length = min (S.ls t).length (min (T.ls u).length (U.ls v).length) := by unfold zipL3; rw [List.length_map, List.length_zip, List.length_zip]
        refine ⟨_, _, _, _, _, _, rfl, k1 _ r'.si, k3 _ r'.si, k5 _ r'.si, fun lo => q _ _ I' g r' ⟨fun i d H s hd => ?_, fun H s => ?_⟩ ?_⟩
        · have hi : i < min (S.ls t).length (min (T.ls u).length (U.ls v).length) := by
            have := (List.getElem?_eq_some_iff.mp hd).1
            rw [List.length_map, ln] at this; exact this
          have hx : (S.ls t)[i]? = some ((S.ls t)[i]'(by omega)) := List.getElem?_eq_getElem (by omega)
          have hy : (T.ls u)[i]? = some ((T.ls u)[i]'(by omega)) := List.getElem?_eq_getElem (by omega)
          have hz : (U.ls v)[i]? = some ((U.ls v)[i]'(by omega)) := List.getElem?_eq_getElem (by omega)
          generalize ((S.ls t)[i]'(by omega)) = x0 at hx
          generalize ((T.ls u)[i]'(by omega)) = y0 at hy
          generalize ((U.ls v)[i]'(by omega)) = z0 at hz
          have e0 : (zipL3 (S.ls t) (T.ls u) (U.ls v))[i]? = some ⟨x0, y0, z0⟩ := by
            unfold zipL3
            have ez : ((T.ls u).zip (U.ls v))[i]? = some (y0, z0) := List.getElem?_zip_eq_some.mpr ⟨hy, hz⟩
            have ex : ((S.ls t).zip ((T.ls u).zip (U.ls v)))[i]? = some (x0, (y0, z0)) := List.getElem?_zip_eq_some.mpr ⟨hx, ez⟩
            rw [List.getElem?_map, ex]
            rfl
          rw [List.getElem?_map, e0] at hd
          have hd := Option.some.inj hd
          subst hd
          obtain ⟨v1, hv, dv⟩ := k2.at (show ((S.ls t).map enc)[i]? = some (enc x0) by rw [List.getElem?_map, hx]; rfl)
          obtain ⟨w1, hw, dw⟩ := k4.at (show ((T.ls u).map enc)[i]? = some (enc y0) by rw [List.getElem?_map, hy]; rfl)
          obtain ⟨z1, hzz, dz⟩ := k6.at (show ((U.ls v).map enc)[i]? = some (enc z0) by rw [List.getElem?_map, hz]; rfl)
          refine ⟨⟨_, _, _, v1, w1, z1, k1 _ s, k3 _ s, k5 _ s, hv, hw, hzz⟩, fun x H' y => ?_⟩
          obtain ⟨T', b1, b2, b3, f1, f2, f3, f4, f5, f6⟩ := y
          have f4 := f4 _ (k1 _ s)
          have f5 := f5 _ (k3 _ s)
          have f6 := f6 _ (k5 _ s)
          rw [hv] at f4; cases f4
          rw [hw] at f5; cases f5
          rw [hzz] at f6; cases f6
          subst f1
          have m := same_upd (o := HO.tup [v1, w1, z1]) (s.free f2)
          exact .inr ⟨T', _, f2, f3, .tup (.inl upd_same) (.cons (Dq_mono m _ _ dv) (.cons (Dq_mono m _ _ dw) (.cons (Dq_mono m _ _ dz) .nil)))⟩
        · rw [List.length_map, ln]
          exact ⟨_, _, _, k1 _ s, k3 _ s, k5 _ s, by omega, by omega, by omega, by omega⟩
        · rw [List.length_map, ln]
          have : xs.length ≤ sizeLine := by
            have := k1 _ r'.si
            cases hk : S.kd with
            | true => rw [hk] at this; exact (lo _ _).2 this
            | false => rw [hk] at this; exact (lo _ _).1 this
          omega
end Lay
namespace Lay
open PySem PySem.Spec PyProof.Rows L2
open Lay.Enc (enc)
/-! ### pairs that are stored in order: constants, cells -/
theorem sw_const {t1 t2 a b : Expr} {kt k2 : Nat} {pt pt2 : Pos} {env : Env} (h : [a, b].all (foldedForSure 8) = true) : swappedStores [.Tuple [t1, t2] kt pt] (.Tuple [a, b] k2 pt2) env = pure none := by
  unfold swappedStores
  simp only []
  split
  · rfl
  · split
    · rfl
    · split
      · rfl
      · first | rfl | rw [if_pos h]
theorem sw_cellP {X : Cx} {N : List Str} {sc : Scope} {fs : Option Scope} {k : Nat} {x y : Str} {a b : Expr} {px py pt pt2 : Pos} {kt k2 : Nat} (C : Ctx X N sc fs k) (h : (sc.names.lookup x = some .cell || sc.names.lookup y = some .cell) = true) :
    swappedStores [.Tuple [.Name x px, .Name y py] kt pt] (.Tuple [a, b] k2 pt2) X.env = pure none := by
  have h' : X.env.kindOf x = some .cell ∨ X.env.kindOf y = some .cell := by
    have e1 : X.env.kindOf x = sc.names.lookup x := by rw [← C.s]; rfl
    have e2 : X.env.kindOf y = sc.names.lookup y := by rw [← C.s]; rfl
    rw [e1, e2]
    simpa using h
  unfold swappedStores
  simp only []
  split
  · rfl
  · split
    · rfl
    · rw [if_pos]
      have nc : (some NameKind.cell == some NameKind.local) = false := by decide
      rcases h' with h' | h'
      · simp only [List.filterMap_cons, List.filterMap_nil, h', nc, Bool.false_and]
        simp only [Bool.false_eq_true, if_false, List.length_cons, List.length_nil]
        split <;> simp
      · simp only [List.filterMap_cons, List.filterMap_nil, h', nc, Bool.false_and]
        simp only [Bool.false_eq_true, if_false, List.length_cons, List.length_nil]
        split <;> simp
end Lay

set_option Elab.async false
set_option linter.all false
set_option maxRecDepth 100000
/-! LayF: fractions in lowest terms. -/
namespace Lay
open PySem PySem.Spec PyProof.Rows L2
open Lay.Enc (enc)
/-! ### fractions -/
abbrev Q := T2 Int Int
def frac (n d : Int) : Q := ⟨n / gcdI n d, d / gcdI n d⟩
theorem gcd_pos {n d : Int} (h : 0 < d) : 0 < gcdI n d := by
  unfold gcdI
  have : 0 < Nat.gcd n.natAbs d.natAbs := Nat.gcd_pos_of_pos_right _ (by omega)
  omega
theorem gcd_dvd {n d : Int} : (∃ a, n = gcdI n d * a) ∧ ∃ b, d = gcdI n d * b := by
  unfold gcdI
  exact ⟨Int.dvd_def .. ▸ Int.ofNat_dvd_left.mpr (Nat.gcd_dvd_left _ _), Int.dvd_def .. ▸ Int.ofNat_dvd_left.mpr (Nat.gcd_dvd_right _ _)⟩
theorem gcd_scale {n d c : Int} (h : 0 < c) : gcdI (n * c) (d * c) = gcdI n d * c := by
  unfold gcdI
  rw [Int.natAbs_mul, Int.natAbs_mul, Nat.gcd_mul_right, Int.natCast_mul]
  congr 1
  omega
theorem frac_scale {n d c : Int} (h : 0 < c) : frac (n * c) (d * c) = frac n d := by
  unfold frac
  rw [gcd_scale h, Int.mul_ediv_mul_of_pos_left _ _ h, Int.mul_ediv_mul_of_pos_left _ _ h]
theorem frac_eq {n d n' d' : Int} (h : 0 < d) (h' : 0 < d') (e : n * d' = n' * d) : frac n d = frac n' d' := by
  rw [← frac_scale (n := n) (d := d) h', ← frac_scale (n := n') (d := d') h, e, Int.mul_comm d d']
theorem frac_facts {n d : Int} (h : 0 < d) : 0 < (frac n d).b ∧ (frac n d).b ≤ d ∧ (frac n d).a * d = n * (frac n d).b ∧ (frac n d).a.natAbs ≤ n.natAbs := by
  obtain ⟨⟨a, ha⟩, ⟨b, hb⟩⟩ := gcd_dvd (n := n) (d := d)
  have g := gcd_pos (n := n) h
  have e1 : (frac n d).a = a := by
    show n / gcdI n d = a
    conv => lhs; rw [ha]
    have : gcdI (gcdI n d * a) d = gcdI n d := by rw [← ha]
    rw [this, Int.mul_ediv_cancel_left _ (by omega)]
  have e2 : (frac n d).b = b := by
    show d / gcdI n d = b
    conv => lhs; rw [hb]
    have : gcdI n (gcdI n d * b) = gcdI n d := by rw [← hb]
    rw [this, Int.mul_ediv_cancel_left _ (by omega)]
  rw [e1, e2]
  generalize gcdI n d = G at *
  have hb0 : 0 < b := by
    apply Int.pos_of_mul_pos_left (b := G) (by rw [Int.mul_comm, ← hb]; exact h) (by omega) <;> skip
  refine ⟨hb0, ?_, ?_, ?_⟩
  · rw [hb]
    have := Int.mul_le_mul_of_nonneg_right (show 1 ≤ G by omega) (show 0 ≤ b by omega)
    omega
  · rw [ha, hb]
    simp only [Int.mul_assoc, Int.mul_comm, Int.mul_left_comm]
  · rw [ha, Int.natAbs_mul]
    exact Nat.le_mul_of_pos_left _ (by omega)
theorem gcd_le {n d : Int} (h : 0 < d) : gcdI n d ≤ d := by
  unfold gcdI
  have := Nat.gcd_le_right n.natAbs (n := d.natAbs) (by omega)
  omega
/-- small enough for all guards -/
def Sm (q : Q) : Prop := q.a.natAbs < 2 ^ 30 ∧ 0 < q.b ∧ q.b < 2 ^ 30
theorem sm_frac {x d : Int} (h : 0 < d) (h2 : d < 2 ^ 30) (hx : x.natAbs < 2 ^ 30) : Sm (frac x d) := by
  obtain ⟨h1, h3, h4, h5⟩ := frac_facts (n := x) h
  exact ⟨by omega, h1, by omega⟩
theorem sm_mul {p q : Q} (hp : Sm p) (hq : Sm q) : MulOk p.a q.b ∧ MulOk q.a p.b ∧ MulOk p.b q.b ∧ MulOk p.a q.a ∧ MulOk q.b p.b ∧ MulOk p.b q.a := by
  obtain ⟨a1, a2, a3⟩ := hp
  obtain ⟨b1, b2, b3⟩ := hq
  refine ⟨mulOk ?_ ?_, mulOk ?_ ?_, mulOk ?_ ?_, mulOk ?_ ?_, mulOk ?_ ?_, mulOk ?_ ?_⟩ <;> omega
theorem sm_prod {p q : Q} (hp : Sm p) (hq : Sm q) : 0 < p.b * q.b ∧ p.b * q.b < 2 ^ 60 := by
  obtain ⟨a1, a2, a3⟩ := hp
  obtain ⟨b1, b2, b3⟩ := hq
  refine ⟨Int.mul_pos a2 b2, ?_⟩
  have h1 := Int.mul_le_mul (show p.b ≤ 2 ^ 30 - 1 by omega) (show q.b ≤ 2 ^ 30 - 1 by omega) (by omega) (by decide)
  have : ((2 : Int) ^ 30 - 1) * (2 ^ 30 - 1) < 2 ^ 60 := by decide
  omega
theorem frac_b_pos {x d : Int} (h : 0 < d) : 0 < (frac x d).b := (frac_facts h).1
theorem frac_add {x y d : Int} (h : 0 < d) : frac ((frac x d).a * (frac y d).b + (frac y d).a * (frac x d).b) ((frac x d).b * (frac y d).b) = frac (x + y) d := by
  obtain ⟨h1, _, h3, _⟩ := frac_facts (n := x) h
  obtain ⟨h4, _, h6, _⟩ := frac_facts (n := y) h
  refine frac_eq (Int.mul_pos h1 h4) h ?_
  generalize (frac x d).a = a at *
  generalize (frac x d).b = b at *
  generalize (frac y d).a = c at *
  generalize (frac y d).b = e at *
  rw [Int.add_mul, Int.add_mul, Int.mul_right_comm a, h3, Int.mul_right_comm c, h6, Int.mul_right_comm x, Int.mul_assoc x, Int.mul_assoc y, Int.mul_comm e b]
theorem frac_sub {x y d : Int} (h : 0 < d) : frac ((frac x d).a * (frac y d).b - (frac y d).a * (frac x d).b) ((frac x d).b * (frac y d).b) = frac (x - y) d := by
  obtain ⟨h1, _, h3, _⟩ := frac_facts (n := x) h
  obtain ⟨h4, _, h6, _⟩ := frac_facts (n := y) h
  refine frac_eq (Int.mul_pos h1 h4) h ?_
  generalize (frac x d).a = a at *
  generalize (frac x d).b = b at *
  generalize (frac y d).a = c at *
  generalize (frac y d).b = e at *
  rw [Int.sub_mul, Int.sub_mul, Int.mul_right_comm a, h3, Int.mul_right_comm c, h6, Int.mul_right_comm x, Int.mul_assoc x, Int.mul_assoc y, Int.mul_comm e b]
theorem frac_mul {x y d e : Int} (h : 0 < d) (h' : 0 < e) : frac ((frac x d).a * (frac y e).a) ((frac x d).b * (frac y e).b) = frac (x * y) (d * e) := by
  obtain ⟨h1, _, h3, _⟩ := frac_facts (n := x) h
  obtain ⟨h4, _, h6, _⟩ := frac_facts (n := y) h'
  refine frac_eq (Int.mul_pos h1 h4) (Int.mul_pos h h') ?_
  generalize (frac x d).a = a at *
  generalize (frac x d).b = b at *
  generalize (frac y e).a = c at *
  generalize (frac y e).b = f at *
  calc a * c * (d * e) = (a * d) * (c * e) := by simp only [Int.mul_assoc, Int.mul_comm, Int.mul_left_comm]
    _ = (x * b) * (y * f) := by rw [h3, h6]
    _ = x * y * (b * f) := by simp only [Int.mul_assoc, Int.mul_comm, Int.mul_left_comm]
theorem frac_lt {x y d e : Int} (h : 0 < d) (h' : 0 < e) : ((frac x d).a * (frac y e).b < (frac y e).a * (frac x d).b) ↔ x * e < y * d := by
  obtain ⟨h1, _, h3, _⟩ := frac_facts (n := x) h
  obtain ⟨h4, _, h6, _⟩ := frac_facts (n := y) h'
  generalize (frac x d).a = a at *
  generalize (frac x d).b = b at *
  generalize (frac y e).a = c at *
  generalize (frac y e).b = f at *
  have de := Int.mul_pos h h'
  have bf := Int.mul_pos h1 h4
  have k1 : a * f * (d * e) < c * b * (d * e) ↔ a * f < c * b := Int.mul_lt_mul_right de
  have k2 : x * e * (b * f) < y * d * (b * f) ↔ x * e < y * d := Int.mul_lt_mul_right bf
  have e1 : a * f * (d * e) = x * e * (b * f) := by
    calc a * f * (d * e) = (a * d) * (f * e) := by simp only [Int.mul_assoc, Int.mul_comm, Int.mul_left_comm]
      _ = (x * b) * (f * e) := by rw [h3]
      _ = x * e * (b * f) := by simp only [Int.mul_assoc, Int.mul_comm, Int.mul_left_comm]
  have e2 : c * b * (d * e) = y * d * (b * f) := by
    calc c * b * (d * e) = (c * e) * (b * d) := by simp only [Int.mul_assoc, Int.mul_comm, Int.mul_left_comm]
      _ = (y * f) * (b * d) := by rw [h6]
      _ = y * d * (b * f) := by simp only [Int.mul_assoc, Int.mul_comm, Int.mul_left_comm]
  rw [← k1, ← k2, e1, e2]
theorem frac_lt_same {x y d : Int} (h : 0 < d) : ((frac x d).a * (frac y d).b < (frac y d).a * (frac x d).b) ↔ x < y := by
  rw [frac_lt h h]; exact Int.mul_lt_mul_right h
theorem frac_whole (n : Int) : frac n 1 = ⟨n, 1⟩ := by
  unfold frac gcdI
  simp
theorem whole_eq {n d : Int} (h : 0 < d) : (⟨n, 1⟩ : Q) = frac (n * d) d := by
  rw [← frac_whole]
  exact frac_eq (by decide) h (by rw [Int.mul_one])
theorem frac_gcd {x d : Int} (h : 0 < d) : gcdI (frac x d).a (frac x d).b = 1 := by
  obtain ⟨⟨a, ha⟩, ⟨b, hb⟩⟩ := gcd_dvd (n := x) (d := d)
  have g := gcd_pos (n := x) h
  obtain ⟨f1, f2, f3, f4⟩ := frac_facts (n := x) h
  have s := gcd_scale (n := (frac x d).a) (d := (frac x d).b) g
  have e1 : (frac x d).a * gcdI x d = x := by
    show x / gcdI x d * gcdI x d = x
    exact Int.ediv_mul_cancel ⟨a, ha⟩
  have e2 : (frac x d).b * gcdI x d = d := by
    show d / gcdI x d * gcdI x d = d
    exact Int.ediv_mul_cancel ⟨b, hb⟩
  rw [e1, e2] at s
  have : 1 * gcdI x d = gcdI (frac x d).a (frac x d).b * gcdI x d := by rw [Int.one_mul]; exact s
  exact (Int.eq_of_mul_eq_mul_right (by omega) this).symm
theorem frac_nonneg {x d : Int} (h : 0 < d) : 0 ≤ (frac x d).a ↔ 0 ≤ x := by
  obtain ⟨f1, f2, f3, f4⟩ := frac_facts (n := x) h
  constructor
  · intro q
    have : 0 ≤ (frac x d).a * d := Int.mul_nonneg q (by omega)
    rw [f3] at this
    by_cases c : 0 ≤ x
    · exact c
    · have : x * (frac x d).b < 0 := Int.mul_neg_of_neg_of_pos (by omega) f1
      omega
  · intro q
    by_cases c : 0 ≤ (frac x d).a
    · exact c
    · have : (frac x d).a * d < 0 := Int.mul_neg_of_neg_of_pos (by omega) h
      have : 0 ≤ x * (frac x d).b := Int.mul_nonneg q (by omega)
      omega
theorem frac_le_one {x d : Int} (h : 0 < d) : (frac x d).a ≤ (frac x d).b ↔ x ≤ d := by
  have k := frac_lt (x := d) (y := x) (d := d) (e := d) h h
  have e1 : frac d d = ⟨1, 1⟩ := by rw [← frac_whole]; exact frac_eq h (by decide) (by omega)
  rw [e1] at k
  have k2 : d * d < x * d ↔ d < x := Int.mul_lt_mul_right h
  rw [k2] at k
  simp only [Int.one_mul, Int.mul_one] at k
  omega
end Lay

set_option Elab.async false
set_option linter.all false
set_option maxRecDepth 100000
/-! LayN: more plain facts: two-clause comprehensions, enumerations, dot products, boxes of tuples. -/
namespace Lay
open PySem PySem.Spec PyProof.Rows L2
open Lay.Enc (enc)
section
variable {α β γ : Type}
theorem lc2L_map {oi : α → Option (List β)} {oe : α → β → Option γ} {I : α → List β} {f : α → β → γ} : ∀ {l : List α}, (∀ x, x ∈ l → oi x = some (I x)) → (∀ x, x ∈ l → ∀ y, y ∈ I x → oe x y = some (f x y)) →
    lc2L (fun _ => some true) oi (fun _ _ => some true) oe l = some (l.flatMap fun x => (I x).map (f x))
  | [], _, _ => rfl
  | x :: xs, h1, h2 => by
    have ih := lc2L_map (l := xs) (fun y hy => h1 y (by simp [hy])) (fun y hy => h2 y (by simp [hy]))
    unfold lc2L
    rw [Option.bind_some, cond_true, h1 x (by simp), Option.bind_some, lcL_map (fun y hy => h2 x (by simp) y hy), Option.bind_some, ih]
    rfl
theorem ok_lc2 {oi : α → Option (List β)} {oe : α → β → Option γ} {P : List γ → Prop} (I : α → List β) (f : α → β → γ) {l : List α} (h1 : ∀ x, x ∈ l → oi x = some (I x)) (h2 : ∀ x, x ∈ l → ∀ y, y ∈ I x → oe x y = some (f x y)) (p : P (l.flatMap fun x => (I x).map (f x))) :
    Ok (lc2L (fun _ => some true) oi (fun _ _ => some true) oe l) P := ⟨_, lc2L_map h1 h2, p⟩
theorem enum_at {l : List α} {i : Nat} {y : T2 Int α} (h : (enumL l)[i]? = some y) : y.a = i ∧ l[i]? = some y.b := by
  unfold enumL at h
  rw [List.getElem?_zipWith] at h
  by_cases c : i < l.length
  · rw [List.getElem?_range c, List.getElem?_eq_getElem c] at h
    cases h
    exact ⟨rfl, List.getElem?_eq_getElem c⟩
  · rw [List.getElem?_eq_none (by rw [List.length_range]; omega)] at h
    cases h
theorem enum_len {l : List α} : (enumL l).length = l.length := by
  unfold enumL
  rw [List.length_zipWith, List.length_range, Nat.min_self]
theorem enum_mem {l : List α} {y : T2 Int α} (h : y ∈ enumL l) : y.b ∈ l ∧ 0 ≤ y.a ∧ y.a < l.length := by
  obtain ⟨i, hi, e⟩ := List.mem_iff_getElem.mp h
  have h' : (enumL l)[i]? = some y := by rw [List.getElem?_eq_getElem hi, e]
  obtain ⟨a, b⟩ := enum_at h'
  rw [enum_len] at hi
  exact ⟨List.mem_of_getElem? b, by omega, by omega⟩
theorem ok_app5 {δ ε ζ : Type} {m : α → β → γ → δ → ε → Option ζ} {a : Option α} {b : Option β} {c : Option γ} {d : Option δ} {e : Option ε} {P : ζ → Prop} : Ok (app5 m a b c d e) P ↔ Ok a fun x => Ok b fun y => Ok c fun z => Ok d fun w => Ok e fun v => Ok (m x y z w v) P := by unfold app5; simp only [ok_bind]
/-- a loop that only looks -/
theorem ok_look {R B : Type} {step : Unit → α → Option (Out Unit Unit R)} {P : Out Unit B R → Prop} {l : List α} (hs : ∀ x, x ∈ l → Ok (step () x) (Nx fun _ => True)) (hk : P (.nx ())) : Ok (forL step () l) P :=
  ok_for (fun _ _ => True) trivial (fun i s x hx _ => hs x (List.mem_of_getElem? hx)) fun s _ => hk
end
/-! ### sums of products -/
def dot (r t : List Int) : Int := (List.zipWith (· * ·) r t).sum
theorem dot_by {r t : List Int} (h : r.length = t.length) : ((rngL 0 r.length).map fun k => r.getD k.toNat 0 * t.getD k.toNat 0).sum = dot r t := by
  unfold dot
  congr 1
  apply List.ext_getElem?
  intro i
  unfold rngL
  rw [List.map_map, List.getElem?_map, List.getElem?_zipWith]
  by_cases c : i < r.length
  · have c2 : i < t.length := by omega
    rw [List.getElem?_range c, List.getElem?_eq_getElem c, List.getElem?_eq_getElem c2]
    simp [c, c2]
  · rw [List.getElem?_eq_none (by rw [List.length_range]; omega), List.getElem?_eq_none (by omega)]
    rfl
theorem zip_dot {r t : List Int} : ((zipL r t).map fun p => p.a * p.b).sum = dot r t := by
  unfold dot zipL
  congr 1
  rw [List.map_zipWith]
theorem zip_mem {α β : Type} {l : List α} {m : List β} {p : T2 α β} (h : p ∈ zipL l m) : p.a ∈ l ∧ p.b ∈ m := by
  unfold zipL at h
  obtain ⟨i, hi, e⟩ := List.mem_iff_getElem.mp h
  rw [List.length_zipWith] at hi
  rw [List.getElem_zipWith] at e
  subst e
  exact ⟨List.getElem_mem _, List.getElem_mem _⟩
theorem dot_bound {A B : Nat} : ∀ {r t : List Int}, (∀ x, x ∈ r → x.natAbs ≤ A) → (∀ x, x ∈ t → x.natAbs ≤ B) → (dot r t).natAbs ≤ r.length * (A * B)
  | [], _, _, _ => by simp [dot]
  | _ :: _, [], _, _ => by simp [dot]
  | x :: r, y :: t, h1, h2 => by
    have ih := dot_bound (A := A) (B := B) (r := r) (t := t) (fun z hz => h1 z (by simp [hz])) (fun z hz => h2 z (by simp [hz]))
    have hx := h1 x (by simp)
    have hy := h2 y (by simp)
    have hm : (x * y).natAbs ≤ A * B := by rw [Int.natAbs_mul]; exact Nat.mul_le_mul hx hy
    have e : dot (x :: r) (y :: t) = x * y + dot r t := by unfold dot; simp
    rw [e, List.length_cons, Nat.add_mul, Nat.one_mul]
    omega
/-! ### all tuples below tops -/
def boxStep (f : List (Tup Int)) (top : Int) : List (Tup Int) := f.flatMap fun t => (rngL 0 (top + 1).toNat).map fun x => ⟨t.l ++ [x]⟩
def box (tops : List Int) : List (Tup Int) := tops.foldl boxStep [⟨[]⟩]
theorem box_take {l : List Int} {i : Nat} {x : Int} (h : l[i]? = some x) : box (l.take (i + 1)) = boxStep (box (l.take i)) x := by
  unfold box
  rw [List.take_add_one, h, List.foldl_append]
  rfl
def inBox : List Int → List Int → Prop
  | [], [] => True
  | x :: xs, t :: ts => 0 ≤ x ∧ x ≤ t ∧ inBox xs ts
  | _, _ => False
theorem inBox_len : ∀ {xs ts : List Int}, inBox xs ts → xs.length = ts.length
  | [], [], _ => rfl
  | _ :: _, _ :: _, h => by simp [inBox_len h.2.2]
  | [], _ :: _, h => h.elim
  | _ :: _, [], h => h.elim
theorem inBox_snoc : ∀ {xs ts : List Int} {x t : Int}, inBox (xs ++ [x]) (ts ++ [t]) ↔ inBox xs ts ∧ 0 ≤ x ∧ x ≤ t
  | [], [], x, t => by simp [inBox]
  | a :: xs, b :: ts, x, t => by
    show (0 ≤ a ∧ a ≤ b ∧ inBox (xs ++ [x]) (ts ++ [t])) ↔ (0 ≤ a ∧ a ≤ b ∧ inBox xs ts) ∧ 0 ≤ x ∧ x ≤ t
    rw [inBox_snoc]
    constructor
    · rintro ⟨h1, h2, h3, h4⟩; exact ⟨⟨h1, h2, h3⟩, h4⟩
    · rintro ⟨⟨h1, h2, h3⟩, h4⟩; exact ⟨h1, h2, h3, h4⟩
  | [], b :: ts, x, t => by
    cases ts with
    | nil => simp [inBox]
    | cons c ts => simp [inBox]
  | a :: xs, [], x, t => by
    cases xs with
    | nil => simp [inBox]
    | cons c ts => simp [inBox]
theorem inBox_mem {T : Int} : ∀ {xs ts : List Int}, inBox xs ts → (∀ t, t ∈ ts → t ≤ T) → ∀ x, x ∈ xs → 0 ≤ x ∧ x ≤ T
  | [], _, _, _, x, h => by simp at h
  | a :: xs, [], h, _, _, _ => h.elim
  | a :: xs, b :: ts, h, ht, x, hx => by
    rw [List.mem_cons] at hx
    rcases hx with rfl | hx
    · have := ht b (by simp); exact ⟨h.1, by have := h.2.1; omega⟩
    · exact inBox_mem h.2.2 (fun t h => ht t (by simp [h])) x hx
theorem mem_box : ∀ (n : Nat) (ts : List Int), ts.length = n → (∀ t, t ∈ ts → 0 ≤ t) → ∀ (xs : Tup Int), xs ∈ box ts ↔ inBox xs.l ts := by
  intro n
  induction n with
  | zero =>
    intro ts hl _ xs
    have : ts = [] := List.eq_nil_of_length_eq_zero hl
    subst this
    obtain ⟨l⟩ := xs
    cases l with
    | nil => simp [box, inBox]
    | cons a l => simp [box, inBox]
  | succ n ih =>
    intro ts hl h0 xs
    have hne : ts ≠ [] := by intro c; subst c; simp at hl
    rw [← List.dropLast_concat_getLast hne]
    have hd : ts.dropLast.length = n := by rw [List.length_dropLast]; omega
    have h1 : ∀ t, t ∈ ts.dropLast → 0 ≤ t := fun t ht => h0 t ((List.dropLast_sublist ts).subset ht)
    have hg : 0 ≤ ts.getLast hne := h0 _ (List.getLast_mem hne)
    have ih := ih ts.dropLast hd h1
    generalize ts.dropLast = ds at *
    generalize ts.getLast hne = t at *
    have e : box (ds ++ [t]) = boxStep (box ds) t := by unfold box; rw [List.foldl_append]; rfl
    rw [e]
    unfold boxStep
    rw [List.mem_flatMap]
    constructor
    · rintro ⟨u, hu, hx⟩
      obtain ⟨x, hx1, rfl⟩ := List.mem_map.mp hx
      have hx2 := mem_rng.mp hx1
      exact inBox_snoc.mpr ⟨(ih u).mp hu, by omega, by omega⟩
    · intro h
      obtain ⟨l⟩ := xs
      have hl : l.length = ds.length + 1 := by have := inBox_len h; simpa using this
      have hn : l ≠ [] := by intro c; subst c; simp at hl
      rw [← List.dropLast_concat_getLast hn] at h ⊢
      obtain ⟨a, b, c⟩ := inBox_snoc.mp h
      exact ⟨⟨l.dropLast⟩, (ih ⟨l.dropLast⟩).mpr a, List.mem_map.mpr ⟨l.getLast hn, mem_rng.mpr ⟨b, by omega⟩, rfl⟩⟩
theorem box_len {T : Nat} : ∀ (n : Nat) (ts : List Int), ts.length = n → (∀ t, t ∈ ts → 0 ≤ t ∧ t ≤ T) → (box ts).length ≤ (T + 1) ^ n := by
  intro n
  induction n with
  | zero =>
    intro ts hl _
    have : ts = [] := List.eq_nil_of_length_eq_zero hl
    subst this
    exact Nat.le_refl _
  | succ n ih =>
    intro ts hl h0
    have hne : ts ≠ [] := by intro c; subst c; simp at hl
    rw [← List.dropLast_concat_getLast hne]
    have ih := ih ts.dropLast (by rw [List.length_dropLast]; omega) fun t ht => h0 t ((List.dropLast_sublist ts).subset ht)
    have hg := h0 _ (List.getLast_mem hne)
    generalize ts.dropLast = ds at *
    generalize ts.getLast hne = t at *
    have e : box (ds ++ [t]) = boxStep (box ds) t := by unfold box; rw [List.foldl_append]; rfl
    rw [e]
    unfold boxStep
    rw [List.length_flatMap]
    have key : ∀ l : List (Tup Int), (l.map fun u => ((rngL 0 (t + 1).toNat).map fun x => (⟨u.l ++ [x]⟩ : Tup Int)).length).sum ≤ l.length * (T + 1) := by
      intro l
      induction l with
      | nil => simp
      | cons u l ih2 =>
        rw [List.map_cons, List.sum_cons, List.length_cons, List.length_map, rng_len, Nat.add_mul, Nat.one_mul]
        omega
    refine Nat.le_trans (key _) ?_
    rw [Nat.pow_succ]
    exact Nat.mul_le_mul_right _ ih
instance {α β γ : Type} [Enc α] [Enc β] [Enc γ] [S : Rp α] [T : Rp β] [U : Rp γ] : Rp (T3 α β γ) := ⟨fun t => S.len t.a + T.len t.b + U.len t.c + 9, fun t => S.sm t.a ∧ T.sm t.b ∧ U.sm t.c, fun t h => by
  obtain ⟨h1, h2⟩ := S.ok t.a h.1
  obtain ⟨h3, h4⟩ := T.ok t.b h.2.1
  obtain ⟨h5, h6⟩ := U.ok t.c h.2.2
  refine ⟨?_, ?_⟩
  · show ((enc t.a : PyData).showable && ((enc t.b : PyData).showable && ((enc t.c : PyData).showable && true))) = true
    rw [h1, h3, h5]; rfl
  · have := tupleText_len_le [(enc t.a : PyData).shown, (enc t.b : PyData).shown, (enc t.c : PyData).shown]
    show (tupleText [(enc t.a : PyData).shown, (enc t.b : PyData).shown, (enc t.c : PyData).shown]).length ≤ _
    simp only [List.map_cons, List.map_nil, List.sum_cons, List.sum_nil, List.length_cons, List.length_nil] at this
    omega⟩
instance {α β γ δ : Type} [Enc α] [Enc β] [Enc γ] [Enc δ] [S : Rp α] [T : Rp β] [U : Rp γ] [V : Rp δ] : Rp (T4 α β γ δ) := ⟨fun t => S.len t.a + T.len t.b + U.len t.c + V.len t.d + 11, fun t => S.sm t.a ∧ T.sm t.b ∧ U.sm t.c ∧ V.sm t.d, fun t h => by
  obtain ⟨h1, h2⟩ := S.ok t.a h.1
  obtain ⟨h3, h4⟩ := T.ok t.b h.2.1
  obtain ⟨h5, h6⟩ := U.ok t.c h.2.2.1
  obtain ⟨h7, h8⟩ := V.ok t.d h.2.2.2
  refine ⟨?_, ?_⟩
  · show ((enc t.a : PyData).showable && ((enc t.b : PyData).showable && ((enc t.c : PyData).showable && ((enc t.d : PyData).showable && true)))) = true
    rw [h1, h3, h5, h7]; rfl
  · have := tupleText_len_le [(enc t.a : PyData).shown, (enc t.b : PyData).shown, (enc t.c : PyData).shown, (enc t.d : PyData).shown]
    show (tupleText [(enc t.a : PyData).shown, (enc t.b : PyData).shown, (enc t.c : PyData).shown, (enc t.d : PyData).shown]).length ≤ _
    simp only [List.map_cons, List.map_nil, List.sum_cons, List.sum_nil, List.length_cons, List.length_nil] at this
    omega⟩
/-- how long a text of data may be, with all in it small -/
def RB {α : Type} [Enc α] [S : Rp α] (x : α) (n : Nat) : Prop := S.sm x ∧ S.len x ≤ n
theorem rb_repr {α : Type} [Enc α] [S : Rp α] {x : α} {n : Nat} (h : RB x n) (hn : n ≤ 16777216) : reprD (enc x) = some (enc x : PyData).shown := repr_ok h.1 (Nat.le_trans h.2 hn)
theorem rb_bits {i : Int} {k : Nat} (h : i.natAbs < 2 ^ k) (hk : k < 1900) : RB i (k + 3) := by
  have : i.natAbs.log2 ≤ k := by
    by_cases c : i.natAbs = 0
    · rw [c]; simp
    · exact Nat.le_of_lt ((Nat.log2_lt c).mpr h)
  exact ⟨show i.natAbs.log2 < 1900 by omega, show i.natAbs.log2 + 3 ≤ k + 3 by omega⟩
theorem rb_int {i : Int} (h : i.natAbs < 2 ^ 30) : RB i 33 := rb_bits h (by decide)
theorem rb_list {α : Type} [Enc α] [S : Rp α] {l : List α} {c n : Nat} (hl : l.length ≤ n) (h : ∀ x, x ∈ l → RB x c) : RB l (n * (c + 2) + 3) := by
  refine ⟨fun x hx => (h x hx).1, ?_⟩
  have h1 := len_list (α := α) c l fun x hx => (h x hx).2
  have h2 := Nat.mul_le_mul_right (c + 2) hl
  omega
theorem rb_tup {α : Type} [Enc α] [S : Rp α] {l : Tup α} {c n : Nat} (hl : l.l.length ≤ n) (h : ∀ x, x ∈ l.l → RB x c) : RB l (n * (c + 2) + 3) := rb_list (l := l.l) hl h
theorem rb_t2 {α β : Type} [Enc α] [Enc β] [S : Rp α] [T : Rp β] {t : T2 α β} {m n : Nat} (h1 : RB t.a m) (h2 : RB t.b n) : RB t (m + n + 7) := ⟨⟨h1.1, h2.1⟩, by
  have a := h1.2
  have b := h2.2
  show S.len t.a + T.len t.b + 7 ≤ _
  omega⟩
theorem rb_t3 {α β γ : Type} [Enc α] [Enc β] [Enc γ] [S : Rp α] [T : Rp β] [U : Rp γ] {t : T3 α β γ} {m n o : Nat} (h1 : RB t.a m) (h2 : RB t.b n) (h3 : RB t.c o) : RB t (m + n + o + 9) := ⟨⟨h1.1, h2.1, h3.1⟩, by
  have a := h1.2
  have b := h2.2
  have c := h3.2
  show S.len t.a + T.len t.b + U.len t.c + 9 ≤ _
  omega⟩
theorem rb_t4 {α β γ δ : Type} [Enc α] [Enc β] [Enc γ] [Enc δ] [S : Rp α] [T : Rp β] [U : Rp γ] [V : Rp δ] {t : T4 α β γ δ} {m n o p : Nat} (h1 : RB t.a m) (h2 : RB t.b n) (h3 : RB t.c o) (h4 : RB t.d p) : RB t (m + n + o + p + 11) := ⟨⟨h1.1, h2.1, h3.1, h4.1⟩, by
  have a := h1.2
  have b := h2.2
  have c := h3.2
  have d := h4.2
  show S.len t.a + T.len t.b + U.len t.c + V.len t.d + 11 ≤ _
  omega⟩
theorem rb_opt {α : Type} [Enc α] [S : Rp α] {o : Option α} {n : Nat} (hn : 4 ≤ n) (h : ∀ x, o = some x → RB x n) : RB o n := ⟨fun x hx => (h x hx).1, by
  cases o with
  | none => exact hn
  | some x => exact (h x rfl).2⟩
end Lay

set_option Elab.async false
set_option linter.all false
set_option maxRecDepth 100000
/-! LayW: data whose lists are new; what is spoilt by a store. -/
namespace Lay
open PySem PySem.Spec PyProof.Rows L2
open Lay.Enc (enc)

/-! ### new lists -/
theorem rgN_tup {F I : Hp} {a : Addr} {xs : List V} (h : Rd I a (.tup xs)) : Rd (rgN F I) a (.tup xs) := by
  rcases h with h | ⟨o, h⟩
  · refine .inl ?_; unfold rgN; rw [h]
  · refine .inr ⟨o, ?_⟩; unfold rgN; rw [h]
theorem rgN_lst {F I : Hp} {a : Addr} {xs : List V} (h : Rd (rgN F I) a (.lst xs)) : I a = some (.lst xs) ∧ F a = none := by
  rcases h with h | ⟨o, h⟩
  · refine ⟨rgN_le _ _ h, ?_⟩
    have h2 := rgN_le _ _ h
    unfold rgN at h
    rw [h2] at h
    cases e : F a with
    | none => rfl
    | some u => rw [e] at h; cases h
  · have h2 := rgN_le _ _ h
    unfold rgN at h
    rw [h2] at h
    cases h
theorem rgN_new {F I : Hp} {p : Addr} {xs : List V} (hF : F p = none) : rgN F (upd I p (.lst xs)) p = some (.lst xs) := by
  unfold rgN; rw [upd_same, hF]
/-- no list within -/
class LF (α : Type) [Enc α] : Prop where
  mv : ∀ (x : α) (I J : Hp) (v : V), (∀ a xs, Rd I a (.tup xs) → Rd J a (.tup xs)) → Dq I v (enc x) → Dq J v (enc x)
theorem LF.lf {α : Type} [Enc α] [S : LF α] (x : α) (F I : Hp) (v : V) (d : Dq I v (enc x)) : Dq (rgN F I) v (enc x) := S.mv x I _ v (fun _ _ => rgN_tup) d
instance : LF Int := ⟨fun x I J v t d => by cases d; exact .int _⟩
instance : LF Bool := ⟨fun x I J v t d => by cases d; exact .bl _⟩
instance : LF Str := ⟨fun x I J v t d => by cases d; exact .str _⟩
instance : LF Unit := ⟨fun x I J v t d => by cases d; exact .non⟩
instance {α : Type} [Enc α] [S : LF α] : LF (Option α) := ⟨fun x I J v t d => by
  cases x with
  | none => cases d; exact .non
  | some x => exact S.mv x I J v t d⟩
theorem mvAll {α : Type} [Enc α] [S : LF α] {I J : Hp} (t : ∀ a xs, Rd I a (.tup xs) → Rd J a (.tup xs)) : ∀ {xs : List V} {l : List α}, DqAll I xs (l.map enc) → DqAll J xs (l.map enc)
  | [], [], _ => .nil
  | _ :: _, _ :: _, .cons d r => .cons (S.mv _ _ _ _ t d) (mvAll t r)
theorem lfAll {α : Type} [Enc α] [S : LF α] {F I : Hp} {xs : List V} {l : List α} (h : DqAll I xs (l.map enc)) : DqAll (rgN F I) xs (l.map enc) := mvAll (fun _ _ => rgN_tup) h
instance {α : Type} [Enc α] [S : LF α] : LF (Tup α) := ⟨fun x I J v t d => by
  cases d with | tup h1 h2 => exact .tup (t _ _ h1) (mvAll t h2)⟩
instance {α β : Type} [Enc α] [Enc β] [S : LF α] [T : LF β] : LF (T2 α β) := ⟨fun x I J v t d => by
  cases d with | tup h1 h2 => cases h2 with | cons a h2 => cases h2 with | cons b h2 => cases h2; exact .tup (t _ _ h1) (.cons (S.mv _ _ _ _ t a) (.cons (T.mv _ _ _ _ t b) .nil))⟩
instance {α β γ : Type} [Enc α] [Enc β] [Enc γ] [S : LF α] [T : LF β] [U : LF γ] : LF (T3 α β γ) := ⟨fun x I J v t d => by
  cases d with | tup h1 h2 => cases h2 with | cons a h2 => cases h2 with | cons b h2 => cases h2 with | cons c h2 => cases h2; exact .tup (t _ _ h1) (.cons (S.mv _ _ _ _ t a) (.cons (T.mv _ _ _ _ t b) (.cons (U.mv _ _ _ _ t c) .nil)))⟩
instance {α β γ δ : Type} [Enc α] [Enc β] [Enc γ] [Enc δ] [S : LF α] [T : LF β] [U : LF γ] [W : LF δ] : LF (T4 α β γ δ) := ⟨fun x I J v t d => by
  cases d with | tup h1 h2 => cases h2 with | cons a h2 => cases h2 with | cons b h2 => cases h2 with | cons c h2 => cases h2 with | cons e h2 => cases h2; exact .tup (t _ _ h1) (.cons (S.mv _ _ _ _ t a) (.cons (T.mv _ _ _ _ t b) (.cons (U.mv _ _ _ _ t c) (.cons (W.mv _ _ _ _ t e) .nil))))⟩

/-- data whose lists are new -/
def tN (K : PySem.W.Frag) (G : List Sl) (d : PyData) : TE := fun σ H Q => ∃ F I ps, RS K F G σ H I ps ∧ ∀ v H' I', Grow F I I' → RS K F G σ H' I' ps → Dq (rgN F I') v d → Q v H'
/-- a new list of such -/
def tON (K : PySem.W.Frag) (G : List Sl) (ds : List PyData) : TE := fun σ H Q => ∃ F I ps, RS K F G σ H I ps ∧ ∀ p xs H' I', Grow F I I' → RS K F G σ H' I' ps → I' p = none → F p = none → (∀ i, ps i ≠ some p) → H' p = some (.lst xs) → DqAll (rgN F I') xs ds → Q (.ref p) H'
def tAN (K : PySem.W.Frag) (G : List Sl) (ds : List PyData) : TA := fun σ H Q => ∃ F I ps, RS K F G σ H I ps ∧ ∀ vs H' I', Grow F I I' → RS K F G σ H' I' ps → DqAll (rgN F I') vs ds → Q vs H'
def EN (X : Cx) (G : List Sl) {α : Type} [Enc α] (e : Expr) (o : Option α) : Prop := ∀ x, o = some x → PE X e (tN X.K G (enc x))
def EON (X : Cx) (G : List Sl) {α : Type} [Enc α] (e : Expr) (o : Option (List α)) : Prop := ∀ l, o = some l → PE X e (tON X.K G (l.map enc))
def AN (X : Cx) (G : List Sl) (es : List Expr) (o : Option (List PyData)) : Prop := ∀ ds, o = some ds → PA X es (tAN X.K G ds)
def ALN (X : Cx) (G : List Sl) {α : Type} [Enc α] (es : List Expr) (o : Option (List α)) : Prop := ∀ l, o = some l → PA X es (tAN X.K G (l.map enc))
section
variable {X : Cx} {G : List Sl} {α β γ δ : Type} [Enc α] [Enc β] [Enc γ] [Enc δ] {e a b : Expr} {es : List Expr} {pos p : Pos}
theorem en_free [S : LF α] {o : Option α} (h : ED X G e o) : EN X G e o := fun x hx => (h x hx).imp fun σ H Q ⟨F, I, ps, R, q⟩ => ⟨F, I, ps, R, fun v H' I' g R' d => q v H' I' g R' (S.lf _ _ _ _ d)⟩
theorem ed_of_en {o : Option α} (h : EN X G e o) : ED X G e o := fun x hx => (h x hx).imp fun σ H Q ⟨F, I, ps, R, q⟩ => ⟨F, I, ps, R, fun v H' I' g R' d => q v H' I' g R' (Dq_mono rgN_le _ _ d)⟩
theorem eo_of_eon {o : Option (List α)} (h : EON X G e o) : EO X G e o := fun x hx => (h x hx).imp fun σ H Q ⟨F, I, ps, R, q⟩ => ⟨F, I, ps, R, fun p xs H' I' g R' n1 n2 n3 hH d => q p xs H' I' g R' n1 n2 n3 hH (DqAll_mono rgN_le _ _ d)⟩
theorem eon_free [S : LF α] {o : Option (List α)} (h : EO X G e o) : EON X G e o := fun x hx => (h x hx).imp fun σ H Q ⟨F, I, ps, R, q⟩ => ⟨F, I, ps, R, fun p xs H' I' g R' n1 n2 n3 hH d => q p xs H' I' g R' n1 n2 n3 hH (lfAll d)⟩
theorem en_of_eon {o : Option (List α)} (h : EON X G e o) : EN X G e o := fun l hl => (h l hl).imp fun σ H Q ⟨F, I, ps, R, q⟩ => ⟨F, I, ps, R, fun p xs H' I' g R' hI hF hp hH d => by
  obtain ⟨g', R'', d'⟩ := frz_new g R' hI hF hp hH (DqAll_mono rgN_le _ _ d)
  exact q _ _ _ g' R'' (.lst (.inl (rgN_new hF)) (DqAll_mono (rgN_mono (same_upd hI)) _ _ d))⟩
theorem en_coe {o : Option α} (c : α → β) (hc : ∀ x, enc (c x) = enc x) (h : EN X G e o) : EN X G e (lift1 c o) := fun y hy => by
  obtain ⟨x, h1, h2⟩ := lift1_get hy
  rw [← h2, hc]; exact h x h1
theorem en_coeP {o : Option α} (c : α → Option β) (hc : ∀ x y, c x = some y → enc y = enc x) (h : EN X G e o) : EN X G e (o.bind c) := fun y hy => by
  obtain ⟨x, h1, h2⟩ := bind_get hy
  rw [hc x y h2]; exact h x h1
theorem en_some {o : Option α} (h : EN X G e o) : EN X G e (lift1 (some : α → Option α) o) := en_coe _ (fun _ => rfl) h
theorem en_get {o : Option (Option α)} (h : EN X G e o) : EN X G e (o.bind id) := en_coeP _ (fun x y h => by have h : x = some y := h; subst h; rfl) h
theorem en_none {j : Nat} {pos : Pos} : EN X G (.Constant .none j pos) (some (none : Option α)) := fun y hy => by
  cases hy; exact pe_non.imp fun σ H Q ⟨F, I, ps, R, q⟩ => q _ H I Grow.refl R .non
/-- the slot's data -/
theorem ed_slot {N : List Str} {sc : Scope} {fs : Option Scope} {k i : Nat} {x : Str} {d : PyData} {t : TE} (C : Ctx X N sc fs k) (hv : visB N sc i x = true)
    (h : ∀ σ H Q, t σ H Q → ∃ F I ps, RS X.K F G σ H I ps ∧ ∃ v, σ[i]? = some (some v) ∧ Q v H) : PE X (.Name x pos) t := by
  unfold visB at hv
  simp only [Bool.and_eq_true, decide_eq_true_eq, Bool.not_eq_true'] at hv
  obtain ⟨⟨⟨h1, h2⟩, h3⟩, h4⟩ := hv
  have hvis : Vis X.env.scope x := by
    rw [C.s]; unfold Vis
    split at h2 <;> simp_all
  refine (pe_var (by rw [C.n]; exact h1) hvis h3 h4).imp fun σ H Q q => ?_
  obtain ⟨F, I, ps, R, v, e, q⟩ := h σ H Q q
  exact ⟨v, e, q⟩
theorem slot_lt {s : Sl} {i : Nat} (hs : slAt G i = s) (hn : s ≠ .un) : i < G.length := by
  by_cases c : i < G.length
  · exact c
  · rw [slAt_out (by omega)] at hs; exact absurd hs.symm hn
theorem en_var {N : List Str} {sc : Scope} {fs : Option Scope} {k i : Nat} {x : Str} {v : α} (C : Ctx X N sc fs k) (hv : visB N sc i x = true) (hs : slAt G i = .nw (enc v)) : EN X G (.Name x pos) (some v) := fun y hy => by
  cases hy
  refine ed_slot (d := enc v) (G := G) C hv fun σ H Q ⟨F, I, ps, R, q⟩ => ?_
  obtain ⟨w, k1, k2⟩ := R.sl i (slot_lt hs (by simp))
  rw [hs] at k2
  obtain ⟨_, z, e, d⟩ := k2
  subst e
  exact ⟨F, I, ps, R, z, k1, q z H I Grow.refl R d⟩
theorem ed_varN {N : List Str} {sc : Scope} {fs : Option Scope} {k i : Nat} {x : Str} {v : α} (C : Ctx X N sc fs k) (hv : visB N sc i x = true) (hs : slAt G i = .nw (enc v)) : ED X G (.Name x pos) (some v) := ed_of_en (en_var C hv hs)
theorem ed_varO {N : List Str} {sc : Scope} {fs : Option Scope} {k i : Nat} {x : Str} {v : α} (C : Ctx X N sc fs k) (hv : visB N sc i x = true) (hs : slAt G i = .old (enc v)) : ED X G (.Name x pos) (some v) := fun y hy => by
  cases hy
  refine ed_slot (d := enc v) (G := G) C hv fun σ H Q ⟨F, I, ps, R, q⟩ => ?_
  obtain ⟨w, k1, k2⟩ := R.sl i (slot_lt hs (by simp))
  rw [hs] at k2
  obtain ⟨_, z, e, d⟩ := k2
  subst e
  exact ⟨F, I, ps, R, z, k1, q z H I Grow.refl R (Dq_mono rgO_le _ _ d)⟩

/-! ### displays -/
theorem an_nil : AN X G [] (some []) := fun ds h => by
  cases h
  exact pa_nil.imp fun σ H Q ⟨F, I, ps, R, q⟩ => q _ _ _ Grow.refl R .nil
theorem an_cons {o : Option α} {ods : Option (List PyData)} (h : EN X G e o) (hr : AN X G es ods) (hs : starEach (e :: es) X.env = (false, eval e X.env) :: starEach es X.env := by rfl) :
    AN X G (e :: es) (lift2 (fun x ds => enc x :: ds) o ods) := fun ds hd => by
  obtain ⟨x, ds', h1, h2, h3⟩ := lift2_get hd
  subst h3
  exact (pa_cons (h x h1) (hr ds' h2) hs).imp fun σ H Q ⟨F, I, ps, R, q⟩ => ⟨F, I, ps, R, fun v H1 I1 g1 R1 d1 => ⟨F, I1, ps, R1, fun vs H2 I2 g2 R2 d2 => q _ _ _ (g1.trans g2) R2 (.cons (Dq_mono (rgN_mono g2.same) _ _ d1) d2)⟩⟩
theorem aln_nil : ALN X G [] (some ([] : List α)) := fun l h => by
  cases h
  exact pa_nil.imp fun σ H Q ⟨F, I, ps, R, q⟩ => q _ _ _ Grow.refl R .nil
theorem aln_cons {o : Option α} {ol : Option (List α)} (h : EN X G e o) (hr : ALN X G es ol) (hs : starEach (e :: es) X.env = (false, eval e X.env) :: starEach es X.env := by rfl) :
    ALN X G (e :: es) (lift2 List.cons o ol) := fun l hl => by
  obtain ⟨x, l', h1, h2, h3⟩ := lift2_get hl
  subst h3
  exact (pa_cons (h x h1) (hr l' h2) hs).imp fun σ H Q ⟨F, I, ps, R, q⟩ => ⟨F, I, ps, R, fun v H1 I1 g1 R1 d1 => ⟨F, I1, ps, R1, fun vs H2 I2 g2 R2 d2 => q _ _ _ (g1.trans g2) R2 (.cons (Dq_mono (rgN_mono g2.same) _ _ d1) d2)⟩⟩
theorem aln_star {o ol : Option (List α)} (h : EN X G e o) (hr : ALN X G es ol) (hs : starEach (.Starred e p :: es) X.env = (true, eval e X.env) :: starEach es X.env := by rfl) :
    ALN X G (.Starred e p :: es) (lift2 (· ++ ·) o ol) := fun l hl => by
  obtain ⟨x, l', h1, h2, h3⟩ := lift2_get hl
  subst h3
  refine (StX.pa_star (h x h1) (hr l' h2) hs).imp fun σ H Q ⟨F, I, ps, R, q⟩ => ⟨F, I, ps, R, fun v H1 I1 g1 R1 d1 => ?_⟩
  cases d1 with
  | lst k1 k2 => exact ⟨_, _, rfl, .inr (.inl (rd_mono (rgN_le.trans R1.si) k1)), F, I1, ps, R1, fun vs H2 I2 g2 R2 d2 => q _ _ _ (g1.trans g2) R2 (by rw [List.map_append]; exact (DqAll_mono (rgN_mono g2.same) _ _ k2).app d2)⟩
theorem eon_list {ol : Option (List α)} (h : ALN X G es ol) : EON X G (.List es pos) (ol.bind szG) := fun l hl => by
  obtain ⟨x, h1, h2⟩ := bind_get hl
  obtain ⟨hz, e⟩ := ite_get h2
  subst e
  exact (pe_lst (h x h1)).imp fun σ H Q ⟨F, I, ps, R, q⟩ => ⟨F, I, ps, R, fun vs H1 I1 g1 R1 d => ⟨by rw [d.len, List.length_map]; exact hz, fun p hp =>
    q p vs _ I1 g1 (R1.newOwn hp) (R1.si.free hp) (R1.sf.free hp) (fun i c => by obtain ⟨_, _, _, z⟩ := R1.own_at c; rw [hp] at z; cases z) upd_same d⟩⟩
theorem tupN_of {k : Nat} {ds : List PyData} {r : PyData} (h : PA X es (tAN X.K G ds)) (hz : ds.length ≤ sizeLine) (hr : r = .tuple ds) : PE X (.Tuple es k pos) (tN X.K G r) := by
  subst hr
  refine (pe_tup h).imp fun σ H Q ⟨F, I, ps, R, q⟩ => ⟨F, I, ps, R, fun vs H1 I1 g1 R1 d => ⟨by rw [d.len]; exact hz, fun p hp => ?_⟩⟩
  have s := R1.grow_new (o := .tup vs) hp
  exact q (.ref p) _ _ (g1.trans s) (R1.new hp) (.tup (rgN_tup (.inl upd_same)) (DqAll_mono (rgN_mono s.same) _ _ d))
theorem en_t2 {e1 e2 : Expr} {k : Nat} {oa : Option α} {ob : Option β} (ha : EN X G e1 oa) (hb : EN X G e2 ob) (s1 : starEach [e1, e2] X.env = (false, eval e1 X.env) :: starEach [e2] X.env := by rfl) (s2 : starEach [e2] X.env = [(false, eval e2 X.env)] := by rfl) :
    EN X G (.Tuple [e1, e2] k pos) (lift2 T2.mk oa ob) := fun t ht => by
  obtain ⟨x, y, h1, h2, h3⟩ := lift2_get ht
  subst h3
  exact tupN_of (an_cons ha (an_cons hb an_nil s2) s1 _ (by rw [h1, h2]; rfl)) (small_line (by show 2 ≤ 8; decide)) rfl
theorem en_t3 {e1 e2 e3 : Expr} {k : Nat} {oa : Option α} {ob : Option β} {oc : Option γ} (ha : EN X G e1 oa) (hb : EN X G e2 ob) (hc : EN X G e3 oc)
    (s1 : starEach [e1, e2, e3] X.env = (false, eval e1 X.env) :: starEach [e2, e3] X.env := by rfl) (s2 : starEach [e2, e3] X.env = (false, eval e2 X.env) :: starEach [e3] X.env := by rfl) (s3 : starEach [e3] X.env = [(false, eval e3 X.env)] := by rfl) :
    EN X G (.Tuple [e1, e2, e3] k pos) (lift3 T3.mk oa ob oc) := fun t ht => by
  obtain ⟨x, h1, ht⟩ := bind_get ht
  obtain ⟨y, h2, ht⟩ := bind_get ht
  obtain ⟨z, h3, ht⟩ := bind_get ht
  cases ht
  exact tupN_of (an_cons ha (an_cons hb (an_cons hc an_nil s3) s2) s1 _ (by rw [h1, h2, h3]; rfl)) (small_line (by show 3 ≤ 8; decide)) rfl
theorem en_t4 {e1 e2 e3 e4 : Expr} {k : Nat} {oa : Option α} {ob : Option β} {oc : Option γ} {od : Option δ} (ha : EN X G e1 oa) (hb : EN X G e2 ob) (hc : EN X G e3 oc) (hd : EN X G e4 od)
    (s1 : starEach [e1, e2, e3, e4] X.env = (false, eval e1 X.env) :: starEach [e2, e3, e4] X.env := by rfl) (s2 : starEach [e2, e3, e4] X.env = (false, eval e2 X.env) :: starEach [e3, e4] X.env := by rfl) (s3 : starEach [e3, e4] X.env = (false, eval e3 X.env) :: starEach [e4] X.env := by rfl) (s4 : starEach [e4] X.env = [(false, eval e4 X.env)] := by rfl) :
    EN X G (.Tuple [e1, e2, e3, e4] k pos) (lift4 T4.mk oa ob oc od) := fun t ht => by
  obtain ⟨x, h1, ht⟩ := bind_get ht
  obtain ⟨y, h2, ht⟩ := bind_get ht
  obtain ⟨z, h3, ht⟩ := bind_get ht
  obtain ⟨w, h4, ht⟩ := bind_get ht
  cases ht
  exact tupN_of (an_cons ha (an_cons hb (an_cons hc (an_cons hd an_nil s4) s3) s2) s1 _ (by rw [h1, h2, h3, h4]; rfl)) (small_line (by show 4 ≤ 8; decide)) rfl

/-! ### items -/
theorem tN_op {K : PySem.W.Frag} {r : R2} {d1 d2 d : PyData} (h : ∀ (F : Hp) (G : List Sl) (σ : L2.St) (H I : Hp) (ps : Nat → Option Addr) (v w : V) (Q : VK), RS K F G σ H I ps → Dq (rgN F I) v d1 → Dq I w d2 → (∀ u H' I', Grow F I I' → RS K F G σ H' I' ps → Dq (rgN F I') u d → Q u H') → r v w H Q) (σ : L2.St) (H : Hp) (Q : VK) (t : tN K G d σ H Q) : tOp r (tN K G d1) (tD K G d2) σ H Q := by
  obtain ⟨F, I, ps, R, q⟩ := t
  refine ⟨F, I, ps, R, fun v H1 I1 g1 R1 dv => ⟨F, I1, ps, R1, fun w H2 I2 g2 R2 dw => ?_⟩⟩
  exact h F G σ H2 I2 ps v w Q R2 (Dq_mono (rgN_mono g2.same) _ _ dv) dw fun u H3 I3 g3 R3 du => q u H3 I3 (g1.trans (g2.trans g3)) R3 du
theorem en_ix {ol : Option (List α)} {oi : Option Int} (ha : EN X G a ol) (hb : ED X G b oi) (hs : PlainIx b := by intro _ _; rfl) : EN X G (.Subscript a b pos) (bind2 atI ol oi) := fun z hz => by
  obtain ⟨l, i, h1, h2, h3⟩ := bind2_get hz
  refine (pe_ix ix_list (ha l h1) (hb i h2) hs).imp (tN_op ?_)
  intro F G σ H I ps v w Q R hv hw q
  cases hw
  cases hv with
  | lst k1 k2 =>
    obtain ⟨u, hu, du⟩ := k2.atI (atI_map h3)
    exact ⟨_, _, i, u, rfl, rfl, .inl (rd_mono (rgN_le.trans R.si) k1), hu, q u H I Grow.refl R du⟩
theorem en_proj {o : Option α} {i : Int} {j : Nat} {p : Pos} {f : α → β} (ha : EN X G a o) (hf : ∀ x, ∃ ds, enc x = .tuple ds ∧ atI ds i = some (enc (f x))) : EN X G (.Subscript a (.Constant (.int i) j p) pos) (lift1 f o) := fun z hz => by
  obtain ⟨x, h1, h2⟩ := lift1_get hz
  subst h2
  obtain ⟨ds, e1, e2⟩ := hf x
  refine (pe_ix ix_tup (ha x h1) (ed_num (G := G) i rfl) (fun _ _ => rfl)).imp (tN_op ?_)
  intro F G σ H I ps v w Q R hv hw q
  rw [e1] at hv
  cases hw
  cases hv with
  | tup k1 k2 =>
    obtain ⟨u, hu, du⟩ := k2.atI e2
    exact ⟨_, _, i, u, rfl, rfl, .inl (rd_mono (rgN_le.trans R.si) k1), hu, q u H I Grow.refl R du⟩
theorem en_20 {o : Option (T2 α β)} {j : Nat} {p : Pos} (h : EN X G a o) : EN X G (.Subscript a (.Constant (.int 0) j p) pos) (lift1 T2.a o) := en_proj h fun x => ⟨_, rfl, rfl⟩
theorem en_21 {o : Option (T2 α β)} {j : Nat} {p : Pos} (h : EN X G a o) : EN X G (.Subscript a (.Constant (.int 1) j p) pos) (lift1 T2.b o) := en_proj h fun x => ⟨_, rfl, rfl⟩
theorem en_30 {o : Option (T3 α β γ)} {j : Nat} {p : Pos} (h : EN X G a o) : EN X G (.Subscript a (.Constant (.int 0) j p) pos) (lift1 T3.a o) := en_proj h fun x => ⟨_, rfl, rfl⟩
theorem en_31 {o : Option (T3 α β γ)} {j : Nat} {p : Pos} (h : EN X G a o) : EN X G (.Subscript a (.Constant (.int 1) j p) pos) (lift1 T3.b o) := en_proj h fun x => ⟨_, rfl, rfl⟩
theorem en_32 {o : Option (T3 α β γ)} {j : Nat} {p : Pos} (h : EN X G a o) : EN X G (.Subscript a (.Constant (.int 2) j p) pos) (lift1 T3.c o) := en_proj h fun x => ⟨_, rfl, rfl⟩
theorem en_40 {o : Option (T4 α β γ δ)} {j : Nat} {p : Pos} (h : EN X G a o) : EN X G (.Subscript a (.Constant (.int 0) j p) pos) (lift1 T4.a o) := en_proj h fun x => ⟨_, rfl, rfl⟩
theorem en_41 {o : Option (T4 α β γ δ)} {j : Nat} {p : Pos} (h : EN X G a o) : EN X G (.Subscript a (.Constant (.int 1) j p) pos) (lift1 T4.b o) := en_proj h fun x => ⟨_, rfl, rfl⟩
theorem en_42 {o : Option (T4 α β γ δ)} {j : Nat} {p : Pos} (h : EN X G a o) : EN X G (.Subscript a (.Constant (.int 2) j p) pos) (lift1 T4.c o) := en_proj h fun x => ⟨_, rfl, rfl⟩
theorem en_43 {o : Option (T4 α β γ δ)} {j : Nat} {p : Pos} (h : EN X G a o) : EN X G (.Subscript a (.Constant (.int 3) j p) pos) (lift1 T4.d o) := en_proj h fun x => ⟨_, rfl, rfl⟩
theorem en_if {t : Expr} {oc : Option Bool} {oa ob : Option α} (hc : EB X G t oc) (ha : EN X G a oa) (hb : EN X G b ob) : EN X G (.IfExp t a b pos) (oc.bind fun c => bif c then oa else ob) := fun k hk => by
  obtain ⟨x, h1, hk⟩ := bind_get hk
  cases x with
  | true => exact (pe_ifExp (hc _ h1) (ha k hk) pe_never).imp fun σ H Q ⟨F, I, ps, R, q⟩ => ⟨F, I, ps, R, fun H' I' g R' => iteT (⟨F, I', ps, R', fun v H2 I2 g2 R2 d => q _ _ _ (g.trans g2) R2 d⟩)⟩
  | false => exact (pe_ifExp (hc _ h1) pe_never (hb k hk)).imp fun σ H Q ⟨F, I, ps, R, q⟩ => ⟨F, I, ps, R, fun H' I' g R' => iteF (⟨F, I', ps, R', fun v H2 I2 g2 R2 d => q _ _ _ (g.trans g2) R2 d⟩)⟩

/-! ### calls -/
theorem rgN_sub {F H I : Hp} (s : Same F H) : Same (rgN H I) (rgN F I) := fun a u h => by
  have h' := rgN_le _ _ h
  unfold rgN at h ⊢
  rw [h'] at h ⊢
  cases u with
  | lst xs =>
    cases e : H a with
    | none => rw [s.free e]
    | some w => rw [e] at h; cases h
  | frz o u => cases u <;> first | exact h | cases h
  | _ => exact h
section
variable {N : List Str} {sc : Scope} {fs : Option Scope} {k j : Nat} {x : Str} {prm : List Str} {g : List PyData → PyData → Prop} {ods : Option (List PyData)}
theorem en_call {o : Option α} (C : Ctx X N sc fs k) (c : Cal X.prog X.w X.K X.mg X.base CX0 j x prm (spD X.K .nw g)) (hj : j ≤ k) (hg : glbB sc x = true) (ha : AD X G (e :: es) ods) (ho : ∀ r, o = some r → ∃ ds, ods = some ds ∧ g ds (enc r))
    (he : starEach (e :: es) X.env = (false, eval e X.env) :: starEach es X.env := by rfl) (hp : (backTo pos (starEach es X.env)).any (·.1) = false := by rfl) : EN X G (.Call (.Name x p) (e :: es) [] pos) o := fun r hr => by
  obtain ⟨ds, h1, h2⟩ := ho r hr
  refine (pe_callG (c.up hj) C.gd C.rm C.s hg (pass0 (X := X)) (ha ds h1) he hp).imp fun σ H Q ⟨F, I, ps, R, q⟩ => ⟨F, I, ps, R, fun vs H1 I1 g1 R1 d => ⟨ds, _, I1, h2, R1.si, d, fun v H' I' s g' si rr => ?_⟩⟩
  obtain ⟨g2, R2⟩ := R1.called s g' si
  exact q v H' I' (g1.trans g2) R2 (Dq_mono (rgN_sub R1.sf) _ _ rr)
/-- a list of the caller's own, of data without lists -/
theorem eon_call [LF α] {o : Option (List α)} (C : Ctx X N sc fs k) (c : Cal X.prog X.w X.K X.mg X.base CX0 j x prm (spD X.K .ow g)) (hj : j ≤ k) (hg : glbB sc x = true) (ha : AD X G (e :: es) ods) (ho : ∀ r, o = some r → ∃ ds, ods = some ds ∧ g ds (enc r))
    (he : starEach (e :: es) X.env = (false, eval e X.env) :: starEach es X.env := by rfl) (hp : (backTo pos (starEach es X.env)).any (·.1) = false := by rfl) : EON X G (.Call (.Name x p) (e :: es) [] pos) o := eon_free (eo_call C c hj hg ha ho he hp)
end
/-- l + m -/
theorem eon_cat {oa ob : Option (List α)} (ha : EN X G a oa) (hb : EN X G b ob) : EON X G (.BinOp a .Add b pos) (bind2 catG oa ob) := fun z hz => by
  obtain ⟨l, m, h1, h2, h3⟩ := bind2_get hz
  obtain ⟨hc, h3⟩ := ite_get h3
  subst h3
  refine (pe_op op_catR (ha l h1) (hb m h2)).imp fun σ H Q ⟨F, I, ps, R, q⟩ => ⟨F, I, ps, R, fun v H1 I1 g1 R1 d1 => ⟨F, I1, ps, R1, fun w H2 I2 g2 R2 d2 => ?_⟩⟩
  have d1 := Dq_mono (rgN_mono g2.same) _ _ d1
  cases d1 with
  | lst k1 k2 =>
    cases d2 with
    | lst l1 l2 =>
      refine ⟨_, _, _, _, rfl, rfl, rd_mono (rgN_le.trans R2.si) k1, rd_mono (rgN_le.trans R2.si) l1, by rw [k2.len, l2.len, List.length_map, List.length_map]; exact hc, fun p hp => ?_⟩
      exact q p _ _ I2 (g1.trans g2) (R2.newOwn hp) (R2.si.free hp) (R2.sf.free hp) (fun i c => by obtain ⟨_, _, _, z⟩ := R2.own_at c; rw [hp] at z; cases z) upd_same (by rw [List.map_append]; exact k2.app l2)
end
end Lay

set_option Elab.async false
set_option linter.all false
set_option maxRecDepth 100000
/-! LayV: comprehensions and loops over data whose lists are new; stores that spoil it. -/
namespace Lay
open PySem PySem.Spec PyProof.Rows L2
open Lay.Enc (enc)
section
variable {K : PySem.W.Frag} {F : Hp} {G : List Sl} {σ : L2.St} {H H' I I' : Hp} {ps : Nat → Option Addr}
theorem RS.setNw (R : RS K F G σ H I ps) {i : Nat} {v : V} {d : PyData} (h : Dq (rgN F I) v d) : RS K F (G.set i (.nw d)) (σ.set i (some v)) H I (psDel ps i) where
  si := R.si
  sf := R.sf
  fo := fun j a h => by
    unfold psDel at h; split at h
    · cases h
    · exact R.fo j a h
  len := by simp [R.len]
  sl := fun j hj => by
    rw [List.length_set] at hj
    obtain ⟨w, h1, h2⟩ := R.sl j hj
    by_cases e : j = i
    · subst e
      refine ⟨some v, List.getElem?_set_self (by rw [← R.len]; exact hj), ?_⟩
      rw [slAt_set_self hj]
      exact ⟨if_pos rfl, v, rfl, h⟩
    · refine ⟨w, by rw [List.getElem?_set_ne (Ne.symm e)]; exact h1, ?_⟩
      rw [slAt_set_ne (Ne.symm e), show psDel ps i j = ps j from if_neg e]
      exact h2
  out := fun j hj => by
    unfold psDel; split
    · rfl
    · exact R.out j (by simpa using hj)
  dis := fun j l a h1 h2 => by
    unfold psDel at h1 h2
    split at h1
    · cases h1
    · split at h2
      · cases h2
      · exact R.dis j l a h1 h2
theorem RS.setOld (R : RS K F G σ H I ps) {i : Nat} {v : V} {d : PyData} (h : Dq (rgO F I) v d) : RS K F (G.set i (.old d)) (σ.set i (some v)) H I (psDel ps i) where
  si := R.si
  sf := R.sf
  fo := fun j a h => by
    unfold psDel at h; split at h
    · cases h
    · exact R.fo j a h
  len := by simp [R.len]
  sl := fun j hj => by
    rw [List.length_set] at hj
    obtain ⟨w, h1, h2⟩ := R.sl j hj
    by_cases e : j = i
    · subst e
      refine ⟨some v, List.getElem?_set_self (by rw [← R.len]; exact hj), ?_⟩
      rw [slAt_set_self hj]
      exact ⟨if_pos rfl, v, rfl, h⟩
    · refine ⟨w, by rw [List.getElem?_set_ne (Ne.symm e)]; exact h1, ?_⟩
      rw [slAt_set_ne (Ne.symm e), show psDel ps i j = ps j from if_neg e]
      exact h2
  out := fun j hj => by
    unfold psDel; split
    · rfl
    · exact R.out j (by simpa using hj)
  dis := fun j l a h1 h2 => by
    unfold psDel at h1 h2
    split at h1
    · cases h1
    · split at h2
      · cases h2
      · exact R.dis j l a h1 h2
end
/-- a comprehension of data whose lists are new -/
def LCN (X : Cx) (G : List Sl) (e : Expr) {α : Type} [Enc α] (o : Option (List α)) : Prop := ∀ l, o = some l → ∃ t : TE, PE X e t ∧
  (∀ (i : Nat) (y : Str) (py sp : Pos), X.N[i]? = some y → X.env.scope.names.lookup y = some .local → swapsWith e (some (.Name y py)) sp.line X.env = pure true → PS X (.Assign [.Name y py] e sp) (tAsg t (gName i))) ∧
  ∀ σ H Q, tON X.K G (l.map enc) σ H Q → t σ H Q
section
variable {X : Cx} {G : List Sl} {N : List Str} {sc : Scope} {fs : Option Scope} {k : Nat} {α β : Type} [Enc α] [Enc β] {elt tg iter : Expr} {ifs : List Expr} {scope : Scope} {pos : Pos} {g : L2.TG} {js : List Nat} {f : α → List Sl → List Sl}
theorem lcN_mk {own : List (Str × Nat)} {ol : Option (List α)} {oc : α → Option Bool} {oe : α → Option β} (C : Ctx X N sc fs k) (hi : IT X G tg iter ol) (ok : blkC N sc scope own = true)
    (hg : ∀ s H Ca cl fp, PG (X.blk s H scope (compEnvC scope cl Ca X.env) fp) tg g) (ht : Tgt X.K g js f) (hj : ∀ j ∈ js, j ∈ own.map (·.2)) (hf : ownFree G (own.map (·.2)) = true)
    (hc : ∀ s H Ca cl fp x, ETs (X.blk s H scope (compEnvC scope cl Ca X.env) fp) (f x (wipeG G (own.map (·.2)))) ifs (oc x))
    (he : ∀ s H Ca cl fp x, EN (X.blk s H scope (compEnvC scope cl Ca X.env) fp) (f x (wipeG G (own.map (·.2)))) elt (oe x)) (hs : ∀ x, foldedSetIterable iter X.env x = pure x := by intro _; rfl) :
    LCN X G (.ListComp elt [⟨tg, iter, ifs, 0⟩] scope pos) (ol.bind (lcL oc oe)) := fun r hr => by
  obtain ⟨l, h1, h2⟩ := bind_get hr
  obtain ⟨vs, hvs⟩ : ∃ vs, own.map (·.2) = vs := ⟨_, rfl⟩
  rw [hvs] at hj hf
  simp only [hvs] at hc he
  let te : TE := fun σ H Q => ∃ x y, oe x = some y ∧ tN X.K (f x (wipeG G vs)) (enc y) σ H Q
  let tt : TT := fun σ H Q => ∃ x b, oc x = some b ∧ tB X.K (f x (wipeG G vs)) b σ H Q
  have pe : ∀ s H Ca cl fp, PE (X.blk s H scope (compEnvC scope cl Ca X.env) fp) elt te := fun s H Ca cl fp => ⟨fun pins st σ H' Q I ⟨x, y, e, q⟩ => (he s H Ca cl fp x y e).run pins st σ H' Q I q⟩
  have pt : ∀ s H Ca cl fp, PTs (X.blk s H scope (compEnvC scope cl Ca X.env) fp) ifs tt := fun s H Ca cl fp => ⟨fun pins st σ H' Q I ⟨x, b, e, q⟩ => (hc s H Ca cl fp x b e).run pins st σ H' Q I q⟩
  have nd : X.N.Nodup := by rw [C.n]; exact C.nd
  have bk : BlkOk X.N X.env.scope scope own := by rw [C.n, C.s]; exact blkOk_by ok
  refine ⟨_, pe_lc C.calm nd (hi l h1) bk hg pt pe hs, fun i y py sp a b c => ps_setLc C.calm nd a b c (hi l h1) bk hg pt pe hs, fun σ H Q ⟨F, I, ps, R, q⟩ => ?_⟩
  rw [hvs]
  refine ⟨F, I, ps, R, fun J H1 I1 gr1 R1 wl ll D hD => ?_⟩
  have ll : l.length ≤ sizeLine := by rw [List.length_map] at ll; exact ll
  have hD1 : I1 D = none := R1.si.free hD
  have hDF : F D = none := R1.sf.free hD
  have hDp : ∀ i, ps i ≠ some D := fun i c => by obtain ⟨_, _, xs, z⟩ := R1.own_at c; rw [hD] at z; cases z
  -- the state between turns: the list made so far at D, the rest to be made
  refine ⟨fun i m H => m = l.length - i ∧ i ≤ l.length ∧ ∃ I' xs done rst, Grow F I1 I' ∧ RS X.K F G σ H I' ps ∧ I' D = none ∧ H D = some (.lst xs) ∧ DqAll (rgN F I') xs (done.map enc) ∧ done.length ≤ i ∧ lcL oc oe (l.drop i) = some rst ∧ r = done ++ rst,
    ⟨_, rfl, Nat.zero_le _, I1, [], [], r, Grow.refl, R1.newOwn hD, hD1, upd_same, .nil, Nat.le_refl _, h2, rfl⟩, ?_⟩
  rintro i m H3 ⟨rfl, hil, I3, xs, done, rst, gr3, R3, n3, hD3, d3, hlen, hr3, er⟩
  have sI : Same I1 H3 := gr3.same.trans R3.si
  by_cases hlt : i < l.length
  · have hx : l[i]? = some l[i] := List.getElem?_eq_getElem hlt
    obtain ⟨t, ht1, ht2⟩ := lcL_at hx hr3
    obtain ⟨go, yl⟩ := wl.go i (enc l[i]) H3 sI (by rw [List.getElem?_map, hx]; rfl)
    refine .inr ⟨go, fun H' => ∃ I' xs done rst, Grow F I1 I' ∧ RS X.K F G σ H' I' ps ∧ I' D = none ∧ H' D = some (.lst xs) ∧ DqAll (rgN F I') xs (done.map enc) ∧ done.length ≤ i + 1 ∧ lcL oc oe (l.drop (i + 1)) = some rst ∧ r = done ++ rst,
      fun H' hN => ⟨l.length - (i + 1), by omega, rfl, hlt, hN⟩, fun x H4 y4 => ?_⟩
    have item : ∃ I4, Grow F I3 I4 ∧ RS X.K F G σ H4 I4 ps ∧ Dq I4 x (enc l[i]) ∧ I4 D = none ∧ H4 D = some (.lst xs) := by
      rcases yl x H4 y4 with ⟨e, d⟩ | ⟨T, o, n, e, d⟩
      · subst e; exact ⟨I3, Grow.refl, R3, Dq_mono gr3.same _ _ d, n3, hD3⟩
      · subst e
        have nT : D ≠ T := ne_of_none hD3 n
        refine ⟨upd I3 T o, R3.grow_new n, R3.new n, Dq_mono (fun b u q => ?_) _ _ d, by rw [upd_ne nT]; exact n3, by rw [upd_ne nT]; exact hD3⟩
        by_cases c : b = T
        · subst c; rw [upd_same] at q ⊢; exact q
        · rw [upd_ne c] at q ⊢; exact gr3.same _ _ q
    obtain ⟨I4, g4, R4, d4, n4, hD4⟩ := item
    -- within the turn the new list stands for others
    have inner : ∀ {H' I'}, RS X.K F G σ H' I' ps → I' D = none → H' D = some (.lst xs) → RS X.K (upd F D (.lst xs)) G σ H' I' ps := fun {H' I'} r n h => r.frame (fun b o z => by
      by_cases c : b = D
      · subst c; rw [upd_same] at z; cases z; exact h
      · rw [upd_ne c] at z; exact r.sf _ _ z) (fun i a ha => by rw [upd_ne (fun c : a = D => hDp i (by rw [← c]; exact ha))]; exact r.fo i a ha) (upd_iff n) (fix_in hDF)
    have sF : Same F (upd F D (.lst xs)) := same_upd hDF
    have outer : ∀ {I' I''}, Grow (upd F D (.lst xs)) I' I'' → Grow F I' I'' := fun {I' I''} g => ⟨g.same, fun a h => (g.out a h).imp_right sF.free⟩
    have keepD : ∀ {I' I''}, Grow (upd F D (.lst xs)) I' I'' → I' D = none → I'' D = none := fun {I' I''} g n => by
      cases z : I'' D with
      | none => rfl
      | some o =>
        rcases g.out D (by rw [z]; simp) with h | h
        · exact absurd n h
        · rw [upd_same] at h; cases h
    have hpv := ownFree_ps R4 hf
    have Rw := (inner R4 n4 hD4).wiped vs hpv
    refine ht.go l[i] _ _ _ H4 I4 ps x _ Rw (fun j h => hpv j (hj j h)) d4 fun σ5 R5 w5 o5 => ⟨(w5 vs hj).trans wipe_wipe, ?_⟩
    -- what stands of the outer state behind
    have hG : ∀ (j : Nat) ds, slAt G j = .own ds → slAt (f (l[i]'hlt) (wipeG G vs)) j = .own ds ∧ j < (f (l[i]'hlt) (wipeG G vs)).length := fun j ds h => by
      have nv : j ∉ vs := fun z => by
        have q := List.all_eq_true.mp hf j z
        rw [h] at q; cases q
      have e : slAt (f (l[i]'hlt) (wipeG G vs)) j = .own ds := by rw [o5 j (fun z => nv (hj j z)), wipeG_out nv]; exact h
      refine ⟨e, ?_⟩
      by_cases c : j < (f (l[i]'hlt) (wipeG G vs)).length
      · exact c
      · rw [slAt_out (by omega)] at e; cases e
    refine ⟨l[i], t, ht1, upd F D (.lst xs), I4, ps, R5, fun H6 I6 g6 R6 => ?_⟩
    rcases ht2 with ⟨rfl, y, r', hy, er2, hr4⟩ | ⟨rfl, hr4⟩
    · refine iteT ⟨l[i], y, hy, upd F D (.lst xs), I6, ps, R6, fun v H7 I7 g7 R7 d7 => ?_⟩
      have g47 := outer (g6.trans g7)
      have hD7 : H7 D = some (.lst xs) := R7.sf _ _ upd_same
      have n7 : I7 D = none := keepD (g6.trans g7) n4
      have R8 := (R4.back R7 sF (g6.trans g7).same hG).wr (o := .lst (xs ++ [v])) n7 hDF hDp
      have lx : xs.length = done.length := by rw [d3.len, List.length_map]
      refine ⟨xs, hD7, by omega, I7, xs ++ [v], done ++ [y], r', gr3.trans (g4.trans g47), R8, n7, upd_same, ?_, by rw [List.length_append]; show done.length + 1 ≤ i + 1; omega, hr4, by rw [er, er2, List.append_assoc]; rfl⟩
      rw [List.map_append]
      exact (DqAll_mono (rgN_mono (g4.trans g47).same) _ _ d3).app (.cons (by rw [rgN_same (upd_iff n7)] at d7; exact d7) .nil)
    · have hD6 : H6 D = some (.lst xs) := R6.sf _ _ upd_same
      exact iteF ⟨I6, xs, done, rst, gr3.trans (g4.trans (outer g6)), R4.back R6 sF g6.same hG, keepD g6 n4, hD6, DqAll_mono (rgN_mono (g4.trans (outer g6)).same) _ _ d3, by omega, hr4, er⟩
  · have e : i = l.length := by omega
    subst e
    rw [List.drop_length] at hr3
    cases hr3
    rw [List.append_nil] at er
    subst er
    have wst := wl.st H3 sI
    rw [List.length_map] at wst
    exact .inl ⟨wst, q D xs H3 I3 (gr1.trans gr3) R3 n3 hDF hDp hD3 d3⟩
theorem eon_lc {e : Expr} {o : Option (List α)} (h : LCN X G e o) : EON X G e o := fun l hl => let ⟨t, p, _, w⟩ := h l hl; p.imp w
theorem lc_of_lcn {e : Expr} {o : Option (List α)} (h : LCN X G e o) : LC X G e o := fun l hl => let ⟨t, p, s, w⟩ := h l hl; ⟨t, p, s, fun σ H Q ⟨F, I, ps, R, q⟩ => w σ H Q ⟨F, I, ps, R, fun p xs H' I' g R' n1 n2 n3 hH d => q p xs H' I' g R' n1 n2 n3 hH (DqAll_mono rgN_le _ _ d)⟩⟩
end
/-! ### walks over lists of such -/
structure WlkN (K : PySem.W.Frag) (J : It) (I : Hp) (ds : List PyData) : Prop where
  go : ∀ (i : Nat) (d : PyData) (H : Hp), Same I H → ds[i]? = some d → J.go i H ∧ ∀ x H', J.yld i H x H' → H' = H ∧ Dq I x d
  st : ∀ (H : Hp), Same I H → J.stop ds.length H
def tIN (K : PySem.W.Frag) (G : List Sl) (ds : List PyData) (σ : L2.St) (H : Hp) (R : It → Hp → Prop) : Prop :=
  ∃ F I ps, RS K F G σ H I ps ∧ ∀ J H' I', Grow F I I' → RS K F G σ H' I' ps → WlkN K J (rgN F I') ds → ds.length ≤ sizeLine → R J H'
def ITN (X : Cx) (G : List Sl) (tg iter : Expr) {α : Type} [Enc α] (o : Option (List α)) : Prop := ∀ l, o = some l → PI X tg iter (tIN X.K G (l.map enc))
structure TgtN (K : PySem.W.Frag) (g : L2.TG) (js : List Nat) {α : Type} [Enc α] (f : α → List Sl → List Sl) : Prop where
  go : ∀ (x : α) (G : List Sl) (F : Hp) (σ : L2.St) (H I : Hp) (ps : Nat → Option Addr) (v : V) (Q : L2.St → Hp → Prop), RS K F G σ H I ps → (∀ j ∈ js, ps j = none) → Dq (rgN F I) v (enc x) →
    (∀ σ', RS K F (f x G) σ' H I ps → (∀ vs, (∀ j ∈ js, j ∈ vs) → wipe σ' vs = wipe σ vs) → (∀ i, i ∉ js → slAt (f x G) i = slAt G i) → Q σ' H) → g v σ H Q
def fNameN {α : Type} [Enc α] (i : Nat) : α → List Sl → List Sl := fun x G => G.set i (.nw (enc x))
theorem tgt_nameN {K : PySem.W.Frag} {α : Type} [Enc α] {i : Nat} : TgtN K (gName i) [i] (fNameN (α := α) i) := ⟨fun x G F σ H I ps v Q R hp d q => by
  have R1 := R.setNw (i := i) d
  rw [psDel_none (hp i (by simp))] at R1
  exact q _ R1 (fun vs h => wipe_set (h i (by simp))) fun j hj => slAt_set_ne fun e => hj (by simp [e])⟩
section
variable {X : Cx} {G : List Sl} {α : Type} [Enc α] {tg e : Expr}
theorem wlkN_list {K : PySem.W.Frag} {I : Hp} {a : Addr} {xs : List V} {ds : List PyData} (h1 : Rd I a (.lst xs)) (h2 : DqAll I xs ds) : WlkN K (Itl K a) I ds := by
  refine ⟨fun i d H s hd => ?_, fun H s => ⟨xs, (.inl (rd_mono s h1)), by rw [h2.len]; exact Nat.le_refl _⟩⟩
  obtain ⟨v, hv, dv⟩ := h2.at hd
  refine ⟨⟨xs, v, (.inl (rd_mono s h1)), hv⟩, fun x H' y => ?_⟩
  obtain ⟨e, y⟩ := y
  subst e
  have e2 := y xs (.inl (rd_mono s h1))
  rw [hv] at e2; cases e2
  exact ⟨rfl, dv⟩
theorem it_listN {o : Option (List α)} (h : EN X G e o) : ITN X G tg e o := fun l hl =>
  (pi_len (pi_list (h l hl)) fun σ H R R' w ⟨F, I, ps, r, q⟩ => ⟨F, I, ps, r, fun v H' I' g r' d => by obtain ⟨a, e, z, q⟩ := q v H' I' g r' d; exact ⟨a, e, z, w _ _ q⟩⟩).imp
  fun σ H R ⟨F, I, ps, r, q⟩ => ⟨F, I, ps, r, fun v H' I' g r' d => by
    cases d with
    | lst h1 h2 =>
      have h3 := rd_mono (rgN_le.trans r'.si) h1
      exact ⟨_, rfl, ⟨_, (.inl h3)⟩, fun lo => q _ _ I' g r' (wlkN_list h1 h2) (by rw [← h2.len]; exact (lo _ _).1 (.inl h3))⟩⟩
end
section
variable {X : Cx} {G : List Sl} {S S1 B R : Type} [Enc R] {P : S → List Sl} {P1 : S1 → List Sl} {PB : B → List Sl} {own : Rk} {rest body : List Stmt} {α : Type} [Enc α] {N : List Str} {sc : Scope} {fs : Option Scope} {k : Nat} {tg iter : Expr} {g : L2.TG} {js : List Nat} {f : α → List Sl → List Sl} {pos : Pos}
theorem sv_forN {step : S1 → α → Option (Out S1 S1 R)} {s0 : S1} {ol : Option (List α)} {kk : S1 → Option (Out S B R)} (C : Ctx X N sc fs k) (hi : ITN X G tg iter ol) (hg : PG X tg g) (ht : TgtN X.K g js f) (hu : ∀ s, unAt (P1 s) js = true) (hw : WkR G (P1 s0))
    (hb : ∀ s x, SV X (f x (P1 s)) body P1 P1 own.s (step s x)) (hk : ∀ s, SV X (P1 s) rest P PB own (kk s)) (hs : ∀ x, foldedSetIterable iter X.env x = pure x := by intro _; rfl) :
    SV X G (.For tg iter body [] pos :: rest) P PB own (ol.bind fun l => bindOut (forL step s0 l) kk) := fun y hy => by
  obtain ⟨l, h1, h2⟩ := bind_get hy
  unfold bindOut at h2
  obtain ⟨z, hz, h2⟩ := bind_get h2
  have pb : PSs X body (fun D σ H => ∃ s x o, step s x = some o ∧ tS X (f x (P1 s)) P1 P1 own.s o D σ H) := ⟨fun pins st σ H D I ⟨s, x, o, e, t⟩ => (hb s x o e).run pins st σ H D I t⟩
  have pf := ps_for (pos := pos) C.px C.calm (hi l h1) hg pb hs
  -- the loop, for any end wished
  have key : ∀ (D : Ends) (σ : L2.St) (H F I : Hp) (ps : Nat → Option Addr), RS X.K F G σ H I ps →
      (match z with
        | .nx s => ∀ σ' H' I' ps', Grow F I I' → RS X.K F (P1 s) σ' H' I' ps' → D.nx σ' H'
        | .rt r => ∀ v H' I', Grow F I I' → Same F H' → Same I' H' → RetR X.K own.k F I' H' v (enc r) → D.rt v H'
        | .er e => ∀ C d σ' H' I', X.mg e.k = some (.ref C) → Grow F I I' → Same F H' → Same I' H' → H' d = some (.xd [(("at" : Str), .int e.a)]) → WS X (.ref C) (some d) σ' H'
        | _ => True) → tFor (tIN X.K G (l.map enc)) g (fun D σ H => ∃ s x o, step s x = some o ∧ tS X (f x (P1 s)) P1 P1 own.s o D σ H) D σ H := by
    intro D σ H F I ps r q
    refine ⟨F, I, ps, r, fun J H1 I1 g1 r1 wl lenl => ?_⟩
    obtain ⟨I2, ps2, g2, r2⟩ := hw _ _ _ _ _ _ r1
    have gI : Grow F I I2 := g1.trans g2
    refine ⟨fun i m σ H => m = l.length - i ∧ i ≤ l.length ∧ ∃ s I' ps', forL step s (l.drop i) = some z ∧ Grow F I2 I' ∧ RS X.K F (P1 s) σ H I' ps', ⟨_, rfl, Nat.zero_le _, s0, I2, ps2, hz, Grow.refl, r2⟩, ?_⟩
    rintro i m σ3 H3 ⟨rfl, hi, s, I3, ps3, ez, g3, r3⟩
    have sI : Same I1 H3 := (g2.same.trans g3.same).trans r3.si
    by_cases hlt : i < l.length
    · have hx : l[i]? = some l[i] := List.getElem?_eq_getElem hlt
      obtain ⟨o, ho, hm⟩ := forL_at hx ez
      obtain ⟨go, yl⟩ := wl.go i (enc l[i]) H3 (rgN_le.trans sI) (by rw [List.getElem?_map, hx]; rfl)
      refine .inr ⟨go, fun σ' H' => ∃ s I' ps', forL step s (l.drop (i + 1)) = some z ∧ Grow F I2 I' ∧ RS X.K F (P1 s) σ' H' I' ps', fun σ' H' hN => ⟨l.length - (i + 1), by omega, rfl, hlt, hN⟩, fun x H4 y4 => ?_⟩
      -- the item's data in a persistent part
      have item : ∃ I4, Grow F I3 I4 ∧ RS X.K F (P1 s) σ3 H4 I4 ps3 ∧ Dq (rgN F I4) x (enc l[i]) := by
        obtain ⟨e, d⟩ := yl x H4 y4
        subst e; exact ⟨I3, Grow.refl, r3, Dq_mono (rgN_mono (g2.same.trans g3.same)) _ _ d⟩
      obtain ⟨I4, g4, r4, d4⟩ := item
      refine ht.go l[i] (P1 s) F σ3 H4 I4 ps3 x _ r4 (unAt_ps r4 (hu s)) d4 fun σ5 r5 _ _ => ?_
      refine ⟨s, l[i], o, ho, F, I4, ps3, r5, ?_⟩
      cases o with
      | nx s' => exact fun σ' H' I' ps' g' r' => ⟨s', I', ps', hm, g3.trans (g4.trans g'), r'⟩
      | ct s' => exact fun σ' H' I' ps' g' r' => ⟨s', I', ps', hm, g3.trans (g4.trans g'), r'⟩
      | bk s' =>
        have hm : z = .nx s' := hm
        subst hm
        exact fun σ' H' I' ps' g' r' => q σ' H' I' ps' (gI.trans (g3.trans (g4.trans g'))) r'
      | rt w =>
        have hm : z = .rt w := hm
        subst hm
        exact fun v H' I' g' s1 s2 rr => q v H' I' (gI.trans (g3.trans (g4.trans g'))) s1 s2 rr
      | er w =>
        have hm : z = .er w := hm
        subst hm
        exact fun C d σ' H' I' mm g' s1 s2 hd => q C d σ' H' I' mm (gI.trans (g3.trans (g4.trans g'))) s1 s2 hd
    · have e := forL_end (by omega) ez
      subst e
      have wst := wl.st H3 (rgN_le.trans sI)
      rw [List.length_map, show l.length = i by omega] at wst
      exact .inl ⟨wst, q σ3 H3 I3 ps3 (gI.trans g3) r3⟩
  cases z with
  | nx s => exact (pss_cons pf (hk s y h2)).imp fun D σ H ⟨F, I, ps, r, q⟩ => key _ σ H F I ps r fun σ1 H1 I1 ps1 g1 r1 => tS_after (H := H) (ps := ps) (σ := σ) g1 r1 q
  | rt w => cases h2; exact (pss_cons pf pss_never).imp fun D σ H ⟨F, I, ps, r, q⟩ => key _ σ H F I ps r fun v H' I' g s1 s2 rr => q v H' I' g.b s1 s2 rr
  | er w => cases h2; exact (pss_cons pf pss_never).imp fun D σ H ⟨F, I, ps, r, q⟩ => key _ σ H F I ps r fun C d σ' H' I' mm g s1 s2 hd => q C d σ' H' I' mm g.b s1 s2 hd
  | bk b => cases h2; exact (pss_cons pf pss_never).imp fun D σ H ⟨F, I, ps, r, q⟩ => False.elim (by
      have : ∀ (s : S1) (l : List α) (b : B), forL step s l ≠ some (Out.bk b) := by
        intro s l b
        induction l generalizing s with
        | nil => intro h; cases h
        | cons x xs ih =>
          intro h
          unfold forL at h
          obtain ⟨o, _, h⟩ := bind_get h
          cases o with
          | nx s => exact ih s h
          | ct s => exact ih s h
          | bk s => cases h
          | rt r => cases h
          | er e => cases h
      exact this s0 l b hz)
  | ct b => cases h2; exact (pss_cons pf pss_never).imp fun D σ H ⟨F, I, ps, r, q⟩ => False.elim (by
      have : ∀ (s : S1) (l : List α) (b : B), forL step s l ≠ some (Out.ct b) := by
        intro s l b
        induction l generalizing s with
        | nil => intro h; cases h
        | cons x xs ih =>
          intro h
          unfold forL at h
          obtain ⟨o, _, h⟩ := bind_get h
          cases o with
          | nx s => exact ih s h
          | ct s => exact ih s h
          | bk s => cases h
          | rt r => cases h
          | er e => cases h
      exact this s0 l b hz)
end

section
variable {X : Cx} {G : List Sl} {α β : Type} [Enc α] [Enc β] {e a : Expr} {pos p : Pos} {N : List Str} {sc : Scope} {fs : Option Scope} {k : Nat}
theorem tN_bO {K : PySem.W.Frag} {r : List V → Hp → VK → Prop} {ds es : List PyData} (h : ∀ (F : Hp) (G : List Sl) (σ : L2.St) (H I : Hp) (ps : Nat → Option Addr) (ad : Addr) (xs : List V) (Q : VK), RS K F G σ H I ps → SqL K H ad xs → DqAll (rgN F I) xs ds → (∀ p ys, H p = none → DqAll (rgN F I) ys es → Q (.ref p) (upd H p (.lst ys))) → r [.ref ad] H Q)
    (σ : L2.St) (H : Hp) (Q : VK) (t : tON K G es σ H Q) : tCB r (tCons (tN K G (.list ds)) tNil) σ H Q := by
  obtain ⟨F, I, ps, R, q⟩ := t
  refine ⟨F, I, ps, R, fun v H1 I1 g1 R1 dv => ?_⟩
  cases dv with
  | lst k1 k2 =>
    refine h F G σ H1 I1 ps _ _ Q R1 (.inl (rd_mono (rgN_le.trans R1.si) k1)) k2 fun p ys hp dy => ?_
    exact q p ys _ I1 g1 (R1.newOwn hp) (R1.si.free hp) (R1.sf.free hp) (fun i c => by obtain ⟨_, _, _, z⟩ := R1.own_at c; rw [hp] at z; cases z) upd_same dy
theorem eon_sortedD [S : SortT α] [T : Sh α] {ol : Option (List α)} (C : Ctx X N sc fs k) (hg : glbB sc "sorted" = true) (hm : X.mg "sorted" = none) (h : EN X G e ol) (hs : starEach [e] X.env = (false, eval e X.env) :: starEach [] X.env := by rfl) (hd : T.dp ≤ 60 := by decide) : EON X G (.Call (.Name "sorted" p) [e] [] pos) (ol.bind sortD) := fun z hz => by
  obtain ⟨l, h1, h2⟩ := bind_get hz
  obtain ⟨⟨hok, hL⟩, e1⟩ := ite_get h2
  refine (b1 (id := "sorted") C hg hm (by decide +kernel) (cr_sortedD (α := α) C.rm.units hd) (h l h1) (by decide) hs).imp (tN_bO fun F G σ H I ps ad xs Q R s d q => ?_)
  refine ⟨ad, xs, l, rfl, s, DqAll_dp _ _ (DqAll_mono (rgN_le.trans R.si) _ _ d), hok, hL, fun zs p hp hs hn => ?_⟩
  have dz := dq_of (fun z hz => dq_zip d z (hp.mem_iff.mp hz))
  rw [hs, e1] at dz
  exact q p _ hn dz
theorem eon_listL {ol : Option (List α)} (C : Ctx X N sc fs k) (hg : glbB sc "list" = true) (hm : X.mg "list" = none) (h : EN X G e ol) (hs : starEach [e] X.env = (false, eval e X.env) :: starEach [] X.env := by rfl) : EON X G (.Call (.Name "list" p) [e] [] pos) ol := fun l h1 => by
  refine (bT C hg hm (by decide +kernel) call_list_of (h l h1) (by decide) hs).imp (tN_bO fun F G σ H I ps ad xs Q R s d q => ?_)
  exact ⟨ad, xs, rfl, .inl s, fun l hl => q l xs hl d⟩
end

/-! ### statements -/
section
variable {X : Cx} {G : List Sl} {S B R : Type} [Enc R] {P : S → List Sl} {PB : B → List Sl} {own : Rk} {rest : List Stmt} {N : List Str} {sc : Scope} {fs : Option Scope} {k i : Nat} {x : Str} {α β : Type} [Enc α] [Enc β] {e elt : Expr} {gs : List Comprehension} {scope : Scope} {pos p sp py : Pos}
/-- name = data whose lists are new -/
theorem sv_setN {oe : Option α} {kk : α → Option (Out S B R)} (C : Ctx X N sc fs k) (hl : locB N sc fs i x = true) (he : EN X G e oe) (hk : ∀ v, SV X (G.set i (.nw (enc v))) rest P PB own (kk v))
    (hs : swapsWith e (some (.Name x p)) pos.line X.env = pure false := by rfl) : SV X G (.Assign [.Name x p] e pos :: rest) P PB own (oe.bind kk) := fun y hy => by
  obtain ⟨v, h1, h2⟩ := bind_get hy
  obtain ⟨a1, a2, a3, a4⟩ := locB_ok C hl
  exact (pss_cons (ps_set a1 a2 a3 (he v h1) hs a4) (hk v y h2)).imp fun D σ H ⟨F, I, ps, Rr, q⟩ => ⟨F, I, ps, Rr, fun w H1 I1 g R1 d => tS_after (H := H) (ps := ps) (σ := σ) g (R1.setNw d) q⟩
theorem sv_setLN {oe : Option (List α)} {kk : List α → Option (Out S B R)} (C : Ctx X N sc fs k) (hx : swB N sc scope i x = true) (hl : (py.line == pos.line) = true) (he : LCN X G (.ListComp elt gs scope pos) oe) (hk : ∀ v : List α, SV X (G.set i (.nw (enc v))) rest P PB own (kk v)) :
    SV X G (.Assign [.Name x py] (.ListComp elt gs scope pos) sp :: rest) P PB own (oe.bind kk) := fun y hy => by
  obtain ⟨v, h1, h2⟩ := bind_get hy
  obtain ⟨t, _, st, w⟩ := he v h1
  obtain ⟨a1, a2, a3⟩ := swB_ok (sp := sp) C hx hl
  refine (pss_cons (st i x py sp a1 a2 a3) (hk v y h2)).imp fun D σ H ⟨F, I, ps, R, q⟩ => w σ H _ ⟨F, I, ps, R, fun p xs H1 I1 g R1 n1 n2 n3 hH d => ?_⟩
  obtain ⟨g', R2, d2⟩ := frz_new g R1 n1 n2 n3 hH (DqAll_mono rgN_le _ _ d)
  exact tS_after (H := H) (ps := ps) (σ := σ) g' (R2.setNw (.lst (.inl (rgN_new n2)) (DqAll_mono (rgN_mono (same_upd n1)) _ _ d))) q
theorem sv_retN {m : Bool} {oe : Option R} (he : EN X G e oe) : SV X G (.Return (some e) pos :: rest) P PB ⟨.nw, m⟩ (oe.bind fun r => some (.rt r)) := fun y hy => by
  obtain ⟨v, h1, h2⟩ := bind_get hy
  cases h2
  exact (pss_cons (ps_ret (he v h1)) pss_never).imp fun D σ H ⟨F, I, ps, Rr, q⟩ => ⟨F, I, ps, Rr, fun w H1 I1 g R1 d => q w H1 I1 g.b R1.sf R1.si d⟩
/-- an own list of data without lists becomes persistent, and is known to be new -/
theorem sv_frzN {l : List α} [LF α] {o : Option (Out S B R)} (hs : slAt G i = .own (l.map enc)) (h : SV X (G.set i (.nw (enc l))) rest P PB own o) : SV X G rest P PB own o := fun x hx => (h x hx).imp fun D σ H ⟨F, I, ps, R, q⟩ => by
  have hi := slot_lt hs (by simp)
  obtain ⟨I', g, R'⟩ := R.frz hs
  obtain ⟨v, h1, h2⟩ := R.sl i hi
  rw [hs] at h2
  obtain ⟨a, xs, e1, e2, n, hH, r⟩ := h2
  subst e2
  have R2 : RS X.K F ((G.set i (.dat (.list (l.map enc)))).set i (.nw (enc l))) (σ.set i (some (.ref a))) H I' (psDel (psDel ps i) i) := by
    refine R'.setNw ?_
    obtain ⟨w, k1, k2⟩ := R'.sl i (by rw [List.length_set]; exact hi)
    rw [slAt_set_self hi] at k2
    obtain ⟨_, z, ez, d⟩ := k2
    rw [h1] at k1; cases k1; cases ez
    cases d with
    | lst q1 q2 =>
      have q3 : H a = _ := R'.si a _ (by
        rcases q1 with q1 | ⟨o, q1⟩
        · exact q1
        · have := R'.si _ _ q1; rw [hH] at this; cases this)
      refine .lst (.inl ?_) (lfAll q2)
      rcases q1 with q1 | ⟨o, q1⟩
      · unfold rgN; rw [q1, R.fo i a e1]
      · have := R'.si _ _ q1; rw [hH] at this; cases this
  have e : σ.set i (some (.ref a)) = σ := by
    have hl : i < σ.length := by rw [← R.len]; exact hi
    have h1' : σ[i]? = some (some (V.ref a)) := h1
    apply List.ext_getElem?
    intro j
    by_cases c : j = i
    · subst c; rw [List.getElem?_set_self hl, h1']
    · rw [List.getElem?_set_ne (Ne.symm c)]
  rw [e, List.set_set] at R2
  exact tS_after (H := H) (ps := ps) (σ := σ) g R2 q

/-! ### a place from which on what is new may be spoilt -/
def refS : Sl → Sl
  | .dat d => .old d
  | .nw d => .old d
  | s => s
def plainS : Sl → Bool
  | .old _ => false
  | .nw _ => false
  | .st _ => false
  | _ => true
theorem RS.plain {K : PySem.W.Frag} {F F' H I : Hp} {σ : L2.St} {ps : Nat → Option Addr} (R : RS K F G σ H I ps) (hp : G.all plainS = true) (s : Same F' H) (n : ∀ i a, ps i = some a → F' a = none) : RS K F' G σ H I ps := by
  refine ⟨R.si, s, n, R.len, fun i hi => ?_, R.out, R.dis⟩
  obtain ⟨v, h1, h2⟩ := R.sl i hi
  refine ⟨v, h1, ?_⟩
  have hq : plainS (slAt G i) = true := by
    have : ∀ (G : List Sl) (i : Nat), i < G.length → G.all plainS = true → plainS (slAt G i) = true := by
      intro G
      induction G with
      | nil => intro i h; simp at h
      | cons s r ih => intro i h q; cases i with
        | zero => simp at q; exact q.1
        | succ i => simp only [List.all_cons, Bool.and_eq_true] at q; exact ih i (by simpa using h) q.2
    exact this G i hi hp
  cases e : slAt G i with
  | un => rw [e] at h2; exact h2
  | dat d => rw [e] at h2; exact h2
  | own d => rw [e] at h2; exact h2
  | rd d => rw [e] at h2; exact h2
  | st d => rw [e] at hq; cases hq
  | old d => rw [e] at hq; cases hq
  | nw d => rw [e] at hq; cases hq
open Classical in
theorem RS.refr {K : PySem.W.Frag} {F H I : Hp} {σ : L2.St} {ps : Nat → Option Addr} (R : RS K F G σ H I ps) : ∃ F', RS K F' (G.map refS) σ H I ps ∧ Same F F' ∧ (∀ a, I a ≠ none → F' a ≠ none) := by
  let F' : Hp := fun a => if ∃ i, ps i = some a then none else H a
  have off : ∀ {a}, (¬ ∃ i, ps i = some a) → F' a = H a := fun h => if_neg h
  have hI : ∀ a u, I a = some u → F' a = some u := fun a u h => by
    rw [off (fun ⟨i, hi⟩ => by rw [(R.own_at hi).1] at h; cases h)]; exact R.si _ _ h
  have sI : Same I (rgO F' I) := fun a u h => by unfold rgO; rw [hI a u h]; exact h
  refine ⟨F', ⟨R.si, fun a u h => ?_, fun i a h => if_pos ⟨i, h⟩, by rw [List.length_map]; exact R.len, fun i hi => ?_, fun i hi => R.out i (by rw [List.length_map] at hi; exact hi), R.dis⟩, fun a u h => ?_, fun a h => ?_⟩
  · by_cases c : ∃ i, ps i = some a
    · have : F' a = none := if_pos c
      rw [this] at h; cases h
    · rw [off c] at h; exact h
  · rw [List.length_map] at hi
    obtain ⟨v, h1, h2⟩ := R.sl i hi
    refine ⟨v, h1, ?_⟩
    have hm : slAt (G.map refS) i = refS (slAt G i) := by
      have : ∀ (G : List Sl) (i : Nat), i < G.length → slAt (G.map refS) i = refS (slAt G i) := by
        intro G
        induction G with
        | nil => intro i h; simp at h
        | cons s r ih => intro i h; cases i with
          | zero => rfl
          | succ i => exact ih i (by simpa using h)
      exact this G i hi
    rw [hm]
    cases e : slAt G i with
    | un => rw [e] at h2; exact h2
    | dat d => rw [e] at h2; obtain ⟨e1, x, e2, q⟩ := h2; exact ⟨e1, x, e2, Dq_mono sI _ _ q⟩
    | own d => rw [e] at h2; exact h2
    | rd d => rw [e] at h2; exact h2
    | st d => rw [e] at h2; exact ⟨h2.1, h2.2.fr fun a o z _ => by rw [off (fun ⟨i, hi⟩ => by rw [R.fo i a hi] at z; cases z)]; exact R.sf _ _ z⟩
    | old d => rw [e] at h2; obtain ⟨e1, x, e2, q⟩ := h2; exact ⟨e1, x, e2, Dq_mono (rgO_le.trans sI) _ _ q⟩
    | nw d => rw [e] at h2; obtain ⟨e1, x, e2, q⟩ := h2; exact ⟨e1, x, e2, Dq_mono (rgN_le.trans sI) _ _ q⟩
  · rw [off (fun ⟨i, hi⟩ => by rw [R.fo i a hi] at h; cases h)]; exact R.sf _ _ h
  · cases e : I a with
    | none => exact absurd e h
    | some u => rw [hI a u e]; simp
theorem sv_refr {kd : Rq} {m : Bool} {o : Option (Out S B R)} (hp : ∀ s, (P s).all plainS = true) (hb : ∀ s, (PB s).all plainS = true) (hk : kd ≠ .nw) (h : SV X (G.map refS) rest P PB ⟨kd, true⟩ o) : SV X G rest P PB ⟨kd, m⟩ o := fun x hx => (h x hx).imp fun D σ H ⟨F, I, ps, R, q⟩ => by
  obtain ⟨F', R', sF, hI⟩ := R.refr
  have gr : ∀ {I'}, GrowB true F' I I' → Grow F I I' := fun {I'} g => ⟨fun a u h => g.same _ _ (by
    have hn := hI a (by rw [h]; simp)
    unfold rgO
    cases e : F' a with
    | none => exact absurd e hn
    | some w => exact h), fun a h => by
    rcases g.out a h with z | z
    · exact .inl fun w => z (by unfold rgO; cases F' a <;> simp [w])
    · exact .inr (sF.free z)⟩
  have pl : ∀ {G' : List Sl} {σ' H' I' ps'}, G'.all plainS = true → RS X.K F' G' σ' H' I' ps' → RS X.K F G' σ' H' I' ps' := fun hG r => r.plain hG (sF.trans r.sf) fun i a h => sF.free (r.fo i a h)
  refine ⟨F', I, ps, R', ?_⟩
  cases x with
  | nx s => exact fun σ' H' I' ps' g r => q σ' H' I' ps' (gr g).b (pl (hp s) r)
  | bk s => exact fun σ' H' I' ps' g r => q σ' H' I' ps' (gr g).b (pl (hb s) r)
  | ct s => exact fun σ' H' I' ps' g r => q σ' H' I' ps' (gr g).b (pl (hb s) r)
  | rt r => exact fun v H' I' g s1 s2 rr => q v H' I' (gr g).b (sF.trans s1) s2 (by
      cases kd with
      | dd => exact rr
      | nw => exact absurd rfl hk
      | ow => obtain ⟨p, xs, ds, e1, e2, n1, n2, r1, r2⟩ := rr; exact ⟨p, xs, ds, e1, e2, n1, sF.free n2, r1, r2⟩)
  | er e => exact fun C d σ' H' I' mm g s1 s2 hd => q C d σ' H' I' mm (gr g).b (sF.trans s1) s2 hd

/-! ### a store to a new list -/
def spoilS : Sl → Sl
  | .old d => .old d
  | _ => .un
/-- what is left of data some of whose new lists have grown by n -/
inductive Spn (F H : Hp) (n : Nat) : V → PyData → Prop
  | lst {a : Addr} {ys : List V} {ds : List PyData} : F a = none → H a = some (.lst ys) → ys.length ≤ ds.length + n → Spn F H n (.ref a) (.list ds)
  | tup {a : Addr} {xs : List V} {ds : List PyData} : Rd H a (.tup xs) → xs.length = ds.length → (∀ (i : Nat) (v : V) (d : PyData), xs[i]? = some v → ds[i]? = some d → Spn F H n v d) → Spn F H n (.ref a) (.tuple ds)
  | oth {v : V} {d : PyData} : (∀ ds, d ≠ .list ds) → (∀ ds, d ≠ .tuple ds) → Spn F H n v d
theorem sp_of {F H I : Hp} (s : Same I H) : ∀ (d : PyData) (v : V), Dq (rgN F I) v d → Spn F H 0 v d
  | .list ds, v, h => by
    cases h with | lst h1 h2 =>
    obtain ⟨q1, q2⟩ := rgN_lst h1
    exact .lst q2 (s _ _ q1) (by rw [h2.len]; exact Nat.le_refl _)
  | .tuple ds, v, h => by
    cases h with | tup h1 h2 =>
    refine .tup (rd_mono (rgN_le.trans s) h1) h2.len fun i v d hv hd => ?_
    obtain ⟨w, k1, k2⟩ := h2.at hd
    rw [hv] at k1; cases k1
    exact sp_of s d v k2
  | .none, _, _ => .oth (fun _ h => nomatch h) (fun _ h => nomatch h)
  | .bool _, _, _ => .oth (fun _ h => nomatch h) (fun _ h => nomatch h)
  | .int _, _, _ => .oth (fun _ h => nomatch h) (fun _ h => nomatch h)
  | .str _, _, _ => .oth (fun _ h => nomatch h) (fun _ h => nomatch h)
  | .dict _, _, h => by cases h
termination_by d => sizeOf d
decreasing_by
  have := List.mem_of_getElem? hd
  have := List.sizeOf_lt_of_mem this
  simp_wf; omega
theorem Spn.grow {F H H' : Hp} {n : Nat} (s : Same H H') {v : V} {d : PyData} (h : Spn F H n v d) : Spn F H' n v d := by
  induction h with
  | lst h1 h2 h3 => exact .lst h1 (s _ _ h2) h3
  | tup h1 h2 h3 ih => exact .tup (rd_mono s h1) h2 ih
  | oth h1 h2 => exact .oth h1 h2
theorem Spn.store {F H : Hp} {n : Nat} {a : Addr} {xs : List V} {w : V} (ha : H a = some (.lst xs)) {v : V} {d : PyData} (h : Spn F H n v d) : Spn F (upd H a (.lst (xs ++ [w]))) (n + 1) v d := by
  induction h with
  | lst h1 h2 h3 =>
    rename_i b ys ds
    by_cases c : b = a
    · subst c
      rw [ha] at h2; cases h2
      exact .lst h1 upd_same (by rw [List.length_append]; show xs.length + 1 ≤ _; omega)
    · exact .lst h1 (by rw [upd_ne c]; exact h2) (by omega)
  | tup h1 h2 h3 ih =>
    rename_i b ys ds
    refine .tup ?_ h2 ih
    have c : b ≠ a := fun c => by
      subst c
      rcases h1 with h1 | ⟨o, h1⟩ <;> (rw [ha] at h1; cases h1)
    unfold Rd at h1 ⊢
    rw [upd_ne c]; exact h1
  | oth h1 h2 => exact .oth h1 h2
theorem RS.spoil {K : PySem.W.Frag} {F H I : Hp} {σ : L2.St} {ps : Nat → Option Addr} (R : RS K F G σ H I ps) {a : Addr} {u : HO} (hF : F a = none) : RS K F (G.map spoilS) σ (upd H a u) (rgO F I) (fun _ => none) := by
  have idem : rgO F (rgO F I) = rgO F I := funext fun b => by unfold rgO; cases F b <;> rfl
  refine ⟨fun b x h => ?_, same_upd2 R.sf hF, fun i a h => (nomatch h), by rw [List.length_map]; exact R.len, fun i hi => ?_, fun _ _ => rfl, fun i j a h => (nomatch h)⟩
  · have c : b ≠ a := fun c => by subst c; unfold rgO at h; rw [hF] at h; cases h
    rw [upd_ne c]; exact R.si _ _ (rgO_le _ _ h)
  · rw [List.length_map] at hi
    obtain ⟨v, h1, h2⟩ := R.sl i hi
    refine ⟨v, h1, ?_⟩
    have hm : slAt (G.map spoilS) i = spoilS (slAt G i) := by
      have : ∀ (G : List Sl) (i : Nat), i < G.length → slAt (G.map spoilS) i = spoilS (slAt G i) := by
        intro G
        induction G with
        | nil => intro i h; simp at h
        | cons s r ih => intro i h; cases i with
          | zero => rfl
          | succ i => exact ih i (by simpa using h)
      exact this G i hi
    rw [hm]
    cases e : slAt G i with
    | old d => rw [e] at h2; obtain ⟨_, x, e2, q⟩ := h2; exact ⟨rfl, x, e2, by rw [idem]; exact q⟩
    | _ => exact rfl
/-- behind such stores: slot i holds what is left of d, grown by at most n -/
def tK {S B R : Type} [Enc R] (X : Cx) (G : List Sl) (i n : Nat) (d : PyData) (P : S → List Sl) (PB : B → List Sl) (own : Rk) (o : Out S B R) : TS := fun D σ H => ∃ F I, RS X.K F G σ H I (fun _ => none) ∧ (∀ b, I b ≠ none → F b ≠ none) ∧ (∃ v, σ[i]? = some (some v) ∧ Spn F H n v d) ∧
  match o with
    | .nx s => ∀ σ' H' I' ps', GrowB own.m F I I' → RS X.K F (P s) σ' H' I' ps' → D.nx σ' H'
    | .bk b => ∀ σ' H' I' ps', GrowB own.m F I I' → RS X.K F (PB b) σ' H' I' ps' → D.bk σ' H'
    | .ct b => ∀ σ' H' I' ps', GrowB own.m F I I' → RS X.K F (PB b) σ' H' I' ps' → D.ct σ' H'
    | .rt r => ∀ v H' I', GrowB own.m F I I' → Same F H' → Same I' H' → RetR X.K own.k F I' H' v (enc r) → D.rt v H'
    | .er e => ∀ C d σ' H' I', X.mg e.k = some (.ref C) → GrowB own.m F I I' → Same F H' → Same I' H' → H' d = some (.xd [(("at" : Str), .int e.a)]) → WS X (.ref C) (some d) σ' H'
def SVK {S B R : Type} [Enc R] (X : Cx) (G : List Sl) (i n : Nat) (d : PyData) (st : List Stmt) (P : S → List Sl) (PB : B → List Sl) (own : Rk) (o : Option (Out S B R)) : Prop := ∀ x, o = some x → PSs X st (tK X G i n d P PB own x)
theorem svk_done {n : Nat} {d : PyData} {o : Option (Out S B R)} (h : SV X G rest P PB own o) : SVK X G i n d rest P PB own o := fun x hx => (h x hx).imp fun D σ H ⟨F, I, R, _, _, q⟩ => ⟨F, I, _, R, q⟩
/-- a place within tuples -/
def ESp (X : Cx) (i : Nat) (e : Expr) (d d' : PyData) : Prop := PE X e fun σ H Q => ∃ F n v, σ[i]? = some (some v) ∧ Spn F H n v d ∧ ∀ u, Spn F H n u d' → Q u H
theorem esp_name {d : PyData} (C : Ctx X N sc fs k) (hv : visB N sc i x = true) : ESp X i (.Name x pos) d d := (pe_name C hv).imp fun σ H Q ⟨F, n, v, h1, h2, q⟩ => ⟨v, h1, q v h2⟩
theorem esp_proj {d d' : PyData} {ds : List PyData} {t : Int} {j : Nat} (h : ESp X i e d (.tuple ds)) (hd : atI ds t = some d') : ESp X i (.Subscript e (.Constant (.int t) j p) pos) d d' := by
  refine (pe_ix ix_tup h (pe_int (i := t)) (fun _ _ => rfl)).imp fun σ H Q ⟨F, n, v, h1, h2, q⟩ => ⟨F, n, v, h1, h2, fun u hu => ?_⟩
  cases hu with
  | tup k1 k2 k3 =>
    rename_i a xs
    unfold L2.atI at hd
    cases c : ixN ds.length t with
    | none => rw [c] at hd; cases hd
    | some m =>
      rw [c] at hd
      have hd : ds[m]? = some d' := hd
      have hl : m < xs.length := by rw [k2]; exact (List.getElem?_eq_some_iff.mp hd).1
      exact ⟨_, _, t, xs[m], rfl, rfl, .inl k1, by unfold L2.atI; rw [k2, c]; exact List.getElem?_eq_getElem hl, q _ (k3 m _ _ (List.getElem?_eq_getElem hl) hd)⟩
  | oth k1 k2 => exact absurd rfl (k2 _)
theorem esp_some {d : PyData} {l : β} (h : ESp X i e d (enc l)) : ∀ l', some l = some l' → ESp X i e d (enc l') := fun l' e => by cases e; exact h
theorem esp_opt {d : PyData} {v : Option β} (h : ESp X i e d (enc v)) : ∀ l, v = some l → ESp X i e d (enc l) := fun l e => by subst e; exact h
def roomG {α : Type} (n : Nat) (l : List α) : Option Unit := if l.length + n < sizeLine then some () else none
theorem SqL_of {K : PySem.W.Frag} {H : Hp} {a : Addr} {xs : List V} (h : H a = some (.lst xs)) : SqL K H a xs := .inl (.inl h)
theorem svk_app {n m : Nat} {d : PyData} {ol : Option (List β)} {x : α} {ap cp : Pos} {kk : Option (Out S B R)} {path : Expr} (hp : ∀ l, ol = some l → ESp X i path d (enc l)) (he : ED X (List.replicate m .un) e (some x)) (hN : G.length = m) (hk : SVK X G i (n + 1) d rest P PB ⟨own.k, true⟩ kk) (hab : attributeBase path (Str.ofString "append") X.env (eval path X.env) = eval path X.env := by rfl)
    (hfew : ((backTo cp (starEach [e] X.env)).all (fun x => !x.1) && (backToKw cp (keywordEach [] X.env)).all (fun x => x.1.isSome) && decide (([e] : List Expr).length + ([] : List Keyword).length + (if ([] : List Keyword).isEmpty then 0 else 1) < 30)) = true := by rfl) (hline : (ap.endLine == cp.line) = true := by rfl)
    (hs : starEach [e] X.env = (false, eval e X.env) :: starEach [] X.env := by rfl) : SVK X G i n d (.Expr (.Call (.Attribute path "append" ap) [e] [] cp) sp :: rest) P PB ⟨own.k, true⟩ ((ol.bind (roomG n)).bind fun _ => kk) := fun y hy => by
  obtain ⟨_, h1, h2⟩ := bind_get hy
  obtain ⟨l, h0, h1⟩ := bind_get h1
  have hp := hp l h0
  have hc : l.length + n < sizeLine := by
    unfold roomG at h1
    by_cases c : l.length + n < sizeLine
    · exact c
    · rw [if_neg c] at h1; cases h1
  refine (pss_cons (ps_expr (pe_bm PySem.F.plainAttrs_list PySem.F.slot_list_append PySem.F.type_list_append mt_append hp (pa_cons (he x rfl) pa_nil hs) hab hfew hline hs)) (hk y h2)).imp fun D σ H ⟨F, I, R, hIF, ⟨v, hv, hsp⟩, q⟩ => ?_
  refine ⟨F, n, v, hv, hsp, fun u hu => ?_⟩
  cases hu with
  | oth k1 k2 => exact absurd rfl (k1 _)
  | lst k1 k2 k3 =>
    rename_i a ys
    have R0 : RS X.K H (List.replicate m .un) σ H (fun _ => none) (fun _ => none) := ⟨fun b o z => (nomatch z), Same.refl _, fun i a z => (nomatch z), by rw [List.length_replicate, ← hN]; exact R.len, fun j hj => by
      rw [List.length_replicate] at hj
      have hj' : j < σ.length := by rw [← R.len, hN]; exact hj
      exact ⟨_, List.getElem?_eq_getElem hj', by rw [slAt_rep]; rfl⟩, fun _ _ => rfl, fun i j a z => (nomatch z)⟩
    refine ⟨.inl ⟨rfl, _, SqL_of k2⟩, H, _, _, R0, fun w H2 I2 g2 R2 d2 => ?_⟩
    have sH : Same H H2 := R2.sf
    have k2' := sH _ _ k2
    refine ⟨a, ys, w, rfl, rfl, k2', by rw [List.length_map] at k3; omega, ?_⟩
    have R3 : RS X.K F G σ H2 I (fun _ => none) := R.grow sH (R.si.trans sH) (Same.refl _) fun i a z => (nomatch z)
    have hI : I a = none := by
      cases c : I a with
      | none => rfl
      | some o => exact absurd k1 (hIF a (by rw [c]; simp))
    exact ⟨F, I, R3.wr hI k1 (fun _ z => nomatch z), hIF, ⟨v, hv, (hsp.grow sH).store k2'⟩, q⟩
/-- the first store, to a list that is known -/
theorem sv_spoil {γ : Type} [Enc γ] {d : PyData} {oe : Option γ} {ol : Option (List β)} {ap cp : Pos} {kk : Option (Out S B R)} {path : Expr} {kd : Rq} (hsl : slAt G i = .nw d) (hp : EN X G path ol) (he : ED X G e oe) (hk : SVK X (G.map spoilS) i 1 d rest P PB ⟨kd, true⟩ kk) (hab : attributeBase path (Str.ofString "append") X.env (eval path X.env) = eval path X.env := by rfl)
    (hfew : ((backTo cp (starEach [e] X.env)).all (fun x => !x.1) && (backToKw cp (keywordEach [] X.env)).all (fun x => x.1.isSome) && decide (([e] : List Expr).length + ([] : List Keyword).length + (if ([] : List Keyword).isEmpty then 0 else 1) < 30)) = true := by rfl) (hline : (ap.endLine == cp.line) = true := by rfl)
    (hs : starEach [e] X.env = (false, eval e X.env) :: starEach [] X.env := by rfl) : SV X G (.Expr (.Call (.Attribute path "append" ap) [e] [] cp) sp :: rest) P PB ⟨kd, true⟩ (bind2 (fun l x => (roomG 0 l).bind fun _ => kk) ol oe) := fun y hy => by
  obtain ⟨l, x, h1, h2, h3⟩ := bind2_get hy
  obtain ⟨_, h4, h5⟩ := bind_get h3
  have hc : l.length + 0 < sizeLine := by
    unfold roomG at h4
    by_cases c : l.length + 0 < sizeLine
    · exact c
    · rw [if_neg c] at h4; cases h4
  refine (pss_cons (ps_expr (pe_bm PySem.F.plainAttrs_list PySem.F.slot_list_append PySem.F.type_list_append mt_append (hp l h1) (pa_cons (he x h2) pa_nil hs) hab hfew hline hs)) (hk y h5)).imp fun D σ H ⟨F, I, ps, R, q⟩ => ⟨F, I, ps, R, fun v H1 I1 g1 R1 dv => ?_⟩
  cases dv with
  | lst k1 k2 =>
    rename_i a xs
    obtain ⟨q1, q2⟩ := rgN_lst k1
    refine ⟨.inl ⟨rfl, _, SqL_of (R1.si _ _ q1)⟩, F, I1, ps, R1, fun w H2 I2 g2 R2 d2 => ?_⟩
    have q3 := R2.si _ _ (g2.same _ _ q1)
    refine ⟨a, xs, w, rfl, rfl, q3, by rw [k2.len, List.length_map]; omega, ?_⟩
    obtain ⟨v0, k3, k4⟩ := R2.sl i (slot_lt hsl (by simp))
    rw [hsl] at k4
    obtain ⟨_, v1, e1, d1⟩ := k4
    subst e1
    refine ⟨F, rgO F I2, R2.spoil q2, fun b h => ?_, ⟨v1, k3, (sp_of R2.si d v1 d1).store q3⟩, ?_⟩
    · intro c
      exact h (by unfold rgO; rw [c])
    · have gg : GrowB true F I (rgO F I2) := rgO_grow (g1.trans g2)
      cases y with
      | nx s => exact fun σ' H' I' ps' g r => q σ' H' I' ps' (gg.trans g) r
      | bk s => exact fun σ' H' I' ps' g r => q σ' H' I' ps' (gg.trans g) r
      | ct s => exact fun σ' H' I' ps' g r => q σ' H' I' ps' (gg.trans g) r
      | rt r => exact fun v H' I' g s1 s2 rr => q v H' I' (gg.trans g) s1 s2 rr
      | er e => exact fun C d σ' H' I' mm g s1 s2 hd => q C d σ' H' I' mm (gg.trans g) s1 s2 hd
/-- such a store, what it was is left alone -/
theorem sv_spoil0 {oe : Option β} {ol : Option (List β)} {ap cp : Pos} {kk : Option (Out S B R)} {path : Expr} {kd : Rq} (hp : EN X G path ol) (he : ED X G e oe) (hk : SV X (G.map spoilS) rest P PB ⟨kd, true⟩ kk) (hab : attributeBase path (Str.ofString "append") X.env (eval path X.env) = eval path X.env := by rfl)
    (hfew : ((backTo cp (starEach [e] X.env)).all (fun x => !x.1) && (backToKw cp (keywordEach [] X.env)).all (fun x => x.1.isSome) && decide (([e] : List Expr).length + ([] : List Keyword).length + (if ([] : List Keyword).isEmpty then 0 else 1) < 30)) = true := by rfl) (hline : (ap.endLine == cp.line) = true := by rfl)
    (hs : starEach [e] X.env = (false, eval e X.env) :: starEach [] X.env := by rfl) : SV X G (.Expr (.Call (.Attribute path "append" ap) [e] [] cp) sp :: rest) P PB ⟨kd, true⟩ (bind2 (fun l x => (roomG 0 l).bind fun _ => kk) ol oe) := fun y hy => by
  obtain ⟨l, x, h1, h2, h3⟩ := bind2_get hy
  obtain ⟨_, h4, h5⟩ := bind_get h3
  have hc : l.length + 0 < sizeLine := by
    unfold roomG at h4
    by_cases c : l.length + 0 < sizeLine
    · exact c
    · rw [if_neg c] at h4; cases h4
  refine (pss_cons (ps_expr (pe_bm PySem.F.plainAttrs_list PySem.F.slot_list_append PySem.F.type_list_append mt_append (hp l h1) (pa_cons (he x h2) pa_nil hs) hab hfew hline hs)) (hk y h5)).imp fun D σ H ⟨F, I, ps, R, q⟩ => ⟨F, I, ps, R, fun v H1 I1 g1 R1 dv => ?_⟩
  cases dv with
  | lst k1 k2 =>
    rename_i a xs
    obtain ⟨q1, q2⟩ := rgN_lst k1
    refine ⟨.inl ⟨rfl, _, SqL_of (R1.si _ _ q1)⟩, F, I1, ps, R1, fun w H2 I2 g2 R2 d2 => ?_⟩
    have q3 := R2.si _ _ (g2.same _ _ q1)
    refine ⟨a, xs, w, rfl, rfl, q3, by rw [k2.len, List.length_map]; omega, ?_⟩
    refine ⟨F, rgO F I2, _, R2.spoil q2, ?_⟩
    · have gg : GrowB true F I (rgO F I2) := rgO_grow (g1.trans g2)
      cases y with
      | nx s => exact fun σ' H' I' ps' g r => q σ' H' I' ps' (gg.trans g) r
      | bk s => exact fun σ' H' I' ps' g r => q σ' H' I' ps' (gg.trans g) r
      | ct s => exact fun σ' H' I' ps' g r => q σ' H' I' ps' (gg.trans g) r
      | rt r => exact fun v H' I' g s1 s2 rr => q v H' I' (gg.trans g) s1 s2 rr
      | er e => exact fun C d σ' H' I' mm g s1 s2 hd => q C d σ' H' I' mm (gg.trans g) s1 s2 hd
end
end Lay

set_option Elab.async false
set_option linter.all false
set_option maxRecDepth 100000
/-! LayC: own lists lent for data without lists; pairs of stores; unpacking; index. -/
namespace Lay
open PySem PySem.Spec PyProof.Rows L2
open Lay.Enc (enc)
/-! ### lending -/
open Classical in
/-- what is known, without the own lists -/
noncomputable def offOwn (ps : Nat → Option Addr) (I : Hp) : Hp := fun a => if ∃ i, ps i = some a then none else I a
open Classical in
theorem lend_back {K : PySem.W.Frag} {F H I : Hp} {G : List Sl} {σ : L2.St} {ps : Nat → Option Addr} (R : RS K F G σ H I ps) : ∃ I2, Grow F I I2 ∧ RS K F (frzAll G) σ H I2 (fun _ => none) ∧ (∀ i a, ps i = some a → I2 a ≠ none) ∧
    ∀ H' I', Grow F I2 I' → RS K F (frzAll G) σ H' I' (fun _ => none) → RS K F G σ H' (offOwn ps I') ps ∧ Grow F I (offOwn ps I') ∧ ∀ a xs, Rd I' a (.tup xs) → Rd (offOwn ps I') a (.tup xs) := by
  obtain ⟨I2, g, R2, n2, back⟩ := lend_rs R
  refine ⟨I2, g, R2, n2, fun H' I' g' R' => ?_⟩
  have R3 := back H' I' g'.same R'
  have off : ∀ {a}, (¬ ∃ i, ps i = some a) → offOwn ps I' a = I' a := fun h => if_neg h
  have on : ∀ {i a}, ps i = some a → offOwn ps I' a = none := fun {i a} h => if_pos ⟨i, h⟩
  have nown : ∀ {a u}, I a = some u → ¬ ∃ i, ps i = some a := fun {a u} h ⟨i, hi⟩ => by rw [(R.own_at hi).1] at h; cases h
  have sI : Same I (offOwn ps I') := fun a u h => by rw [off (nown h)]; exact (g.same.trans g'.same) _ _ h
  have lst : ∀ {i a}, ps i = some a → ∃ xs, H' a = some (.lst xs) := fun {i a} h => (R3.own_at h).2.2
  refine ⟨R3.grow (Same.refl _) (fun a u h => ?_) sI fun i a h => on h, ⟨sI, fun a h => ?_⟩, fun a xs h => ?_⟩
  · by_cases c : ∃ i, ps i = some a
    · have : offOwn ps I' a = none := if_pos c
      rw [this] at h; cases h
    · rw [off c] at h; exact R'.si _ _ h
  · have h2 : I' a ≠ none := fun z => h (by
      by_cases c : ∃ i, ps i = some a
      · exact if_pos c
      · rw [off c]; exact z)
    have c : ¬ ∃ i, ps i = some a := fun c => h (if_pos c)
    rcases g'.out a h2 with z | z
    · rcases g.out a z with z | z
      · exact .inl z
      · exact .inr z
    · exact .inr z
  · have c : ¬ ∃ i, ps i = some a := fun ⟨i, hi⟩ => by
      obtain ⟨ys, hy⟩ := lst hi
      rcases h with h | ⟨o, h⟩ <;> (have := R'.si _ _ h; rw [hy] at this; cases this)
    unfold Rd
    rw [off c]; exact h
section
variable {X : Cx} {G : List Sl} {α : Type} [Enc α] {e : Expr}
theorem ed_lendF [S : LF α] {o : Option α} (h : ED X (frzAll G) e o) : ED X G e o := fun x hx => (h x hx).imp fun σ H Q ⟨F, I, ps, R, q⟩ => by
  obtain ⟨I2, g, R2, _, back⟩ := lend_back R
  refine ⟨F, I2, _, R2, fun v H' I' g' R' d => ?_⟩
  obtain ⟨R3, g3, t⟩ := back H' I' g' R'
  exact q v H' _ g3 R3 (S.mv x _ _ v t d)
theorem tO_lendF [S : LF α] {K : PySem.W.Frag} {l : List α} {σ : L2.St} {H : Hp} {Q : VK} (h : tO K G (l.map enc) σ H Q) : tO K (frzAll G) (l.map enc) σ H Q := by
  obtain ⟨F, I, ps, R, q⟩ := h
  obtain ⟨I2, g, R2, n2, back⟩ := lend_back R
  refine ⟨F, I2, _, R2, fun p xs H' I' g' R' n hF hp hH d => ?_⟩
  obtain ⟨R3, g3, t⟩ := back H' I' g' R'
  have np : ∀ i, ps i ≠ some p := fun i z => n2 i p z (g'.same.free n)
  refine q p xs H' _ g3 R3 ?_ hF np hH (mvAll t d)
  have c : ¬ ∃ i, ps i = some p := fun ⟨i, hi⟩ => np i hi
  exact (if_neg c).trans n
theorem eo_lendF [S : LF α] {o : Option (List α)} (h : EO X (frzAll G) e o) : EO X G e o := fun x hx => (h x hx).imp fun σ H Q t => tO_lendF t
theorem lc_lendF [S : LF α] {o : Option (List α)} (h : LC X (frzAll G) e o) : LC X G e o := fun l hl => by
  obtain ⟨t, h1, h2, h3⟩ := h l hl
  exact ⟨t, h1, h2, fun σ H Q w => h3 σ H Q (tO_lendF w)⟩
end

/-! ### a new list that waits -/
theorem pend {K : PySem.W.Frag} {F H I : Hp} {G : List Sl} {σ : L2.St} {ps : Nat → Option Addr} {p : Addr} {xs : List V} (R : RS K F G σ H I ps) (n1 : I p = none) (n2 : F p = none) (n3 : ∀ i, ps i ≠ some p) (hH : H p = some (.lst xs)) :
    RS K (upd F p (.lst xs)) G σ H I ps ∧ ∀ H' I', Grow (upd F p (.lst xs)) I I' → RS K (upd F p (.lst xs)) G σ H' I' ps → RS K F G σ H' I' ps ∧ Grow F I I' ∧ I' p = none ∧ H' p = some (.lst xs) := by
  have sF : Same F (upd F p (.lst xs)) := same_upd n2
  refine ⟨R.frame (fun b o z => ?_) (fun i a ha => by rw [upd_ne (fun c : a = p => n3 i (by rw [← c]; exact ha))]; exact R.fo i a ha) (upd_iff n1) (fix_in n2), fun H' I' g R' => ?_⟩
  · by_cases c : b = p
    · subst c; rw [upd_same] at z; cases z; exact hH
    · rw [upd_ne c] at z; exact R.sf _ _ z
  · have n : I' p = none := by
      cases w : I' p with
      | none => rfl
      | some o =>
        rcases g.out p (by rw [w]; simp) with h | h
        · exact absurd n1 h
        · rw [upd_same] at h; cases h
    exact ⟨R'.frame (sF.trans R'.sf) R.fo (fun a z => (upd_iff n a z).symm) (fix_out (fun c => c)), ⟨g.same, fun a h => (g.out a h).imp_right sF.free⟩, n, R'.sf _ _ upd_same⟩

/-! ### pairs of stores -/
section
variable {X : Cx} {G : List Sl} {S B R : Type} [Enc R] {P : S → List Sl} {PB : B → List Sl} {own : Rk} {rest : List Stmt} {N : List Str} {sc : Scope} {fs : Option Scope} {k i j : Nat} {x y : Str} {α β : Type} [Enc α] [Enc β] {a b : Expr} {px py pt pt2 sp : Pos} {kt k2 : Nat}
/-- what the compiler makes of the two stores -/
structure ParOk (X : Cx) (N : List Str) (sc : Scope) (i j : Nat) (x y : Str) (px py : Pos) (a b : Expr) (kt : Nat) (pt : Pos) (k2 : Nat) (pt2 : Pos) (sp : Pos) : Prop where
  i1 : X.N[i]? = some x
  i2 : X.env.scope.names.lookup x = some .local
  j1 : X.N[j]? = some y
  j2 : X.env.scope.names.lookup y = some .local
  hij : i ≠ j
  hw : swappedStores [.Tuple [.Name x px, .Name y py] kt pt] (.Tuple [a, b] k2 pt2) X.env = pure (some [x, y])
  s1 : starEach [a, b] X.env = (false, eval a X.env) :: starEach [b] X.env
  s2 : starEach [b] X.env = (false, eval b X.env) :: starEach [] X.env
  hsw : swapsWithSole [.Tuple [.Name x px, .Name y py] kt pt] (.Tuple [a, b] k2 pt2) sp.line X.env = pure false
theorem par_ok (C : Ctx X N sc fs k) (h1 : lclB N sc i x = true) (h2 : lclB N sc j y = true) (hij : i ≠ j) (hne : (x == y) = false) (hl : (px.line == py.line) = true)
    (hf : ([a, b].any fun | .Starred .. => true | _ => false) = false := by rfl) (hc : ([a, b].all (foldedForSure 8)) = false := by rfl) (hc2 : ([a, b].all (constantsAlone 8)) = false := by rfl)
    (s1 : starEach [a, b] X.env = (false, eval a X.env) :: starEach [b] X.env := by rfl) (s2 : starEach [b] X.env = (false, eval b X.env) :: starEach [] X.env := by rfl)
    (hsw : swapsWithSole [.Tuple [.Name x px, .Name y py] kt pt] (.Tuple [a, b] k2 pt2) sp.line X.env = pure false := by rfl) : ParOk X N sc i j x y px py a b kt pt k2 pt2 sp := by
  obtain ⟨i1, i2⟩ := lclB_ok C h1
  obtain ⟨j1, j2⟩ := lclB_ok C h2
  refine ⟨i1, i2, j1, j2, hij, ?_, s1, s2, hsw⟩
  have kx : X.env.kindOf x = some .local := i2
  have ky : X.env.kindOf y = some .local := j2
  have bk : X.env.blockKind = .function := by unfold Env.blockKind; rw [C.s, C.fk]; rfl
  unfold swappedStores
  have l2 : (py.line == px.line) = true := by rw [beq_iff_eq] at hl ⊢; exact hl.symm
  simp only [List.length_cons, List.length_nil, bk, hf, hc, hc2, List.head?_cons, Option.map_some, Expr.pos, Option.getD_some, List.filterMap_cons, kx, ky, l2, List.filterMap_nil]
  rw [if_neg (by decide), if_neg (by rw [Bool.not_eq_true]; exact hf)]
  have e1 : (some NameKind.local == some NameKind.local) = true := by decide
  have e3 : (y == x) = false := by rw [beq_eq_false_iff_ne] at hne ⊢; exact fun c => hne c.symm
  simp [e1, List.eraseDups, List.eraseDupsBy, List.eraseDupsBy.loop, e3, hne]
theorem psSet_ne {ps : Nat → Option Addr} {i : Nat} {a b : Addr} (h : ∀ j, ps j ≠ some b) (hab : a ≠ b) : ∀ j, psSet ps i a j ≠ some b := fun j => by
  unfold psSet; split
  · exact fun c => hab (Option.some.inj c)
  · exact h j
theorem psDel_ne {ps : Nat → Option Addr} {i : Nat} {b : Addr} (h : ∀ j, ps j ≠ some b) : ∀ j, psDel ps i j ≠ some b := fun j => by
  unfold psDel; split
  · exact fun c => nomatch c
  · exact h j
theorem sv_parOO {oa : Option (List α)} {ob : Option (List β)} {kk : List α → List β → Option (Out S B R)} (C : Ctx X N sc fs k) (O : ParOk X N sc i j x y px py a b kt pt k2 pt2 sp) (hi : i < G.length) (hj : j < G.length) (ha : EO X G a oa) (hb : EO X G b ob)
    (hk : ∀ v w, SV X ((G.set i (.own (v.map enc))).set j (.own (w.map enc))) rest P PB own (kk v w)) : SV X G (.Assign [.Tuple [.Name x px, .Name y py] kt pt] (.Tuple [a, b] k2 pt2) sp :: rest) P PB own (oa.bind fun v => ob.bind fun w => kk v w) := fun z hz => by
  obtain ⟨v, e1, hz⟩ := bind_get hz
  obtain ⟨w, e2, hz⟩ := bind_get hz
  refine (pss_cons (ps_par C.calm (by rw [C.n]; exact C.nd) O.i1 O.j1 O.hij O.i2 O.j2 (pa_cons (ha v e1) (pa_cons (hb w e2) pa_nil O.s2) O.s1) O.hw O.hsw) (hk v w z hz)).imp fun D σ H ⟨F, I, ps, Rr, q⟩ => ?_
  refine ⟨F, I, ps, Rr, fun p xs H1 I1 g1 R1 n1 n2 n3 hH d1 => ?_⟩
  obtain ⟨R1', bk⟩ := pend R1 n1 n2 n3 hH
  refine ⟨_, I1, ps, R1', fun p2 ys H2 I2 g2 R2 m1 m2 m3 hH2 d2 => ⟨_, _, rfl, ?_⟩⟩
  obtain ⟨R3, g3, n4, hp⟩ := bk H2 I2 g2 R2
  have ne : p2 ≠ p := fun c => by subst c; rw [upd_same] at m2; cases m2
  rw [upd_ne ne] at m2
  have R4 := R3.setOwn hi n4 n2 n3 hp (DqAll_mono g2.same _ _ d1)
  exact tS_after (H := H) (ps := ps) (σ := σ) (g1.trans g3) (R4.setOwn (by rw [List.length_set]; exact hj) m1 m2 (psSet_ne m3 (Ne.symm ne)) hH2 d2) q
theorem sv_parDO {oa : Option α} {ob : Option (List β)} {kk : α → List β → Option (Out S B R)} (C : Ctx X N sc fs k) (O : ParOk X N sc i j x y px py a b kt pt k2 pt2 sp) (hj : j < G.length) (ha : ED X G a oa) (hb : EO X G b ob)
    (hk : ∀ v w, SV X ((G.set i (.dat (enc v))).set j (.own (w.map enc))) rest P PB own (kk v w)) : SV X G (.Assign [.Tuple [.Name x px, .Name y py] kt pt] (.Tuple [a, b] k2 pt2) sp :: rest) P PB own (oa.bind fun v => ob.bind fun w => kk v w) := fun z hz => by
  obtain ⟨v, e1, hz⟩ := bind_get hz
  obtain ⟨w, e2, hz⟩ := bind_get hz
  refine (pss_cons (ps_par C.calm (by rw [C.n]; exact C.nd) O.i1 O.j1 O.hij O.i2 O.j2 (pa_cons (ha v e1) (pa_cons (hb w e2) pa_nil O.s2) O.s1) O.hw O.hsw) (hk v w z hz)).imp fun D σ H ⟨F, I, ps, Rr, q⟩ => ?_
  refine ⟨F, I, ps, Rr, fun v1 H1 I1 g1 R1 d1 => ⟨F, I1, ps, R1, fun p2 ys H2 I2 g2 R2 m1 m2 m3 hH2 d2 => ⟨_, _, rfl, ?_⟩⟩⟩
  exact tS_after (H := H) (ps := ps) (σ := σ) (g1.trans g2) ((R2.setDat (Dq_mono g2.same _ _ d1)).setOwn (by rw [List.length_set]; exact hj) m1 m2 (psDel_ne m3) hH2 d2) q
theorem sv_parOD {oa : Option (List α)} {ob : Option β} {kk : List α → β → Option (Out S B R)} (C : Ctx X N sc fs k) (O : ParOk X N sc i j x y px py a b kt pt k2 pt2 sp) (hi : i < G.length) (ha : EO X G a oa) (hb : ED X G b ob)
    (hk : ∀ v w, SV X ((G.set i (.own (v.map enc))).set j (.dat (enc w))) rest P PB own (kk v w)) : SV X G (.Assign [.Tuple [.Name x px, .Name y py] kt pt] (.Tuple [a, b] k2 pt2) sp :: rest) P PB own (oa.bind fun v => ob.bind fun w => kk v w) := fun z hz => by
  obtain ⟨v, e1, hz⟩ := bind_get hz
  obtain ⟨w, e2, hz⟩ := bind_get hz
  refine (pss_cons (ps_par C.calm (by rw [C.n]; exact C.nd) O.i1 O.j1 O.hij O.i2 O.j2 (pa_cons (ha v e1) (pa_cons (hb w e2) pa_nil O.s2) O.s1) O.hw O.hsw) (hk v w z hz)).imp fun D σ H ⟨F, I, ps, Rr, q⟩ => ?_
  refine ⟨F, I, ps, Rr, fun p xs H1 I1 g1 R1 n1 n2 n3 hH d1 => ?_⟩
  obtain ⟨R1', bk⟩ := pend R1 n1 n2 n3 hH
  refine ⟨_, I1, ps, R1', fun w1 H2 I2 g2 R2 d2 => ⟨_, _, rfl, ?_⟩⟩
  obtain ⟨R3, g3, n4, hp⟩ := bk H2 I2 g2 R2
  have R4 := R3.setOwn hi n4 n2 n3 hp (DqAll_mono g2.same _ _ d1)
  exact tS_after (H := H) (ps := ps) (σ := σ) (g1.trans g3) (R4.setDat d2) q
def list2 {α : Type} (l : List α) : Option (T2 α α) := match l with
  | [v, w] => some ⟨v, w⟩
  | _ => none
/-- two items of a list are unpacked -/
theorem sv_unl2 {oe : Option (List α)} {kk : T2 α α → Option (Out S B R)} {e : Expr} (C : Ctx X N sc fs k) (h1 : locB N sc fs i x = true) (h2 : locB N sc fs j y = true) (hij : i ≠ j) (he : EO X G e oe)
    (hk : ∀ t : T2 α α, SV X ((G.set i (.dat (enc t.a))).set j (.dat (enc t.b))) rest P PB own (kk t)) (hs : swapsWithSole [.Tuple [.Name x px, .Name y py] kt pt] e sp.line X.env = pure false := by rfl) (hw : swappedStores [.Tuple [.Name x px, .Name y py] kt pt] e X.env = pure none := by rfl) (h3 : (assignEach [.Tuple [.Name x px, .Name y py] kt pt] X.env).map (·.2) = [assign (.Tuple [.Name x px, .Name y py] kt pt) X.env] := by rfl) :
    SV X G (.Assign [.Tuple [.Name x px, .Name y py] kt pt] e sp :: rest) P PB own ((oe.bind list2).bind kk) := fun z hz => by
  obtain ⟨t, e1, hz⟩ := bind_get hz
  obtain ⟨l, e2, e3⟩ := bind_get e1
  obtain ⟨v, w, el, et⟩ : ∃ v w, l = [v, w] ∧ t = ⟨v, w⟩ := by
    unfold list2 at e3
    split at e3
    · exact ⟨_, _, rfl, (Option.some.inj e3).symm⟩
    · cases e3
  subst el et
  refine (pss_cons (ps_asg (he _ e2) (pg_unl C.calm (pgs_cons (pgN C h1) (pgs_cons (pgN C h2) pgs_nil))) hs hw h3) (hk ⟨v, w⟩ z hz)).imp fun D σ H ⟨F, I, ps, Rr, q⟩ => ⟨F, I, ps, Rr, fun p xs H1 I1 g1 R1 n1 n2 n3 hH d1 => ?_⟩
  cases d1 with
  | cons d1 r => cases r with
    | cons d2 r =>
      cases r
      exact ⟨p, _, rfl, .inl (.inl hH), rfl, _, _, rfl, _, _, rfl, rfl, tS_after (H := H) (ps := ps) (σ := σ) g1 ((R1.setDat d1).setDat d2) q⟩
end

/-! ### tuples of one kind, unpacked -/
def tup2 {α : Type} (t : Tup α) : Option (T2 α α) := match t.l with
  | [a, b] => some ⟨a, b⟩
  | _ => none
def tup3 {α : Type} (t : Tup α) : Option (T3 α α α) := match t.l with
  | [a, b, c] => some ⟨a, b, c⟩
  | _ => none
theorem tup2_enc {α : Type} [Enc α] (t : Tup α) (y : T2 α α) (h : tup2 t = some y) : enc y = enc t := by
  obtain ⟨l⟩ := t
  unfold tup2 at h
  split at h
  · rename_i e; have e : l = _ := e; subst e; cases h; rfl
  · cases h
theorem tup3_enc {α : Type} [Enc α] (t : Tup α) (y : T3 α α α) (h : tup3 t = some y) : enc y = enc t := by
  obtain ⟨l⟩ := t
  unfold tup3 at h
  split at h
  · rename_i e; have e : l = _ := e; subst e; cases h; rfl
  · cases h
def mapO {α β : Type} (c : α → Option β) : List α → Option (List β)
  | [] => some []
  | x :: r => (c x).bind fun y => (mapO c r).bind fun s => some (y :: s)
theorem mapO_enc {α β : Type} [Enc α] [Enc β] (c : α → Option β) (hc : ∀ x y, c x = some y → enc y = enc x) : ∀ {l : List α} {m : List β}, mapO c l = some m → m.map enc = l.map enc
  | [], m, h => by cases h; rfl
  | x :: r, m, h => by
    obtain ⟨y, h1, h⟩ := bind_get h
    obtain ⟨s, h2, h⟩ := bind_get h
    cases h
    rw [List.map_cons, List.map_cons, hc x y h1, mapO_enc c hc h2]
section
variable {X : Cx} {G : List Sl} {α β : Type} [Enc α] [Enc β] {tg e a b : Expr} {pos p : Pos} {N : List Str} {sc : Scope} {fs : Option Scope} {k : Nat}
theorem it_coeP {o : Option (List α)} (c : α → Option β) (hc : ∀ x y, c x = some y → enc y = enc x) (h : IT X G tg e o) : IT X G tg e (o.bind (mapO c)) := fun m hm => by
  obtain ⟨l, h1, h2⟩ := bind_get hm
  rw [mapO_enc c hc h2]; exact h l h1

end
/-! ### truth of lists, numbers -/
class Tru (α : Type) [Enc α] where
  tr : α → Bool
  ok : ∀ (x : α) (K : PySem.W.Frag) (I H : Hp) (v : V), Same I H → Dq I v (enc x) → TruV K v H (tr x)
theorem isEmpty_len {xs : List V} {ds : List PyData} {H : Hp} (h : DqAll H xs ds) : xs.isEmpty = ds.isEmpty := by cases h <;> rfl
instance : Tru Int := ⟨fun i => i != 0, fun x K I H v s d => by cases d; rfl⟩
instance : Tru Bool := ⟨fun i => i, fun x K I H v s d => by cases d; rfl⟩
instance {α : Type} [Enc α] : Tru (List α) := ⟨fun l => !l.isEmpty, fun x K I H v s d => by
  cases d with | lst h1 h2 => exact .inl ⟨_, .inl (rd_mono s h1), by rw [isEmpty_len h2]; cases x <;> rfl⟩⟩
instance {α : Type} [Enc α] : Tru (Tup α) := ⟨fun l => !l.l.isEmpty, fun x K I H v s d => by
  cases d with | tup h1 h2 => exact .inr (.inl ⟨_, .inl (rd_mono s h1), by rw [isEmpty_len h2]; obtain ⟨l⟩ := x; cases l <;> rfl⟩)⟩
instance {α β : Type} [Enc α] [Enc β] : Tru (T2 α β) := ⟨fun _ => true, fun x K I H v s d => by
  cases d with | tup h1 h2 => exact .inr (.inl ⟨_, .inl (rd_mono s h1), by rw [isEmpty_len h2]; rfl⟩)⟩
instance {α β γ : Type} [Enc α] [Enc β] [Enc γ] : Tru (T3 α β γ) := ⟨fun _ => true, fun x K I H v s d => by
  cases d with | tup h1 h2 => exact .inr (.inl ⟨_, .inl (rd_mono s h1), by rw [isEmpty_len h2]; rfl⟩)⟩
instance {α : Type} [Enc α] [S : Tru α] : Tru (Option α) := ⟨fun o => match o with | none => false | some x => S.tr x, fun x K I H v s d => by
  cases x with
  | none => cases d; rfl
  | some x => exact S.ok x K I H v s d⟩
section
variable {X : Cx} {G : List Sl} {α β : Type} [Enc α] [Enc β] {tg e a b : Expr} {pos p : Pos} {N : List Str} {sc : Scope} {fs : Option Scope} {k : Nat}
theorem eb_truth [S : Tru α] {o : Option α} (h : ED X G e o) (he : ∀ whole, isTrue e X.env whole = (do let v ← whole; standAt e.pos; holding [v] (truthy v)) := by intro _; rfl) : EB X G e (lift1 S.tr o) := fun k hk => by
  obtain ⟨x, h1, h2⟩ := lift1_get hk
  subst h2
  exact (pt_truth (h x h1) he).imp fun σ H Q ⟨F, I, ps, R, q⟩ => ⟨F, I, ps, R, fun v H' I' g R' d => ⟨_, S.ok x _ _ _ _ R'.si d, q _ _ g R'⟩⟩
/-! ### is True -/
theorem ec_isB {oa ob : Option Bool} (ha : ED X G a oa) (hb : ED X G b ob) (hm : behindInMarks .Is b = false := by rfl) : EC X G .Is a b (lift2 (fun i j => decide (i = j)) oa ob) := ec_of op_isBl (fun x y => by
  intro F G σ H I ps v w Q R hv hw q
  cases hv; cases hw
  exact ⟨x, y, rfl, rfl, q _ _ _ Grow.refl R (.bl _)⟩) hm ha hb
theorem ec_notB {oa ob : Option Bool} (ha : ED X G a oa) (hb : ED X G b ob) (hm : behindInMarks .IsNot b = false := by rfl) : EC X G .IsNot a b (lift2 (fun i j => !decide (i = j)) oa ob) := ec_of op_notBl (fun x y => by
  intro F G σ H I ps v w Q R hv hw q
  cases hv; cases hw
  exact ⟨x, y, rfl, rfl, q _ _ _ Grow.refl R (.bl _)⟩) hm ha hb
/-! ### l.index(x) -/
def indexG {α : Type} [DecidableEq α] (l : List α) (x : α) : Option Int := (l.findIdx? fun y => decide (y = x)).map fun i => (i : Int)
theorem index_spec {α : Type} [DecidableEq α] {l : List α} {x : α} {z : Int} (h : indexG l x = some z) : ∃ j : Nat, z = j ∧ l[j]? = some x ∧ ∀ m, m < j → l[m]? ≠ some x := by
  unfold indexG at h
  cases e : l.findIdx? fun y => decide (y = x) with
  | none => rw [e] at h; cases h
  | some j =>
    rw [e] at h
    cases h
    obtain ⟨hj, h1, h2⟩ := List.findIdx?_eq_some_iff_getElem.mp e
    refine ⟨j, rfl, ?_, fun m hm c => ?_⟩
    · rw [List.getElem?_eq_getElem hj]; simpa using h1
    · have := h2 m hm
      have hl : m < l.length := by omega
      rw [List.getElem?_eq_getElem hl] at c
      simp only [Option.some.injEq] at c
      rw [c] at this
      simp at this
theorem ed_index [DecidableEq α] [EqL α] [S : Sh α] {ol : Option (List α)} {oe : Option α} {ap cp : Pos} (C : Ctx X N sc fs k) (hl : ED X G a ol) (he : ED X G e oe) (hd : S.dp ≤ 59 := by decide)
    (hab : attributeBase a (Str.ofString "index") X.env (eval a X.env) = eval a X.env := by rfl)
    (hfew : ((backTo cp (starEach [e] X.env)).all (fun x => !x.1) && (backToKw cp (keywordEach [] X.env)).all (fun x => x.1.isSome) && decide (([e] : List Expr).length + ([] : List Keyword).length + (if ([] : List Keyword).isEmpty then 0 else 1) < 30)) = true := by rfl) (hline : (ap.endLine == cp.line) = true := by rfl)
    (hs : starEach [e] X.env = (false, eval e X.env) :: starEach [] X.env := by rfl) : ED X G (.Call (.Attribute a "index" ap) [e] [] cp) (bind2 indexG ol oe) := fun z hz => by
  obtain ⟨l, x, h1, h2, h3⟩ := bind2_get hz
  obtain ⟨j, e1, e2, e3⟩ := index_spec h3
  subst e1
  refine (pe_bm PySem.F.plainAttrs_list PySem.F.slot_list_index PySem.F.type_list_index (mt_indexD (by have := C.rm.un; omega)) (hl l h1) (pa_cons (he x h2) pa_nil hs) hab hfew hline hs).imp fun σ H Q ⟨F, I, ps, R, q⟩ => ?_
  refine ⟨F, I, ps, R, fun v H1 I1 g1 R1 d1 => ⟨?_, F, I1, ps, R1, fun w H2 I2 g2 R2 d2 => ?_⟩⟩
  · cases d1 with | lst k1 k2 => exact .inl ⟨rfl, _, .inl (rd_mono R1.si k1)⟩
  · have d1 := Dq_mono g2.same _ _ d1
    have hno : ∀ (m : Nat) (z' : PyData), m < j → (l.map enc)[m]? = some z' → PyData.eqv z' (enc x) = false := fun m z' hm hz => by
      rw [List.getElem?_map] at hz
      cases c : l[m]? with
      | none => rw [c] at hz; cases hz
      | some y =>
        rw [c] at hz; cases hz
        rw [EqL.eqv, decide_eq_false_iff_not]
        exact fun q => e3 m hm (by rw [c, q])
    cases d1 with
    | lst k1 k2 => exact ⟨_, w, enc x, l.map enc, j, enc x, rfl, rfl, .lst (.inl (rd_mono R2.si k1)) (DqAll_toDp R2.si k2), Dq_dp _ _ (Dq_mono R2.si _ _ d2), shaped_of (α := List α) (Nat.succ_le_succ hd) l, shaped_of (Nat.le_trans hd (by decide)) x, by rw [List.getElem?_map, e2]; rfl, by rw [EqL.eqv]; simp, hno, q _ _ _ (g1.trans g2) R2 (.int _)⟩
end
end Lay

set_option Elab.async false
set_option linter.all false
set_option maxRecDepth 100000
set_option maxHeartbeats 4000000
/-! LayD: a tuple repeated. -/
namespace Lay
open PySem PySem.Spec PyProof.Rows L2
open Lay.Enc (enc)
/-- a tuple times 1 is the tuple itself -/
theorem mul_once (a : Addr) (its : Array Value) (n : Nat) (dd : Option Addr) (sl : Array (Option Value)) (u : Tok) (c0 : its.isEmpty = false) :
    Meets (Builtin.«tuple.__mul__» ⟨[.ref a, .int 1 u], []⟩) (fun _ R s => s.heap.get? a = some { cls := .type "tuple", dict := dd, data := .seq its n, slots := sl } ∧ R (.ok (.ret (.ref a))) s) := by
  refine .of_wp fun prog w A R s h => ?_
  obtain ⟨hp, g, d, tk, os⟩ := s
  obtain ⟨ha, h⟩ := h
  have f1 := AutoSeq1.idx_int
  have c1 : (its.isEmpty || (1 : Int) == 1) = true := by rw [c0]; rfl
  wp_walk using wpAny_loadPart' ha
  exact ⟨_, rfl, h⟩
section
variable {X : Cx}
def rOnceT (K : PySem.W.Frag) : R2 := fun x y H Q => ∃ l xs, x = .ref l ∧ y = .int 1 ∧ SqT K H l xs ∧ xs ≠ [] ∧ Q (.ref l) H
theorem op_onceT : OpR X (binaryOp .Mult) (rOnceT X.K) := by
  intro pins s σ H x y v u Q I rx ry ⟨l, xs, ex, ey, hT, ne, q⟩
  subst ex ey
  cases rx
  obtain ⟨t, e⟩ := ry
  subst e
  obtain ⟨its, rv, ⟨⟨cls, dd, data, sl⟩, ho, hc, n, hd⟩, _⟩ := I.tuple hT
  change cls = _ at hc
  change data = _ at hd
  subst hc hd
  have full : its.toArray.isEmpty = false := by
    cases its with
    | cons _ _ => rfl
    | nil => cases rv; exact absurd rfl ne
  have typ : ∀ s' : Shared, s'.TypeIs (Value.int 1 t) "int" := fun s' => typeIs_int s' 1 t
  refine wpAny_binaryOp_repeat_ref (T := "tuple") (U := "int") (by decide) ⟨_, ho, rfl⟩ typ noFill_tuple_mul F.fills_int_mul F.slot_int_rmul repeat_tuple F.slot_int_index.lookup ?_
  refine call_meets F.slot_int_rmul (typ s) F.entry_int_rmul (F.args_int_rmul_2 _ _) (int_rmul_tuple 1 t l its.toArray n dd sl) ⟨ho, rfl, ⟨_, ho, rfl⟩, ?_⟩
  exact call_meets F.slot_tuple_mul ⟨_, ho, rfl⟩ F.entry_tuple_mul (F.args_tuple_mul_2 _ _) (mul_once l its.toArray n dd sl t full) ⟨ho, .ref l, H, I, rfl, q⟩
theorem op_either {op : Value → Value → Sem Value} {r r' : R2} (h : OpR X op r) (h' : OpR X op r') : OpR X op (fun x y H Q => r x y H Q ∨ r' x y H Q) := by
  intro pins s σ H x y v u Q I rx ry q
  rcases q with q | q
  · exact h pins s σ H x y v u Q I rx ry q
  · exact h' pins s σ H x y v u Q I rx ry q
def repTG {α : Type} (t : Tup α) (k : Int) : Option (Tup α) := if (t.l.length ≤ 1000 ∧ 1 ≤ t.l.length) ∧ (1 ≤ k ∧ k ≤ 1000) then some ⟨(List.replicate k.toNat t.l).flatten⟩ else none
variable {G : List Sl} {α : Type} [Enc α] {a b : Expr} {pos : Pos}
theorem ed_repT {oa : Option (Tup α)} {ob : Option Int} (ha : ED X G a oa) (hb : ED X G b ob) : ED X G (.BinOp a .Mult b pos) (bind2 repTG oa ob) := fun z hz => by
  obtain ⟨t, k, h1, h2, h3⟩ := bind2_get hz
  obtain ⟨⟨⟨c1, c2⟩, c3, c4⟩, e⟩ := ite_get h3
  subst e
  refine (pe_op (op_either op_onceT op_repT) (ha t h1) (hb k h2)).imp (tD_op ?_)
  intro F G σ H I ps v w Q R hv hw q
  cases hw
  cases hv with
  | tup k1 k2 =>
    rename_i ad xs
    have lx : xs.length = t.l.length := by rw [k2.len, List.length_map]
    have hne : xs ≠ [] := fun c => by rw [c] at lx; simp at lx; omega
    have hs : SqT X.K H ad xs := .inl (rd_mono R.si k1)
    by_cases c : k = 1
    · subst c
      refine .inl ⟨ad, xs, rfl, rfl, hs, hne, q _ _ _ Grow.refl R ?_⟩
      show Dq I (.ref ad) (.tuple ((List.replicate (1 : Int).toNat t.l).flatten.map enc))
      rw [show (List.replicate (1 : Int).toNat t.l).flatten = t.l by simp]
      exact .tup k1 k2
    · refine .inr ⟨ad, k, xs, rfl, rfl, hs, hne, by omega, c4, by omega, fun p hp => q (.ref p) _ _ (R.grow_new hp) (R.new hp) ?_⟩
      have := (DqAll_mono (R.grow_new (o := .tup (List.replicate k.toNat xs).flatten) hp).same _ _ k2).rep k.toNat
      refine .tup (.inl upd_same) ?_
      rw [show (List.replicate k.toNat (t.l.map enc)).flatten = ((List.replicate k.toNat t.l).flatten).map enc by rw [List.map_flatten, List.map_replicate]] at this
      exact this
end
end Lay

set_option Elab.async false
set_option linter.all false
set_option maxRecDepth 100000
/-! LayQ: fractions as rational numbers. -/
namespace Lay
open PySem PySem.Spec PyProof.Rows L2
open Lay.Enc (enc)
/-! ### step by step -/
section
variable {α β S S' B R : Type}
theorem ok_set {m : Option α} {k : α → Option β} {P : β → Prop} {v : α} (h : m = some v) (p : Ok (k v) P) : Ok (m.bind k) P := ok_bind.mpr ⟨v, h, p⟩
theorem ok_let {m : Option α} {k : α → Option β} {P : β → Prop} (Q : α → Prop) (h : Ok m Q) (p : ∀ v, Q v → Ok (k v) P) : Ok (m.bind k) P := ok_bind.mpr (ok_mono h p)
/-- the test fails -/
theorem ok_skip {m : Option Bool} {a : Option (Out S B R)} {s : S} {k : S → Option (Out S' B R)} {P : Out S' B R → Prop} (h : Ok m fun t => t = false) (p : Ok (k s) P) : Ok (m.bind fun t => bindOut (bif t then a else some (.nx s)) k) P := by
  obtain ⟨t, e, rfl⟩ := h
  exact ok_set e (ok_bindOut.mpr ⟨_, rfl, p⟩)
theorem ok_ifS {m : Option Bool} {a b : Option (Out S B R)} {k : S → Option (Out S' B R)} {P : Out S' B R → Prop} (I : S → Prop) (h : Ok m fun t => (t = true → Ok a (Nx I)) ∧ (t = false → Ok b (Nx I))) (p : ∀ s, I s → Ok (k s) P) : Ok (m.bind fun t => bindOut (bif t then a else b) k) P := by
  obtain ⟨t, e, h1, h2⟩ := h
  have : ∀ o : Option (Out S B R), Ok o (Nx I) → Ok (bindOut o k) P := fun o ⟨x, ex, hx⟩ => by
    cases x with
    | nx s => exact ok_bindOut.mpr ⟨_, ex, p s hx⟩
    | bk s => exact hx.elim
    | ct s => exact hx.elim
    | rt s => exact hx.elim
    | er s => exact hx.elim
  refine ok_set e ?_
  cases t with
  | true => exact this _ (h1 rfl)
  | false => exact this _ (h2 rfl)
/-- the test holds, or not, for all that follows -/
theorem ok_caseS {m : Option Bool} {a b : Option (Out S B R)} {k : S → Option (Out S' B R)} {P : Out S' B R → Prop} {t : Bool} (e : m = some t) (h1 : t = true → Ok (bindOut a k) P) (h2 : t = false → Ok (bindOut b k) P) : Ok (m.bind fun t => bindOut (bif t then a else b) k) P := by
  refine ok_set e ?_
  cases t with
  | true => exact h1 rfl
  | false => exact h2 rfl
theorem ok_forS {step : S → α → Option (Out S S R)} {m : Option (List α)} {l : List α} {s : S} {k : S → Option (Out S' B R)} {P : Out S' B R → Prop} (e : m = some l) (I : Nat → S → Prop) (h0 : I 0 s) (hs : ∀ i s x, l[i]? = some x → I i s → Ok (step s x) (Nx (I (i + 1)))) (p : ∀ s, I l.length s → Ok (k s) P) :
    Ok (m.bind fun l => bindOut (forL step s l) k) P := ok_set e (ok_bindOut.mpr (ok_for I h0 hs p))
theorem ok_retS {d : Option R} {m : Option R} {P : R → Prop} (h : Ok m P) : Ok (m.bind fun r => some (Out.rt r : Out Unit Unit R)) (FO d P) := by
  obtain ⟨x, e, p⟩ := h
  exact ok_set e ⟨_, rfl, p⟩
theorem rng1_at {j : Nat} (h : j ≤ 16777216) : rng1 (j : Int) = some (rngL 0 j) := rng1_of (by omega) (by omega)
end
def ofR (r : Rat) : Q := ⟨r.num, r.den⟩
theorem ofR_a (r : Rat) : (ofR r).a = r.num := rfl
theorem ofR_b (r : Rat) : (ofR r).b = r.den := rfl
theorem ofR_inj {r s : Rat} : ofR r = ofR s ↔ r = s := ⟨fun h => by
  have h1 : r.num = s.num := congrArg T2.a h
  have h2 : ((r.den : Nat) : Int) = s.den := congrArg T2.b h
  exact Rat.ext h1 (by omega), fun h => by rw [h]⟩
theorem den_pos (r : Rat) : (0 : Int) < r.den := by have := r.den_pos; omega
theorem frac_mk {n d : Int} (h : 0 < d) : frac n d = ofR (mkRat n d.toNat) := by
  have h0 : d.toNat ≠ 0 := by omega
  have e : ((d.toNat.gcd n.natAbs : Nat) : Int) = gcdI n d := by
    unfold gcdI; rw [Nat.gcd_comm, show d.natAbs = d.toNat by omega]
  unfold frac ofR
  rw [Rat.num_mkRat, Rat.den_mkRat, if_neg h0, if_neg h0, e, Int.natCast_ediv, e, show ((d.toNat : Nat) : Int) = d by omega]
theorem frac_div {n d : Int} (h : 0 < d) : frac n d = ofR ((n : Rat) / (d : Rat)) := by
  rw [frac_mk h, Rat.mkRat_eq_div]
  have : ((d.toNat : Nat) : Rat) = ((d : Int) : Rat) := by rw [← Rat.intCast_natCast]; congr 1; omega
  rw [this]
theorem ofR_int (n : Int) : ofR (n : Rat) = ⟨n, 1⟩ := rfl
theorem ofR_zero : ofR 0 = ⟨0, 1⟩ := rfl
theorem ofR_one : ofR 1 = ⟨1, 1⟩ := rfl
theorem add_frac (x y : Rat) : frac ((ofR x).a * (ofR y).b + (ofR y).a * (ofR x).b) ((ofR x).b * (ofR y).b) = ofR (x + y) := by
  have : 0 < (ofR x).b * (ofR y).b := Int.mul_pos (den_pos x) (den_pos y)
  rw [frac_mk this, Rat.add_def']
  have e : ((ofR x).b * (ofR y).b).toNat = x.den * y.den := by
    show (((x.den : Nat) : Int) * ((y.den : Nat) : Int)).toNat = x.den * y.den
    rw [← Int.natCast_mul]; exact Int.toNat_natCast _
  rw [e]; rfl
theorem sub_frac (x y : Rat) : frac ((ofR x).a * (ofR y).b - (ofR y).a * (ofR x).b) ((ofR x).b * (ofR y).b) = ofR (x - y) := by
  have : 0 < (ofR x).b * (ofR y).b := Int.mul_pos (den_pos x) (den_pos y)
  rw [frac_mk this, Rat.sub_def']
  have e : ((ofR x).b * (ofR y).b).toNat = x.den * y.den := by
    show (((x.den : Nat) : Int) * ((y.den : Nat) : Int)).toNat = x.den * y.den
    rw [← Int.natCast_mul]; exact Int.toNat_natCast _
  rw [e]; rfl
theorem mul_frac (x y : Rat) : frac ((ofR x).a * (ofR y).a) ((ofR x).b * (ofR y).b) = ofR (x * y) := by
  have : 0 < (ofR x).b * (ofR y).b := Int.mul_pos (den_pos x) (den_pos y)
  rw [frac_mk this, Rat.mul_def']
  have e : ((ofR x).b * (ofR y).b).toNat = x.den * y.den := by
    show (((x.den : Nat) : Int) * ((y.den : Nat) : Int)).toNat = x.den * y.den
    rw [← Int.natCast_mul]; exact Int.toNat_natCast _
  rw [e]; rfl
theorem lt_ofR (x y : Rat) : (ofR x).a * (ofR y).b < (ofR y).a * (ofR x).b ↔ x < y := (Rat.lt_iff x y).symm
theorem le_ofR (x y : Rat) : (ofR x).a * (ofR y).b ≤ (ofR y).a * (ofR x).b ↔ x ≤ y := (Rat.le_iff x y).symm
theorem a_nonneg (x : Rat) : 0 ≤ (ofR x).a ↔ 0 ≤ x := Rat.num_nonneg
theorem a_neg (x : Rat) : (ofR x).a < 0 ↔ x < 0 := by
  have := a_nonneg x
  rw [← Rat.not_le, ← this]
  omega
theorem a_zero (x : Rat) : (ofR x).a = 0 ↔ x = 0 := by
  show x.num = 0 ↔ _
  exact Rat.num_eq_zero
theorem a_pos (x : Rat) : 0 < (ofR x).a ↔ 0 < x := by
  have h1 := a_nonneg x; have h2 := a_zero x
  constructor
  · intro h
    have : 0 ≤ x := h1.mp (by omega)
    have : x ≠ 0 := fun c => by have := h2.mpr c; omega
    grind
  · intro h
    have : 0 ≤ (ofR x).a := h1.mpr (by grind)
    have : (ofR x).a ≠ 0 := fun c => by have := h2.mp c; grind
    omega
theorem gcd_ofR (x : Rat) : gcdI (ofR x).a (ofR x).b = 1 := by
  have := x.reduced
  unfold gcdI ofR
  show ((Nat.gcd x.num.natAbs (x.den : Int).natAbs : Nat) : Int) = 1
  rw [Int.natAbs_natCast]
  have : Nat.gcd x.num.natAbs x.den = 1 := this
  omega
/-- a pair that is a fraction -/
theorem of_fraction {q : Q} (h : 0 < q.b) (h2 : gcdI q.a q.b = 1) : ∃ r, q = ofR r := by
  obtain ⟨a, b⟩ := q
  have h : 0 < b := h
  refine ⟨⟨a, b.toNat, by omega, ?_⟩, ?_⟩
  · unfold gcdI at h2
    have h2 : ((Nat.gcd a.natAbs b.natAbs : Nat) : Int) = 1 := h2
    show Nat.gcd a.natAbs b.toNat = 1
    rw [show b.toNat = b.natAbs by omega]
    omega
  · show (⟨a, b⟩ : Q) = ⟨a, (b.toNat : Nat)⟩
    rw [show ((b.toNat : Nat) : Int) = b by omega]

/-! ### sizes -/
/-- both parts have at most k bits -/
def Bq (k : Nat) (r : Rat) : Prop := r.num.natAbs < 2 ^ k ∧ r.den < 2 ^ k
theorem Bq.mono {j k : Nat} {r : Rat} (h : Bq j r) (hk : j ≤ k) : Bq k r :=
  ⟨Nat.lt_of_lt_of_le h.1 (Nat.pow_le_pow_right (by decide) hk), Nat.lt_of_lt_of_le h.2 (Nat.pow_le_pow_right (by decide) hk)⟩
theorem bq_int {n : Int} {k : Nat} (h : n.natAbs < 2 ^ k) (hk : 0 < k) : Bq k (n : Rat) := by
  refine ⟨h, ?_⟩
  show 1 < 2 ^ k
  exact Nat.one_lt_two_pow (by omega)
theorem bq_mk {n : Int} {d k : Nat} (h : n.natAbs < 2 ^ k) (h2 : d < 2 ^ k) (hd : d ≠ 0) : Bq k (mkRat n d) := by
  unfold Bq
  rw [Rat.num_mkRat, Rat.den_mkRat, if_neg hd, if_neg hd]
  refine ⟨?_, Nat.lt_of_le_of_lt (Nat.div_le_self _ _) h2⟩
  rw [Int.natAbs_ediv_of_dvd (by
    exact Int.ofNat_dvd_left.mpr (Nat.gcd_dvd_right _ _))]
  exact Nat.lt_of_le_of_lt (Nat.div_le_self _ _) h
theorem lt_mul {a b j k : Nat} (h1 : a < 2 ^ j) (h2 : b < 2 ^ k) : a * b < 2 ^ (j + k) := by
  rw [Nat.pow_add]
  exact Nat.mul_lt_mul_of_lt_of_le h1 (Nat.le_of_lt h2) (Nat.two_pow_pos k)
theorem bq_add {j k : Nat} {x y : Rat} (hx : Bq j x) (hy : Bq k y) : Bq (j + k + 1) (x + y) := by
  rw [Rat.add_def']
  have hd : x.den * y.den ≠ 0 := Nat.mul_ne_zero x.den_nz y.den_nz
  have h1 := lt_mul hx.1 hy.2
  have h2 := lt_mul hx.2 hy.1
  have h3 := lt_mul hx.2 hy.2
  have e : 2 ^ (j + k + 1) = 2 ^ (j + k) + 2 ^ (j + k) := by rw [Nat.pow_succ]; omega
  refine bq_mk ?_ (by omega) hd
  have e1 : (x.num * (y.den : Int)).natAbs = x.num.natAbs * y.den := by rw [Int.natAbs_mul]; rfl
  have e2 : (y.num * (x.den : Int)).natAbs = x.den * y.num.natAbs := by rw [Int.natAbs_mul, Nat.mul_comm]; rfl
  omega
theorem bq_neg {k : Nat} {x : Rat} (hx : Bq k x) : Bq k (-x) := by
  refine ⟨?_, hx.2⟩
  show (-x.num).natAbs < _
  rw [Int.natAbs_neg]; exact hx.1
theorem bq_sub {j k : Nat} {x y : Rat} (hx : Bq j x) (hy : Bq k y) : Bq (j + k + 1) (x - y) := by
  rw [Rat.sub_eq_add_neg]; exact bq_add hx (bq_neg hy)
theorem bq_mul {j k : Nat} {x y : Rat} (hx : Bq j x) (hy : Bq k y) : Bq (j + k) (x * y) := by
  rw [Rat.mul_def']
  have hd : x.den * y.den ≠ 0 := Nat.mul_ne_zero x.den_nz y.den_nz
  refine bq_mk ?_ (lt_mul hx.2 hy.2) hd
  rw [Int.natAbs_mul]; exact lt_mul hx.1 hy.1
theorem bq_div {n d : Int} {k : Nat} (h : n.natAbs < 2 ^ k) (h2 : d < 2 ^ k) (hd : 0 < d) : Bq k ((n : Rat) / (d : Rat)) := by
  have e : ((n : Rat) / (d : Rat)) = mkRat n d.toNat := by
    rw [Rat.mkRat_eq_div]
    have : ((d.toNat : Nat) : Rat) = ((d : Int) : Rat) := by rw [← Rat.intCast_natCast]; congr 1; omega
    rw [this]
  rw [e]
  have h2' : ((2 ^ k : Nat) : Int) = 2 ^ k := by simp
  exact bq_mk h (by omega) (by omega)
theorem log2_bq {n k : Nat} (h : n < 2 ^ k) : n.log2 ≤ k := by
  by_cases c : n = 0
  · subst c; show Nat.log2 0 ≤ k; simp
  · exact Nat.le_of_lt ((Nat.log2_lt c).mpr h)
theorem mulOk_bits {i j : Int} {a b : Nat} (hi : i.natAbs < 2 ^ a) (hj : j.natAbs < 2 ^ b) (h : a + b < 1000000) : MulOk i j := by
  have := log2_bq hi; have := log2_bq hj
  unfold MulOk; omega
/-- a sum of fractions, from the left -/
def sumR (l : List Rat) : Rat := l.foldl (· + ·) 0
theorem foldl_add (l : List Rat) : ∀ x : Rat, l.foldl (· + ·) x = x + sumR l := by
  unfold sumR
  induction l with
  | nil => intro x; simp [Rat.add_zero]
  | cons y r ih => intro x; rw [List.foldl_cons, ih, List.foldl_cons, ih (0 + y)]; grind
@[simp] theorem sumR_nil : sumR [] = 0 := rfl
@[simp] theorem sumR_cons (x : Rat) (l : List Rat) : sumR (x :: l) = x + sumR l := by
  show (l.foldl (· + ·) (0 + x)) = _
  rw [foldl_add, Rat.zero_add]
theorem sumR_append (l m : List Rat) : sumR (l ++ m) = sumR l + sumR m := by
  induction l with
  | nil => simp [Rat.zero_add]
  | cons x l ih => rw [List.cons_append, sumR_cons, sumR_cons, ih]; grind
theorem sumR_map_int (l : List Int) : sumR (l.map fun (x : Int) => (x : Rat)) = ((l.sum : Int) : Rat) := by
  induction l with
  | nil => rfl
  | cons x l ih => rw [List.map_cons, sumR_cons, ih, List.sum_cons]; grind
theorem sumR_neg (l : List Rat) : sumR (l.map fun x => -x) = - sumR l := by
  induction l with
  | nil => rfl
  | cons x l ih => rw [List.map_cons, sumR_cons, ih, sumR_cons]; grind
theorem bq_sum {k : Nat} : ∀ {l : List Rat}, (∀ x, x ∈ l → Bq k x) → Bq (l.length * (k + 1) + 1) (sumR l)
  | [], _ => (bq_int (n := 0) (k := 1) (by decide) (by decide)).mono (by omega)
  | x :: l, h => by
    rw [sumR_cons]
    have h1 := h x (by simp)
    have h2 := bq_sum fun y hy => h y (List.mem_cons_of_mem _ hy)
    refine (bq_add h1 h2).mono ?_
    rw [List.length_cons, Nat.add_mul]; omega
theorem rb_q {r : Rat} {k : Nat} (h : Bq k r) (hk : k < 1900) : RB (ofR r) (2 * (k + 3) + 7) := by
  have h1 : RB (ofR r).a (k + 3) := rb_bits h.1 hk
  have h2 : RB (ofR r).b (k + 3) := rb_bits h.2 hk
  have := rb_t2 (t := ofR r) h1 h2
  exact ⟨this.1, Nat.le_trans this.2 (by omega)⟩
theorem RB.mono {α : Type} [Enc α] [S : Rp α] {x : α} {m n : Nat} (h : RB x m) (hm : m ≤ n) : RB x n := ⟨h.1, Nat.le_trans h.2 hm⟩
theorem num_den (x : Rat) : (x.num : Rat) / ((x.den : Nat) : Rat) = x := by
  rw [← Rat.mkRat_eq_div]; exact Rat.mkRat_self x
theorem den_ne (x : Rat) : ((x.den : Nat) : Rat) ≠ 0 := fun h => x.den_nz (Rat.natCast_eq_zero_iff.mp h)
theorem num_ne {x : Rat} (h : 0 < x) : (x.num : Rat) ≠ 0 := fun c => by
  have h1 : x.num = 0 := Rat.intCast_inj.mp (by rw [c]; rfl)
  have := (a_pos x).mpr h
  have : 0 < x.num := this
  omega
theorem over_pos {x y : Rat} (h : 0 < y) : 0 < (ofR x).b * (ofR y).a := Int.mul_pos (den_pos x) ((a_pos y).mpr h)
theorem over_frac {x y : Rat} (h : 0 < y) : frac ((ofR x).a * (ofR y).b) ((ofR x).b * (ofR y).a) = ofR (x / y) := by
  rw [frac_div (over_pos h), ofR_inj]
  have e1 := num_den x
  have e2 := num_den y
  have h1 := den_ne x
  have h2 := den_ne y
  have h3 := num_ne h
  have e3 : (((ofR x).a * (ofR y).b : Int) : Rat) = (x.num : Rat) * ((y.den : Nat) : Rat) := by rw [Rat.intCast_mul]; rfl
  have e4 : (((ofR x).b * (ofR y).a : Int) : Rat) = ((x.den : Nat) : Rat) * (y.num : Rat) := by rw [Rat.intCast_mul]; rfl
  rw [e3, e4]
  generalize (x.num : Rat) = a at *
  generalize ((x.den : Nat) : Rat) = b at *
  generalize (y.num : Rat) = c at *
  generalize ((y.den : Nat) : Rat) = d at *
  subst e1 e2
  grind
theorem bq_inv {k : Nat} {y : Rat} (hy : Bq k y) (h : 0 < y) {j : Nat} {x : Rat} (hx : Bq j x) : Bq (j + k) (x / y) := by
  rw [← ofR_inj.mp (show ofR (x / y) = ofR (x / y) from rfl)]
  have e : x / y = mkRat ((ofR x).a * (ofR y).b) ((ofR x).b * (ofR y).a).toNat := by
    rw [← ofR_inj, ← over_frac h, frac_mk (over_pos h)]
  rw [e]
  have hp := over_pos (x := x) h
  refine bq_mk ?_ ?_ (by omega)
  · rw [Int.natAbs_mul]; exact lt_mul hx.1 hy.2
  · have h1 : ((ofR x).b * (ofR y).a).natAbs < 2 ^ (j + k) := by rw [Int.natAbs_mul]; exact lt_mul hx.2 hy.1
    omega
end Lay

set_option Elab.async false
set_option linter.all false
set_option maxRecDepth 100000
/-! LayT: tasks, their tuples and plans; the first of the greatest. -/
namespace Lay
open PySem PySem.Spec PyProof.Rows L2
open Lay.Enc (enc)
abbrev Task := T4 (List Int) (List (List Int)) (List Int) (List Int)
/-! ### lists side by side -/
theorem zip_get {α β : Type} {l : List α} {m : List β} {i : Nat} {x : α} {y : β} (h1 : l[i]? = some x) (h2 : m[i]? = some y) : (zipL l m)[i]? = some ⟨x, y⟩ := by
  unfold zipL
  rw [List.getElem?_zipWith, h1, h2]
theorem zip_inv {α β : Type} {l : List α} {m : List β} {i : Nat} {z : T2 α β} (h : (zipL l m)[i]? = some z) : l[i]? = some z.a ∧ m[i]? = some z.b := by
  unfold zipL at h
  rw [List.getElem?_zipWith] at h
  cases e1 : l[i]? with
  | none => rw [e1] at h; cases h
  | some x =>
    cases e2 : m[i]? with
    | none => rw [e1, e2] at h; cases h
    | some y => rw [e1, e2] at h; cases h; exact ⟨rfl, rfl⟩
theorem zip_len {α β : Type} {l : List α} {m : List β} : (zipL l m).length = min l.length m.length := by unfold zipL; exact List.length_zipWith
theorem inBox_zip : ∀ {xs ts : List Int}, xs.length = ts.length → (inBox xs ts ↔ ∀ z, z ∈ zipL xs ts → 0 ≤ z.a ∧ z.a ≤ z.b)
  | [], [], _ => by simp [inBox, zipL]
  | x :: xs, t :: ts, h => by
    have ih := inBox_zip (xs := xs) (ts := ts) (by simpa using h)
    show (0 ≤ x ∧ x ≤ t ∧ inBox xs ts) ↔ ∀ z, z ∈ (⟨x, t⟩ : T2 Int Int) :: zipL xs ts → _
    rw [ih]
    constructor
    · rintro ⟨a, b, c⟩ z hz
      rw [List.mem_cons] at hz
      rcases hz with rfl | hz
      · exact ⟨a, b⟩
      · exact c z hz
    · intro q
      have := q ⟨x, t⟩ (by simp)
      exact ⟨this.1, this.2, fun z hz => q z (by simp [hz])⟩
theorem take1 {α : Type} {l : List α} {i : Nat} {x : α} (h : l[i]? = some x) : l.take (i + 1) = l.take i ++ [x] := by
  rw [List.take_add_one, h]; rfl
theorem atn {l : List Int} {k : Int} (h : 0 ≤ k) (h2 : k < l.length) : atI l k = some (l.getD k.toNat 0) := by
  rw [atI_eq h h2]
  have : k.toNat < l.length := by omega
  simp [List.getD, List.getElem?_eq_getElem this]
theorem atD {α : Type} {l : List α} {k : Int} (d : α) (h : 0 ≤ k) (h2 : k < l.length) : atI l k = some (l.getD k.toNat d) := by
  rw [atI_eq h h2]
  have : k.toNat < l.length := by omega
  simp [List.getD, List.getElem?_eq_getElem this]
theorem at_map {α γ : Type} {l : List α} {f : α → γ} {k : Int} {x : α} (h : 0 ≤ k) (e : atI l k = some x) (h2 : k < l.length) : atI (l.map f) k = some (f x) := by
  rw [atI_eq h h2] at e
  rw [atI_eq h (by rw [List.length_map]; exact h2), List.getElem?_map, e]; rfl
theorem getD_mem {l : List Int} {k : Int} (h : 0 ≤ k) (h2 : k < l.length) : l.getD k.toNat 0 ∈ l := by
  have : k.toNat < l.length := by omega
  simp [List.getD, List.getElem?_eq_getElem this]
theorem getD_memD {α : Type} {l : List α} {k : Int} {d : α} (h : 0 ≤ k) (h2 : k < l.length) : l.getD k.toNat d ∈ l := by
  have : k.toNat < l.length := by omega
  simp [List.getD, List.getElem?_eq_getElem this]
theorem atE {α : Type} {l : List α} {i : Nat} {x : α} (h : l[i]? = some x) : atI l (i : Int) = some x := by
  have := (List.getElem?_eq_some_iff.mp h).1
  rw [atI_eq (by omega) (by omega)]; simpa using h
/-! ### how many tuples there are -/
def boxN : List Int → Nat
  | [] => 1
  | t :: r => (t + 1).toNat * boxN r
theorem boxN_app (l m : List Int) : boxN (l ++ m) = boxN l * boxN m := by
  induction l with
  | nil => show boxN m = 1 * boxN m; omega
  | cons x l ih => show (x + 1).toNat * boxN (l ++ m) = (x + 1).toNat * boxN l * boxN m; rw [ih, Nat.mul_assoc]
theorem boxStep_len (f : List (Tup Int)) (x : Int) : (boxStep f x).length = f.length * (x + 1).toNat := by
  unfold boxStep
  induction f with
  | nil => simp
  | cons u f ih => rw [List.flatMap_cons, List.length_append, ih, List.length_map, rng_len, List.length_cons, Nat.add_mul, Nat.one_mul, Nat.add_comm]
theorem box_snoc (l : List Int) (x : Int) : box (l ++ [x]) = boxStep (box l) x := by unfold box; rw [List.foldl_append]; rfl
theorem box_length : ∀ (n : Nat) (l : List Int), l.length = n → (box l).length = boxN l := by
  intro n
  induction n with
  | zero => intro l h; have := List.eq_nil_of_length_eq_zero h; subst this; rfl
  | succ n ih =>
    intro l h
    have hne : l ≠ [] := by intro c; subst c; simp at h
    rw [← List.dropLast_concat_getLast hne]
    generalize l.getLast hne = x
    have hl : l.dropLast.length = n := by rw [List.length_dropLast]; omega
    rw [box_snoc, boxStep_len, ih _ hl, boxN_app]
    show boxN l.dropLast * (x + 1).toNat = boxN l.dropLast * ((x + 1).toNat * 1)
    rw [Nat.mul_one]
theorem boxN_pos : ∀ {l : List Int}, (∀ x, x ∈ l → 0 ≤ x) → 1 ≤ boxN l
  | [], _ => Nat.le_refl 1
  | x :: l, h => by
    have h1 := h x (by simp)
    have h2 := boxN_pos fun y hy => h y (List.mem_cons_of_mem _ hy)
    show 1 ≤ (x + 1).toNat * boxN l
    exact Nat.mul_pos (by omega) h2
theorem boxN_take {l : List Int} (h : ∀ x, x ∈ l → 0 ≤ x) (i : Nat) : boxN (l.take i) ≤ boxN l := by
  have e : boxN l = boxN (l.take i) * boxN (l.drop i) := by rw [← boxN_app, List.take_append_drop]
  rw [e]
  exact Nat.le_mul_of_pos_right _ (boxN_pos fun x hx => h x (List.mem_of_mem_drop hx))
theorem boxN_le {T : Nat} : ∀ {l : List Int}, (∀ x, x ∈ l → 0 ≤ x ∧ x ≤ T) → boxN l ≤ (T + 1) ^ l.length
  | [], _ => Nat.le_refl 1
  | x :: l, h => by
    have h1 := h x (by simp)
    have h2 := boxN_le fun y hy => h y (List.mem_cons_of_mem _ hy)
    show (x + 1).toNat * boxN l ≤ _
    rw [List.length_cons, Nat.pow_succ, Nat.mul_comm]
    exact Nat.mul_le_mul h2 (by omega)
/-! ### tasks -/
structure TK (t : Task) : Prop where
  n1 : 1 ≤ t.a.length
  n6 : t.a.length ≤ 6
  g : ∀ x, x ∈ t.a → x.natAbs ≤ 20
  b6 : t.b.length ≤ 6
  rl : ∀ r, r ∈ t.b → r.length = t.a.length
  r : ∀ r, r ∈ t.b → ∀ x, x ∈ r → x.natAbs ≤ 20
  cl : t.c.length = t.b.length
  c : ∀ x, x ∈ t.c → x.natAbs ≤ 200
  dl : t.d.length = t.a.length
  d : ∀ x, x ∈ t.d → 0 ≤ x ∧ x ≤ 12
  s : boxN t.d ≤ 20000
/-- values within bounds -/
def UB (T : Nat) (u : Tup Int) : Prop := ∀ x, x ∈ u.l → x.natAbs ≤ T
theorem box_mem {t : Task} (h : TK t) {u : Tup Int} : u ∈ box t.d ↔ inBox u.l t.d := mem_box _ _ rfl (fun x hx => (h.d x hx).1) u
theorem box_len6 {t : Task} (h : TK t) {u : Tup Int} (hu : u ∈ box t.d) : u.l.length = t.a.length := by
  rw [inBox_len ((box_mem h).mp hu), h.dl]
theorem box_ub {t : Task} (h : TK t) {u : Tup Int} (hu : u ∈ box t.d) : ∀ x, x ∈ u.l → 0 ≤ x ∧ x ≤ 12 :=
  inBox_mem ((box_mem h).mp hu) fun y hy => (h.d y hy).2
theorem box_UB {t : Task} (h : TK t) {u : Tup Int} (hu : u ∈ box t.d) : UB 12 u := fun x hx => by have := box_ub h hu x hx; omega
theorem box_part {t : Task} (h : TK t) (i : Nat) : (box (t.d.take i)).length ≤ 20000 ∧ ∀ u, u ∈ box (t.d.take i) → u.l.length ≤ 6 := by
  have h0 : ∀ x, x ∈ t.d.take i → 0 ≤ x := fun x hx => (h.d x (List.mem_of_mem_take hx)).1
  refine ⟨?_, fun u hu => ?_⟩
  · rw [box_length _ _ rfl]
    exact Nat.le_trans (boxN_take (fun x hx => (h.d x hx).1) i) h.s
  · have := inBox_len ((mem_box _ _ rfl h0 u).mp hu)
    rw [this, List.length_take]
    have := h.dl; have := h.n6
    omega
theorem box_all {t : Task} (h : TK t) : (box t.d).length ≤ 20000 := by
  rw [box_length _ _ rfl]; exact h.s
theorem dot_le {A B n : Nat} {r : List Int} {u : List Int} (hn : r.length ≤ n) (hr : ∀ x, x ∈ r → x.natAbs ≤ A) (hu : ∀ x, x ∈ u → x.natAbs ≤ B) : (dot r u).natAbs ≤ n * (A * B) :=
  Nat.le_trans (dot_bound hr hu) (Nat.mul_le_mul_right _ hn)
theorem row_dot {t : Task} (h : TK t) {r : List Int} (hr : r ∈ t.b) {u : Tup Int} (hu : UB 100 u) : (dot r u.l).natAbs ≤ 12000 :=
  dot_le (n := 6) (A := 20) (B := 100) (by rw [h.rl r hr]; exact h.n6) (h.r r hr) hu
theorem gain_dot {t : Task} (h : TK t) {u : Tup Int} (hu : UB 100 u) : (dot t.a u.l).natAbs ≤ 12000 :=
  dot_le (n := 6) (A := 20) (B := 100) h.n6 h.g hu
theorem UB.mono {S T : Nat} {u : Tup Int} (h : UB S u) (hs : S ≤ T) : UB T u := fun x hx => Nat.le_trans (h x hx) hs
/-- all rows are kept -/
def keepsB (t : Task) (u : List Int) : Bool := (zipL t.b t.c).all fun z => decide (dot z.a u ≤ z.b)
def plansP (t : Task) : List (Tup Int) := (box t.d).filter fun u => keepsB t u.l
def isPlan (t : Task) (u : Tup Int) : Prop := u ∈ plansP t
theorem plan_box {t : Task} {u : Tup Int} (h : u ∈ plansP t) : u ∈ box t.d := (List.mem_filter.mp h).1
theorem plan_iff {t : Task} {u : Tup Int} : u ∈ plansP t ↔ u ∈ box t.d ∧ keepsB t u.l = true := by unfold plansP; rw [List.mem_filter]
theorem plans_len {t : Task} (h : TK t) : (plansP t).length ≤ 20000 := Nat.le_trans (List.length_filter_le _ _) (box_all h)
theorem keeps_idx {t : Task} {u : List Int} (hl : t.c.length = t.b.length) : keepsB t u = true ↔ ∀ k : Int, k ∈ rngL 0 t.b.length → ¬ t.c.getD k.toNat 0 < dot (t.b.getD k.toNat []) u := by
  unfold keepsB
  rw [List.all_eq_true]
  constructor
  · intro q k hk
    have hk := mem_rng.mp hk
    have k1 : k.toNat < t.c.length := by omega
    have k2 : k.toNat < t.b.length := by omega
    have z := List.mem_of_getElem? (zip_get (List.getElem?_eq_getElem k2) (List.getElem?_eq_getElem k1))
    have := of_decide_eq_true (q _ z)
    simp [k1, k2]
    omega
  · intro q z hz
    obtain ⟨i, hi, e⟩ := List.mem_iff_getElem.mp hz
    obtain ⟨e1, e2⟩ := zip_inv (show (zipL t.b t.c)[i]? = some z by rw [List.getElem?_eq_getElem hi, e])
    have i2 := (List.getElem?_eq_some_iff.mp e1).1
    have := q (i : Int) (mem_rng.mpr ⟨by omega, by omega⟩)
    simp only [List.getD, Int.toNat_natCast, e1, e2, Option.getD_some] at this
    exact decide_eq_true (by omega)
theorem filter_nil {α : Type} {l : List α} {p : α → Bool} : l.filter p = [] ↔ ∀ x, x ∈ l → ¬ p x = true := List.filter_eq_nil_iff
/-! ### the first of the greatest -/
def upB {α β : Type} [LT β] [DecidableRel (α := β) (· < ·)] (f : α → β) (b : Option (T2 β α)) (x : α) : Option (T2 β α) := match b with
  | none => some ⟨f x, x⟩
  | some p => if p.a < f x then some ⟨f x, x⟩ else some p
def bestB {α β : Type} [LT β] [DecidableRel (α := β) (· < ·)] (f : α → β) (l : List α) : Option (T2 β α) := l.foldl (upB f) none
section
variable {α β : Type} [LT β] [DecidableRel (α := β) (· < ·)] {f : α → β}
theorem bestB_snoc {l : List α} {x : α} : bestB f (l ++ [x]) = upB f (bestB f l) x := by unfold bestB; rw [List.foldl_append]; rfl
theorem bestB_take {l : List α} {i : Nat} {x : α} (h : l[i]? = some x) : bestB f (l.take (i + 1)) = upB f (bestB f (l.take i)) x := by
  rw [take1 h, bestB_snoc]
theorem bestB_congr {g : α → β} {l : List α} (h : ∀ x, x ∈ l → f x = g x) : bestB f l = bestB g l := by
  have : ∀ (l : List α) (b : Option (T2 β α)), (∀ x, x ∈ l → f x = g x) → l.foldl (upB f) b = l.foldl (upB g) b := by
    intro l
    induction l with
    | nil => intro b _; rfl
    | cons x l ih =>
      intro b h
      have e : upB f b x = upB g b x := by unfold upB; rw [h x (by simp)]
      rw [List.foldl_cons, List.foldl_cons, e]
      exact ih _ fun y hy => h y (List.mem_cons_of_mem _ hy)
  exact this l none h
theorem upB_none {x : α} : upB f none x = some ⟨f x, x⟩ := rfl
theorem upB_lt {x : α} {p : T2 β α} (h : p.a < f x) : upB f (some p) x = some ⟨f x, x⟩ := if_pos h
theorem upB_ge {x : α} {p : T2 β α} (h : ¬ p.a < f x) : upB f (some p) x = some p := if_neg h
theorem bestB_mem : ∀ (n : Nat) (l : List α), l.length = n → ∀ p, bestB f l = some p → p.b ∈ l ∧ p.a = f p.b := by
  intro n
  induction n with
  | zero => intro l h p hp; have := List.eq_nil_of_length_eq_zero h; subst this; cases hp
  | succ n ih =>
    intro l h p hp
    have hne : l ≠ [] := by intro c; subst c; simp at h
    rw [← List.dropLast_concat_getLast hne] at hp ⊢
    generalize l.getLast hne = x at *
    have ih := ih l.dropLast (by rw [List.length_dropLast]; omega)
    generalize l.dropLast = m at *
    rw [bestB_snoc] at hp
    cases q : bestB f m with
    | none => rw [q, upB_none] at hp; cases hp; exact ⟨by simp, rfl⟩
    | some p0 =>
      rw [q] at hp
      by_cases c : p0.a < f x
      · rw [upB_lt c] at hp; cases hp; exact ⟨by simp, rfl⟩
      · rw [upB_ge c] at hp; cases hp
        obtain ⟨h1, h2⟩ := ih p q
        exact ⟨by simp [h1], h2⟩
theorem bestB_in {l : List α} {p : T2 β α} (h : bestB f l = some p) : p.b ∈ l ∧ p.a = f p.b := bestB_mem _ l rfl p h
theorem bestB_max (irr : ∀ a : β, ¬ a < a) (tr : ∀ a b c : β, ¬ a < b → ¬ b < c → ¬ a < c) (as : ∀ a b : β, a < b → ¬ b < a) : ∀ (n : Nat) (l : List α), l.length = n → ∀ x, x ∈ l → ∃ p, bestB f l = some p ∧ ¬ p.a < f x := by
  intro n
  induction n with
  | zero => intro l h x hx; have := List.eq_nil_of_length_eq_zero h; subst this; simp at hx
  | succ n ih =>
    intro l h x hx
    have hne : l ≠ [] := by intro c; subst c; simp at h
    rw [← List.dropLast_concat_getLast hne] at hx ⊢
    generalize l.getLast hne = y at *
    have ih := ih l.dropLast (by rw [List.length_dropLast]; omega)
    generalize l.dropLast = m at *
    rw [bestB_snoc]
    rw [List.mem_append, List.mem_singleton] at hx
    cases q : bestB f m with
    | none =>
      refine ⟨_, upB_none, ?_⟩
      rcases hx with hx | rfl
      · obtain ⟨p, e, _⟩ := ih x hx; rw [q] at e; cases e
      · exact irr _
    | some p0 =>
      by_cases c : p0.a < f y
      · refine ⟨_, upB_lt c, ?_⟩
        rcases hx with hx | rfl
        · obtain ⟨p, e, le⟩ := ih x hx
          rw [q] at e; cases e
          exact tr _ _ _ (as _ _ c) le
        · exact irr _
      · refine ⟨_, upB_ge c, ?_⟩
        rcases hx with hx | rfl
        · obtain ⟨p, e, le⟩ := ih x hx
          rw [q] at e; cases e
          exact le
        · exact c
theorem bestB_none {l : List α} : bestB f l = none ↔ l = [] := by
  constructor
  · intro h
    have : ∀ (n : Nat) (l : List α), l.length = n → bestB f l = none → l = [] := by
      intro n
      cases n with
      | zero => intro l h _; exact List.eq_nil_of_length_eq_zero h
      | succ n =>
        intro l h hb
        have hne : l ≠ [] := by intro c; subst c; simp at h
        rw [← List.dropLast_concat_getLast hne, bestB_snoc] at hb
        generalize bestB f l.dropLast = b at hb
        cases b with
        | none => cases hb
        | some p => unfold upB at hb; simp only at hb; split at hb <;> cases hb
    exact this _ l rfl h
  · intro h; subst h; rfl
end
theorem best_int {α : Type} {f : α → Int} {l : List α} {x : α} (h : x ∈ l) : ∃ p, bestB f l = some p ∧ f x ≤ p.a := by
  obtain ⟨p, e, q⟩ := bestB_max (f := f) (fun a => by omega) (fun a b c => by omega) (fun a b => by omega) _ l rfl x h
  exact ⟨p, e, by omega⟩
theorem best_rat {α : Type} {f : α → Rat} {l : List α} {x : α} (h : x ∈ l) : ∃ p, bestB f l = some p ∧ f x ≤ p.a := by
  obtain ⟨p, e, q⟩ := bestB_max (f := f) (fun a => by grind) (fun a b c => by grind) (fun a b => by grind) _ l rfl x h
  exact ⟨p, e, by grind⟩
/-! ### some rows alone -/
def sub (t : Task) (I : List Int) : Task := ⟨t.a, I.map fun i => t.b.getD i.toNat [], I.map fun i => t.c.getD i.toNat 0, t.d⟩
def rowB (t : Task) (u : List Int) (i : Int) : Bool := decide (dot (t.b.getD i.toNat []) u ≤ t.c.getD i.toNat 0)
theorem keeps_sub (t : Task) (I : List Int) (u : List Int) : keepsB (sub t I) u = I.all (rowB t u) := by
  unfold keepsB sub
  induction I with
  | nil => rfl
  | cons i I ih =>
    show (decide (dot (t.b.getD i.toNat []) u ≤ t.c.getD i.toNat 0) && (zipL (I.map _) (I.map _)).all _) = (rowB t u i && I.all (rowB t u))
    rw [← ih]; rfl
theorem keeps_all {t : Task} (hl : t.c.length = t.b.length) (u : List Int) : keepsB t u = (rngL 0 t.b.length).all (rowB t u) := by
  rw [Bool.eq_iff_iff, keeps_idx hl, List.all_eq_true]
  constructor
  · intro q k hk
    have := q k hk
    unfold rowB
    exact decide_eq_true (by omega)
  · intro q k hk
    have := of_decide_eq_true (q k hk)
    omega
theorem row_mem {t : Task} {i : Int} (h : 0 ≤ i) (h2 : i < t.b.length) : t.b.getD i.toNat [] ∈ t.b := getD_memD h h2
theorem lim_mem {t : Task} (hl : t.c.length = t.b.length) {i : Int} (h : 0 ≤ i) (h2 : i < t.b.length) : t.c.getD i.toNat 0 ∈ t.c := getD_memD h (by omega)
theorem TK.sub {t : Task} (h : TK t) {I : List Int} (hI : ∀ i, i ∈ I → 0 ≤ i ∧ i < t.b.length) (hn : I.length ≤ 6) : TK (sub t I) := by
  refine ⟨h.n1, h.n6, h.g, by show (I.map _).length ≤ 6; rw [List.length_map]; exact hn, fun r hr => ?_, fun r hr => ?_, by show (I.map _).length = (I.map _).length; simp, fun x hx => ?_, h.dl, h.d, h.s⟩
  · obtain ⟨i, hi, rfl⟩ := List.mem_map.mp hr
    exact h.rl _ (row_mem (hI i hi).1 (hI i hi).2)
  · obtain ⟨i, hi, rfl⟩ := List.mem_map.mp hr
    exact h.r _ (row_mem (hI i hi).1 (hI i hi).2)
  · obtain ⟨i, hi, rfl⟩ := List.mem_map.mp hx
    exact h.c _ (lim_mem h.cl (hI i hi).1 (hI i hi).2)
theorem rng_pairwise (lo : Int) (n : Nat) : (rngL lo n).Pairwise (· < ·) := by
  unfold rngL
  rw [List.pairwise_map]
  exact List.pairwise_lt_range.imp fun h => by omega
/-- the rows that are not soft -/
def hardI (t : Task) (soft : List Int) : List Int := (rngL 0 t.b.length).filter fun i => !decide (i ∈ soft)
theorem hard_mem {t : Task} {soft : List Int} {i : Int} : i ∈ hardI t soft ↔ (0 ≤ i ∧ i < t.b.length) ∧ i ∉ soft := by
  unfold hardI
  rw [List.mem_filter, mem_rng]
  simp
theorem hard_len {t : Task} {soft : List Int} : (hardI t soft).length ≤ t.b.length := by
  unfold hardI
  exact Nat.le_trans (List.length_filter_le _ _) (by rw [rng_len]; omega)
def restP (t : Task) (soft : List Int) : List (Tup Int) := plansP (sub t (hardI t soft))
theorem tk_hard {t : Task} (h : TK t) (soft : List Int) : TK (sub t (hardI t soft)) :=
  h.sub (fun i hi => (hard_mem.mp hi).1) (Nat.le_trans hard_len h.b6)
theorem plan_rest {t : Task} (h : TK t) {soft : List Int} {u : Tup Int} (hu : u ∈ plansP t) : u ∈ restP t soft := by
  obtain ⟨h1, h2⟩ := plan_iff.mp hu
  refine plan_iff.mpr ⟨h1, ?_⟩
  rw [keeps_all h.cl, List.all_eq_true] at h2
  rw [keeps_sub, List.all_eq_true]
  exact fun i hi => h2 i (mem_rng.mpr (by have := (hard_mem.mp hi).1; omega))
theorem plan_row {t : Task} (h : TK t) {u : Tup Int} (hu : u ∈ plansP t) {i : Int} (hi : 0 ≤ i) (hi2 : i < t.b.length) : dot (t.b.getD i.toNat []) u.l ≤ t.c.getD i.toNat 0 := by
  obtain ⟨_, h2⟩ := plan_iff.mp hu
  rw [keeps_all h.cl, List.all_eq_true] at h2
  exact of_decide_eq_true (h2 i (mem_rng.mpr (by omega)))
/-- rows that ascend -/
structure SF (t : Task) (soft : List Int) : Prop where
  asc : soft.Pairwise (· < ·)
  mem : ∀ i, i ∈ soft → 0 ≤ i ∧ i < t.b.length
theorem asc_le : ∀ {l : List Int} {lo hi : Int}, l.Pairwise (· < ·) → (∀ i, i ∈ l → lo ≤ i ∧ i < hi) → l.length ≤ (hi - lo).toNat
  | [], _, _, _, _ => Nat.zero_le _
  | x :: l, lo, hi, hp, hm => by
    rw [List.pairwise_cons] at hp
    have h1 := hm x (by simp)
    have := asc_le (lo := x + 1) (hi := hi) hp.2 fun i h => ⟨by have := hp.1 i h; omega, (hm i (by simp [h])).2⟩
    rw [List.length_cons]; omega
theorem nodup_le {l : List Int} {n : Nat} (hp : l.Pairwise (· < ·)) (hm : ∀ i, i ∈ l → 0 ≤ i ∧ i < n) : l.length ≤ n := by
  have := asc_le (lo := 0) (hi := n) hp hm
  omega
theorem SF.len {t : Task} {soft : List Int} (h : SF t soft) : soft.length ≤ t.b.length := nodup_le h.asc h.mem
/-! ### by index -/
theorem idx_zip {α β γ : Type} {l : List α} {m : List β} {n : Nat} (hl : l.length = n) (hm : m.length = n) (da : α) (db : β) (f : α → β → γ) :
    ((rngL 0 n).map fun k => f (l.getD k.toNat da) (m.getD k.toNat db)) = (zipL l m).map fun z => f z.a z.b := by
  apply List.ext_getElem?
  intro i
  unfold rngL
  rw [List.map_map, List.getElem?_map, List.getElem?_map]
  by_cases c : i < n
  · have c1 : i < l.length := by omega
    have c2 : i < m.length := by omega
    rw [List.getElem?_range c, zip_get (List.getElem?_eq_getElem c1) (List.getElem?_eq_getElem c2)]
    simp [c1, c2]
  · rw [List.getElem?_eq_none (by rw [List.length_range]; omega), List.getElem?_eq_none (by rw [zip_len]; omega)]
    rfl
theorem idx_map {α γ : Type} {l : List α} {n : Nat} (hl : l.length = n) (da : α) (f : α → γ) : ((rngL 0 n).map fun k => f (l.getD k.toNat da)) = l.map f := by
  apply List.ext_getElem?
  intro i
  unfold rngL
  rw [List.map_map, List.getElem?_map, List.getElem?_map]
  by_cases c : i < n
  · have c1 : i < l.length := by omega
    rw [List.getElem?_range c, List.getElem?_eq_getElem c1]
    simp [c1]
  · rw [List.getElem?_eq_none (by rw [List.length_range]; omega), List.getElem?_eq_none (by omega)]
    rfl
theorem zip_map1 {α β γ : Type} {f : α → γ} : ∀ {l : List α} {m : List β}, zipL (l.map f) m = (zipL l m).map fun z => ⟨f z.a, z.b⟩
  | [], m => by simp [zipL]
  | _ :: _, [] => by simp [zipL]
  | x :: l, y :: m => by
    show (⟨f x, y⟩ : T2 γ β) :: zipL (l.map f) m = ⟨f x, y⟩ :: (zipL l m).map _
    rw [zip_map1]
theorem lcL_over {α β γ : Type} {c : α → Option Bool} {e : α → Option β} {g : γ → α} : ∀ {l : List γ}, lcL c e (l.map g) = lcL (fun z => c (g z)) (fun z => e (g z)) l
  | [] => rfl
  | x :: l => by
    show ((c (g x)).bind fun t => _) = ((c (g x)).bind fun t => _)
    rw [lcL_over]
/-! ### slices -/
theorem mem_cut {α : Type} {l : List α} {a b : Option Int} {x : α} (h : x ∈ cutL l a b) : x ∈ l := List.mem_of_mem_drop (List.mem_of_mem_take h)
theorem cut_last {α : Type} {l : List α} : cutL l none (some (-1)) = l.take (l.length - 1) := by
  unfold cutL
  rw [HT.sIx_none, List.drop_zero, Nat.sub_zero]
  have : HT.sIx l.length l.length (some (-1)) = (-1 + (l.length : Int)).toNat := by
    unfold HT.sIx
    exact if_pos (by decide)
  rw [this]
  congr 1; omega
theorem cut_to {α : Type} {l : List α} {n : Nat} (h : n ≤ l.length) : cutL l none (some (n : Int)) = l.take n := by
  unfold cutL
  rw [HT.sIx_none, List.drop_zero, Nat.sub_zero, HT.sIx_nat, Nat.min_eq_left h]
theorem cut_from {α : Type} {l : List α} {n : Nat} (h : n ≤ l.length) : cutL l (some (n : Int)) none = l.drop n := by
  unfold cutL
  rw [HT.sIx_none, HT.sIx_nat, Nat.min_eq_left h]
  exact List.take_of_length_le (by rw [List.length_drop]; omega)
/-! ### lists of fractions -/
theorem ofR_list {P : Rat → Prop} : ∀ {l : List Q}, (∀ y, y ∈ l → ∃ x, y = ofR x ∧ P x) → ∃ f : List Rat, l = f.map ofR ∧ f.length = l.length ∧ ∀ x, x ∈ f → P x
  | [], _ => ⟨[], rfl, rfl, fun x h => (by simp at h)⟩
  | y :: l, h => by
    obtain ⟨x, e, p⟩ := h y (by simp)
    obtain ⟨f, e2, e3, q⟩ := ofR_list fun z hz => h z (List.mem_cons_of_mem _ hz)
    refine ⟨x :: f, by rw [List.map_cons, ← e2, e], by simp [e3], fun z hz => ?_⟩
    rw [List.mem_cons] at hz
    rcases hz with rfl | hz
    · exact p
    · exact q z hz
theorem sumR_perm {l m : List Rat} (h : l.Perm m) : sumR l = sumR m := by
  induction h with
  | nil => rfl
  | cons x _ ih => rw [sumR_cons, sumR_cons, ih]
  | swap x y l => rw [sumR_cons, sumR_cons, sumR_cons, sumR_cons]; grind
  | trans _ _ h1 h2 => rw [h1, h2]
theorem sortI_strict {l : List Int} (h : l.Nodup) : (sortI l).Pairwise (· < ·) := by
  have h1 := sortI_sorted l
  have h2 : (sortI l).Nodup := (sortI_perm l).nodup_iff.mpr h
  exact (h1.and h2).imp fun ⟨a, b⟩ => by omega
theorem nodup_asc {l : List Int} (h : l.Pairwise (· < ·)) : l.Nodup := h.imp fun h => by omega
end Lay

set_option Elab.async false
set_option linter.all false
set_option maxRecDepth 100000
/-! LayJ: data of any shape (PyData itself), read back where its shape is known; tuples of five. -/
namespace Lay
open PySem PySem.Spec PyProof.Rows L2
open Lay.Enc (enc)
instance : Enc PyData := ⟨id⟩
structure T5 (α β γ δ ε : Type) where
  a : α
  b : β
  c : γ
  d : δ
  e : ε
  deriving DecidableEq
instance {α β γ δ ε : Type} [Enc α] [Enc β] [Enc γ] [Enc δ] [Enc ε] : Enc (T5 α β γ δ ε) := ⟨fun t => PyData.tuple [enc t.a, enc t.b, enc t.c, enc t.d, enc t.e]⟩
/-- data that can be read back -/
class Dec (α : Type) [Enc α] where
  dec : PyData → Option α
  ok : ∀ d x, dec d = some x → enc x = d
  full : ∀ x : α, dec (enc x) = some x
open Lay.Dec (dec)
instance : Dec Int where
  dec d := match d with | .int i => some i | _ => none
  ok d x h := by cases d <;> first | (cases h; rfl) | cases h
  full _ := rfl
instance : Dec Bool where
  dec d := match d with | .bool i => some i | _ => none
  ok d x h := by cases d <;> first | (cases h; rfl) | cases h
  full _ := rfl
instance : Dec Str where
  dec d := match d with | .str i => some i | _ => none
  ok d x h := by cases d <;> first | (cases h; rfl) | cases h
  full _ := rfl
instance : Dec Unit where
  dec d := match d with | .none => some () | _ => none
  ok d x h := by cases d <;> first | (cases h; rfl) | cases h
  full _ := rfl
instance : Dec PyData := ⟨some, fun d x h => by cases h; rfl, fun _ => rfl⟩
def decL {α : Type} [Enc α] [Dec α] : List PyData → Option (List α)
  | [] => some []
  | d :: ds => (dec d).bind fun x => (decL ds).bind fun l => some (x :: l)
theorem decL_ok {α : Type} [Enc α] [S : Dec α] : ∀ {ds : List PyData} {l : List α}, decL ds = some l → l.map enc = ds
  | [], l, h => by cases h; rfl
  | d :: ds, l, h => by
    obtain ⟨x, h1, h⟩ := bind_get h
    obtain ⟨r, h2, h⟩ := bind_get h
    cases h
    show enc x :: r.map enc = _
    rw [S.ok d x h1, decL_ok h2]
theorem decL_full {α : Type} [Enc α] [S : Dec α] : ∀ l : List α, decL (l.map enc) = some l
  | [] => rfl
  | x :: l => by
    show (dec (enc x)).bind _ = _
    rw [S.full x]
    show (decL (l.map enc)).bind _ = _
    rw [decL_full l]; rfl
instance {α : Type} [Enc α] [S : Dec α] : Dec (List α) where
  dec d := match d with | .list ds => decL ds | _ => none
  ok d x h := by
    cases d <;> first | (cases h; done) | skip
    exact congrArg PyData.list (decL_ok h)
  full x := decL_full x
instance {α : Type} [Enc α] [S : Dec α] : Dec (Tup α) where
  dec d := match d with | .tuple ds => (decL ds).bind fun l => some ⟨l⟩ | _ => none
  ok d x h := by
    cases d <;> first | (cases h; done) | skip
    obtain ⟨l, h1, h2⟩ := bind_get h
    cases h2
    exact congrArg PyData.tuple (decL_ok h1)
  full x := by show (decL (x.l.map enc)).bind _ = _; rw [decL_full]; rfl
instance {α : Type} [Enc α] [S : Dec α] [NonNone α] : Dec (Option α) where
  dec d := match d with | .none => some none | d => (dec d).bind fun x => some (some x)
  ok d x h := by
    cases d with
    | none => cases h; rfl
    | _ =>
      obtain ⟨y, h1, h2⟩ := bind_get h
      cases h2
      exact S.ok _ y h1
  full x := by
    cases x with
    | none => rfl
    | some x =>
      have n := NonNone.ne x
      show (match (enc x : PyData) with | .none => some none | d => (dec d).bind fun y => some (some y)) = _
      have f := S.full x
      generalize (enc x : PyData) = d at n f ⊢
      cases d with
      | none => exact absurd rfl n
      | _ => dsimp only; rw [f]; rfl
section
variable {α β γ δ ε : Type} [Enc α] [Enc β] [Enc γ] [Enc δ] [Enc ε] [A : Dec α] [B : Dec β] [C : Dec γ] [D : Dec δ] [E : Dec ε]
instance : Dec (T2 α β) where
  dec d := match d with | .tuple [x, y] => (dec x).bind fun x => (dec y).bind fun y => some ⟨x, y⟩ | _ => none
  ok d x h := by
    split at h
    · obtain ⟨a0, h0, h⟩ := bind_get h
      obtain ⟨a1, h1, h⟩ := bind_get h
      cases h
      show PyData.tuple [enc a0, enc a1] = _
      rw [A.ok _ _ h0, B.ok _ _ h1]
    · cases h
  full x := by
    show (dec (enc x.a)).bind _ = _
    rw [A.full]
    show (dec (enc x.b)).bind _ = _
    rw [B.full]
    rfl
instance : Dec (T3 α β γ) where
  dec d := match d with | .tuple [x, y, z] => (dec x).bind fun x => (dec y).bind fun y => (dec z).bind fun z => some ⟨x, y, z⟩ | _ => none
  ok d x h := by
    split at h
    · obtain ⟨a0, h0, h⟩ := bind_get h
      obtain ⟨a1, h1, h⟩ := bind_get h
      obtain ⟨a2, h2, h⟩ := bind_get h
      cases h
      show PyData.tuple [enc a0, enc a1, enc a2] = _
      rw [A.ok _ _ h0, B.ok _ _ h1, C.ok _ _ h2]
    · cases h
  full x := by
    show (dec (enc x.a)).bind _ = _
    rw [A.full]
    show (dec (enc x.b)).bind _ = _
    rw [B.full]
    show (dec (enc x.c)).bind _ = _
    rw [C.full]
    rfl
instance : Dec (T4 α β γ δ) where
  dec d := match d with | .tuple [x, y, z, w] => (dec x).bind fun x => (dec y).bind fun y => (dec z).bind fun z => (dec w).bind fun w => some ⟨x, y, z, w⟩ | _ => none
  ok d x h := by
    split at h
    · obtain ⟨a0, h0, h⟩ := bind_get h
      obtain ⟨a1, h1, h⟩ := bind_get h
      obtain ⟨a2, h2, h⟩ := bind_get h
      obtain ⟨a3, h3, h⟩ := bind_get h
      cases h
      show PyData.tuple [enc a0, enc a1, enc a2, enc a3] = _
      rw [A.ok _ _ h0, B.ok _ _ h1, C.ok _ _ h2, D.ok _ _ h3]
    · cases h
  full x := by
    show (dec (enc x.a)).bind _ = _
    rw [A.full]
    show (dec (enc x.b)).bind _ = _
    rw [B.full]
    show (dec (enc x.c)).bind _ = _
    rw [C.full]
    show (dec (enc x.d)).bind _ = _
    rw [D.full]
    rfl
instance : Dec (T5 α β γ δ ε) where
  dec d := match d with | .tuple [x, y, z, w, v] => (dec x).bind fun x => (dec y).bind fun y => (dec z).bind fun z => (dec w).bind fun w => (dec v).bind fun v => some ⟨x, y, z, w, v⟩ | _ => none
  ok d x h := by
    split at h
    · obtain ⟨a0, h0, h⟩ := bind_get h
      obtain ⟨a1, h1, h⟩ := bind_get h
      obtain ⟨a2, h2, h⟩ := bind_get h
      obtain ⟨a3, h3, h⟩ := bind_get h
      obtain ⟨a4, h4, h⟩ := bind_get h
      cases h
      show PyData.tuple [enc a0, enc a1, enc a2, enc a3, enc a4] = _
      rw [A.ok _ _ h0, B.ok _ _ h1, C.ok _ _ h2, D.ok _ _ h3, E.ok _ _ h4]
    · cases h
  full x := by
    show (dec (enc x.a)).bind _ = _
    rw [A.full]
    show (dec (enc x.b)).bind _ = _
    rw [B.full]
    show (dec (enc x.c)).bind _ = _
    rw [C.full]
    show (dec (enc x.d)).bind _ = _
    rw [D.full]
    show (dec (enc x.e)).bind _ = _
    rw [E.full]
    rfl
end
section
variable {X : Cx} {G : List Sl} {α : Type} [Enc α] {e a : Expr}
theorem ed_dec [S : Dec α] {o : Option PyData} (h : ED X G e o) : ED X G e (o.bind (dec : PyData → Option α)) := ed_coeP dec (fun d x h => S.ok d x h) h
theorem ed_enc {o : Option α} (h : ED X G e o) : ED X G e (lift1 (enc : α → PyData) o) := ed_coe enc (fun _ => rfl) h
/-- an item of a tuple of any shape -/
def dyAt (i : Int) (d : PyData) : Option PyData := match d with | .tuple ds => atI ds i | _ => none
theorem ed_dyAt {i : Int} {j : Nat} {p pos : Pos} {o : Option PyData} (h : ED X G a o) : ED X G (.Subscript a (.Constant (.int i) j p) pos) (o.bind (dyAt i)) := fun z hz => by
  obtain ⟨d, h1, h2⟩ := bind_get hz
  refine (pe_ix ix_tup (h d h1) (ed_num (G := G) i rfl) (fun _ _ => rfl)).imp fun σ H Q ⟨F, I, ps, R, q⟩ => ⟨F, I, ps, R, fun v H1 I1 g1 R1 dv => ⟨F, I1, ps, R1, fun w H2 I2 g2 R2 dw => ?_⟩⟩
  have dv : Dq I1 v d := dv
  unfold dyAt at h2
  split at h2
  · rename_i ds
    cases dw
    cases dv with
    | tup k1 k2 =>
      obtain ⟨u, hu, du⟩ := k2.atI h2
      exact ⟨_, _, i, u, rfl, rfl, .inl (rd_mono (g2.same.trans R2.si) k1), hu, q u H2 I2 (g1.trans g2) R2 (Dq_mono g2.same _ _ du)⟩
  · cases h2
theorem ed_tupD {es : List Expr} {ods : Option (List PyData)} {k : Nat} {pos : Pos} (h : AD X G es ods) : ED X G (.Tuple es k pos) (ods.bind fun ds => if ds.length ≤ 8 then some (PyData.tuple ds) else none) := fun r hr => by
  obtain ⟨ds, h1, h2⟩ := bind_get hr
  obtain ⟨hz, e⟩ := ite_get h2
  subst e
  exact tup_of (h ds h1) (small_line hz) rfl
end
def fT5 {α β γ δ ε : Type} (f : α → List Sl → List Sl) (g : β → List Sl → List Sl) (h : γ → List Sl → List Sl) (l : δ → List Sl → List Sl) (n : ε → List Sl → List Sl) : T5 α β γ δ ε → List Sl → List Sl := fun t G => n t.e (l t.d (h t.c (g t.b (f t.a G))))
theorem tgt_t5 {K : PySem.W.Frag} {α β γ δ ε : Type} [Enc α] [Enc β] [Enc γ] [Enc δ] [Enc ε] {ga gb gc gd ge : L2.TG} {ja jb jc jd je : List Nat} {f : α → List Sl → List Sl} {g : β → List Sl → List Sl} {h : γ → List Sl → List Sl} {l : δ → List Sl → List Sl} {n : ε → List Sl → List Sl} (h1 : Tgt K ga ja f) (h2 : Tgt K gb jb g) (h3 : Tgt K gc jc h) (h4 : Tgt K gd jd l) (h5 : Tgt K ge je n) :
    Tgt K (gTup K 5 (gCons ga (gCons gb (gCons gc (gCons gd (gCons ge gNil)))))) (ja ++ (jb ++ (jc ++ (jd ++ je)))) (fT5 f g h l n) := ⟨fun x G F σ H I ps v Q R hp d q => by
  cases d with
  | tup k1 k2 =>
    cases k2 with
    | cons d1 k2 => cases k2 with
      | cons d2 k2 => cases k2 with
        | cons d3 k2 => cases k2 with
          | cons d4 k2 => cases k2 with
            | cons d5 k2 =>
            cases k2
            exact ⟨_, _, rfl, (.inl (rd_mono R.si k1)), rfl, _, _, rfl, h1.go x.a G F σ H I ps _ _ R (fun j hj => hp j (by simp [hj])) d1 fun σ1 R1 w1 o1 => ⟨_, _, rfl, h2.go x.b _ F σ1 H I ps _ _ R1 (fun j hj => hp j (by simp [hj])) d2 fun σ2 R2 w2 o2 =>
              ⟨_, _, rfl, h3.go x.c _ F σ2 H I ps _ _ R2 (fun j hj => hp j (by simp [hj])) d3 fun σ3 R3 w3 o3 => ⟨_, _, rfl, h4.go x.d _ F σ3 H I ps _ _ R3 (fun j hj => hp j (by simp [hj])) d4 fun σ4 R4 w4 o4 =>
              ⟨_, _, rfl, h5.go x.e _ F σ4 H I ps _ _ R4 (fun j hj => hp j (by simp [hj])) d5 fun σ5 R5 w5 o5 => ⟨rfl, q σ5 R5
              (fun vs hv => (w5 vs fun j hj => hv j (by simp [hj])).trans ((w4 vs fun j hj => hv j (by simp [hj])).trans ((w3 vs fun j hj => hv j (by simp [hj])).trans ((w2 vs fun j hj => hv j (by simp [hj])).trans (w1 vs fun j hj => hv j (by simp [hj]))))))
              fun i hi => (o5 i fun z => hi (by simp [z])).trans ((o4 i fun z => hi (by simp [z])).trans ((o3 i fun z => hi (by simp [z])).trans ((o2 i fun z => hi (by simp [z])).trans (o1 i fun z => hi (by simp [z])))))⟩⟩⟩⟩⟩⟩⟩
end Lay

set_option Elab.async false
set_option linter.all false
set_option maxRecDepth 100000
set_option maxHeartbeats 2000000
/-! HX1: a comprehension over a list while an exception is handled. -/
namespace HX
open PySem PySem.Spec PyProof.Rows L2 HotX L2H
section
variable {prog : Program} {w : World} {A : Around} {E : Value → Shared → Prop} {s : Shared}
/-- the end of a list's iterator, an exception being handled -/
theorem list_end_hot {it l x1 : Addr} {i : Nat} {items : Array Value} {Q : Option Value → Shared → Prop} (hot : HotAt A x1 s.heap) (hne : x1 ≠ it)
    (hit : s.heap.IsListIter it l i) (hl : s.heap.IsList l items) (hx : items[i]? = none)
    (hQ : ∀ h', Heap.ExtBut it s.heap h' → Q none { s with heap := h' }) : wpAny (model prog w) A (pyNext (.ref it)) Q E s := by
  obtain ⟨o, ho, hc, hd⟩ := id hit
  obtain ⟨ol, hol, _, nl, hdl⟩ := hl
  obtain ⟨hh, o1, vs1, h1, d1, c1⟩ := hot
  unfold pyNext
  refine wpAny_bind (wpAny_attempt (wpAny_callSpecial?_slot (name := Str.ofString "__next__") hit.typeIs slot_listiter_next
    (wpAny_call_entry slot_listiter_next hit.typeIs entry_listiter_next ?_ (args_listiter_next _))))
  show wpAny _ _ (field (.ref it) 0 >>= _) _ _ s
  refine wpAny_bind (wpAny_field ho hd (x := .ref l) rfl ?_)
  show wpAny _ _ (if (Value.ref l == Value.none) = true then _ else _) _ _ s
  rw [if_neg (show ¬ ((Value.ref l == Value.none) = true) from Bool.false_ne_true)]
  show wpAny _ _ (field (.ref it) 1 >>= _) _ _ s
  refine wpAny_bind (wpAny_field ho hd (x := .int i 0) rfl ?_)
  show wpAny _ _ (seqItems? (.ref l) >>= _) _ _ s
  refine wpAny_bind (wpAny_seqItems hol hdl ?_)
  simp only [Int.toNat_natCast, hx]
  refine wpAny_bind (wpAny_rule (wpAny_bind (wpAny_setField ho hd (by simp) ?_)))
  show wpAny _ _ (newExc (.type "StopIteration") [] >>= _) _ _ _
  refine wpAny_bind ?_
  simp only [newExc, newTuple]
  refine wpAny_bind (wpAny_newObj_type ?_ (by size_fits))
  refine wpAny_bind (m := firstArgMember _ _) (wpAny_of_eq (a := Value.none) (by first | rfl | (simp only [firstArgMember]; rfl)) ?_)
  refine wpAny_newObj_type ?_ (by size_fits)
  have hb : ∀ {f : Obj → Obj}, (s.heap.update it f).get? x1 = some o1 := fun {f} => by rw [Heap.get?_update_other _ _ (fun c => hne c.symm)]; exact h1
  refine raiseNew_hot ⟨hh, o1, vs1, Heap.get?_push_of_some _ (Heap.get?_push_of_some _ hb), d1, c1⟩ (Nat.ne_of_lt (Heap.lt_size (Heap.get?_push_of_some _ hb))) (Heap.get?_push_size _ rfl) rfl (by first | (simp; done) | (simp; omega) | (simp only [Array.size_append]; simp; omega)) ?_
  refine wpAny_bind (wpAny_isInstance (T := "StopIteration") (b := true) ⟨_, Heap.get?_update_self _ (Heap.get?_push_size _ rfl) rfl, rfl⟩ isSubtype_stop ?_)
  refine wpAny_pure (hQ _ fun b u hbn e => ?_)
  have e' : ∀ {f : Obj → Obj}, (s.heap.update it f).get? b = some u := fun {f} => by rw [Heap.get?_update_other _ _ (fun c => hbn c.symm)]; exact e
  rw [Heap.get?_update_other _ _ (Nat.ne_of_gt (Heap.lt_size (Heap.get?_push_of_some _ e')))]
  exact Heap.get?_push_of_some _ (Heap.get?_push_of_some _ e')
end
/-- what is handled is pinned -/
def HotP (X : Cx) (pins : List (Addr × Obj)) : Prop := ∃ p : Addr × Obj, Hot1 X.A p ∧ p ∈ X.pn ++ pins
theorem HotP.at {X : Cx} {pins : List (Addr × Obj)} {σ : L2.St} {H : Hp} {s : Shared} (c : HotP X pins) (I : Inv X pins σ H s) : ∃ p : Addr × Obj, HotAt X.A p.1 s.heap ∧ p ∈ X.pn ++ pins := by
  obtain ⟨p, ⟨hh, vs, hd, hn⟩, hp⟩ := c
  exact ⟨p, ⟨hh, p.2, vs, (I.pin p hp).1, hd, hn⟩, hp⟩
/-- a list's turns in any context: an item; the end while an exception is handled -/
theorem item_list {X : Cx} {a it : Addr} {tg : Expr} {i : Nat} {pins : List (Addr × Obj)} {s : Shared} {σ : L2.St} {H : Hp} {E : Value → Shared → Prop} (I : Inv X pins σ H s) (hf : FpOk X pins H it) (st : s.heap.IsListIter it a i) {xs : List V} {x : V} (hq : SqL X.K H a xs) (hx : xs[i]? = some x) :
    wpAny (model X.prog X.w) X.A (pyNext (.ref it)) (fun r s1 => ∃ u, r = some u ∧ wpAny (model X.prog X.w) X.A (letOwnedTupleGo tg (.ref it) u) (fun _ s2 => Inv X pins σ H s2 ∧ RelV x u ∧ s2.heap.IsListIter it a (i + 1)) E s1) E s := by
  obtain ⟨its, rv, p, hz⟩ := I.list hq
  obtain ⟨u, hu, ru⟩ := rv.get hx
  obtain ⟨f0, f1, f2, f3, f4, f5⟩ := hf
  refine wpAny_pyNext_list_item st p.isList (x := u) (by simpa using hu) fun h' st' sb => ?_
  have I1 : Inv X pins σ H { s with heap := h' } := I.turned (t' := s.toks) (fun b o hb e => (sb.2 b hb).trans e) f0 f1 f3 f4 f5
  obtain ⟨o, e, c, d⟩ := id st'
  exact ⟨u, rfl, go_of (s := { s with heap := h' }) e c d (by decide) ⟨I1, ru, st'⟩⟩
theorem done_list {X : Cx} {a it : Addr} {i : Nat} {pins : List (Addr × Obj)} {s : Shared} {σ : L2.St} {H : Hp} {E : Value → Shared → Prop} (hc : HotP X pins) (I : Inv X pins σ H s) (hf : FpOk X pins H it) (st : s.heap.IsListIter it a i) {xs : List V} (hq : SqL X.K H a xs) (hx : xs.length ≤ i) :
    wpAny (model X.prog X.w) X.A (pyNext (.ref it)) (fun r s1 => r = none ∧ Inv X pins σ H s1) E s := by
  obtain ⟨its, rv, p, hz⟩ := I.list hq
  obtain ⟨f0, f1, f2, f3, f4, f5⟩ := hf
  have hl := rv.length
  obtain ⟨q, hot, hp⟩ := hc.at I
  exact list_end_hot hot (f5 q hp) st p.isList (by simp; omega) fun h' eb => ⟨rfl, I.turned (t' := s.toks) (fun b o hb e => eb b o hb e) f0 f1 f3 f4 f5⟩
/-- a target, what is handled being pinned -/
structure PGH (X : Cx) (target : Expr) (t : TG) : Prop where
  run : ∀ (pins : List (Addr × Obj)) (s : Shared) (σ : L2.St) (H : Hp) (v : V) (u : Value) (Q : L2.St → Hp → Prop), HotP X pins → Inv X pins σ H s → RelV v u → t v σ H Q →
    wpAny (model X.prog X.w) X.A (assign target X.env u) (fun _ s' => ∃ σ' H', Inv X pins σ' H' s' ∧ Q σ' H') X.xe s
theorem pgh_of {X : Cx} {tg : Expr} {t : TG} (h : PG X tg t) : PGH X tg t := ⟨fun pins s σ H v u Q _ I r q => h.run pins s σ H v u Q I r q⟩
section
variable {X : Cx}
/-- [elt for target in l if ..] over a list while an exception is handled -/
theorem pe_lcH {elt tg iter : Expr} {ifs : List Expr} {scope : Scope} {own : List (Str × Nat)} {pos : Pos} {tl : TE} {g : TG} {tt : TT} {te : TE} (hc : HotC X) (hN : X.N.Nodup) (hl : PE X iter tl) (ok : BlkOk X.N X.env.scope scope own)
    (hg : ∀ (s : Shared) (H : Hp) (C : Addr) (cl : List (Str × Addr)) (fp : List Addr), PGH (X.blk s H scope (compEnvC scope cl C X.env) fp) tg g) (ht : ∀ (s : Shared) (H : Hp) (C : Addr) (cl : List (Str × Addr)) (fp : List Addr), PTs (X.blk s H scope (compEnvC scope cl C X.env) fp) ifs tt)
    (he : ∀ (s : Shared) (H : Hp) (C : Addr) (cl : List (Str × Addr)) (fp : List Addr), PE (X.blk s H scope (compEnvC scope cl C X.env) fp) elt te) (hs : ∀ x, foldedSetIterable iter X.env x = pure x := by intro _; rfl) :
    PE X (.ListComp elt [⟨tg, iter, ifs, 0⟩] scope pos) (tLc (iList X.K tl) g tt te (own.map (·.2))) := by
  refine ⟨fun pins s σ H Q I h => ?_⟩
  obtain ⟨p, hot, hp⟩ := hc
  have hpa : p ∈ X.pn ++ pins := List.mem_append_left _ hp
  rw [eval_ListComp]
  have hfree : ∀ y ∈ scope.names, y.2 = .free → ∃ c, X.env.cells.lookup y.1 = some c := fun y hy e => by
    rcases ok.free y hy e with k | k
    · exact I.ok.has _ (.inl k)
    · exact I.ok.has _ (.inr k)
  refine wpAny_comprehension_free rfl hs (closure_ok hfree) ok.kind (fun y hy e => by rw [ok.uniq y hy, e])
    (thn (hl.run pins s σ H _ I h) fun xv s1 ⟨x, H2, I1, r1, q1⟩ => ?_)
  obtain ⟨a, e, ⟨xs0, hq0⟩, q⟩ := q1
  subst e
  cases r1
  obtain ⟨its, rv, pl, hz⟩ := I1.list hq0
  refine wpAny_pyIter_list pl.isList ?_
  -- the iterator
  generalize hit : s1.heap.objs.size = it
  generalize hs2 : ({ s1 with heap := s1.heap.push { cls := .type "list_iterator", data := .fields #[.ref a, .int ((0 : Nat) : Int) 0] } } : Shared) = s2
  have I2 : Inv X pins σ H2 s2 := by rw [← hs2]; exact I1.kept (t' := s1.toks) fun b o e => Heap.get?_push_of_some _ e
  have st2 : s2.heap.IsListIter it a 0 := by rw [← hs2, ← hit]; exact ⟨_, Heap.get?_push_size _ rfl, rfl, rfl⟩
  have f2 : FpOk X pins H2 it := by rw [← hit]; exact I1.fpOk (Nat.le_refl _) (I1.hok.fresh (Nat.le_refl _))
  refine wpAny_newObj_type (newEnv_comp ?_) (by show 0 ≤ sizeLine; decide)
  generalize hD : s2.heap.objs.size = D
  have hDn : H2 D = none := I2.hok.fresh (Nat.le_of_eq hD)
  obtain ⟨W, ⟨m0, w0⟩, turn⟩ := q D hDn
  generalize hs3 : ({ s2 with heap := s2.heap.push { cls := .type "list", data := .seq ([] : List Value).toArray } } : Shared) = s3
  have I3 : Inv X pins σ (upd H2 D (.lst [])) s3 := by
    rw [← hs3]
    refine I2.laid (t' := s2.toks) (fun b o e => Heap.get?_push_of_some _ e) (Nat.le_of_eq hD) ⟨Nat.zero_le _, [], 0, .nil, ?_⟩
    rw [← hD]
    exact Heap.get?_push_size _ rfl
  have h3 : s3.heap = s2.heap.push { cls := .type "list", data := .seq ([] : List Value).toArray } := by rw [← hs3]
  have hlt : it < s2.heap.objs.size := by
    obtain ⟨o, e, _⟩ := st2
    exact Heap.lt_size e
  have f3 : ∀ b ∈ [it], FpOk X pins (upd H2 D (.lst [])) b ∧ b < s3.heap.objs.size := fun b hb => by
    have eb : b = it := by simpa using hb
    subst eb
    refine ⟨⟨?_, f2.2⟩, by rw [h3, Heap.size_push]; exact Nat.lt_succ_of_lt hlt⟩
    rw [upd_ne (by rw [← hD]; exact Nat.ne_of_lt hlt)]
    exact f2.1
  have st3 : s3.heap.IsListIter it a 0 := by
    obtain ⟨o, e, c, d⟩ := st2
    exact ⟨o, by rw [h3]; exact Heap.get?_push_of_some _ e, c, d⟩
  have I4 := block_start I3 ok hN f3
  have pg := hg s3 (upd H2 D (.lst [])) s3.heap.objs.size (cellsFrom (s3.heap.objs.size + 1) scope.names (cloFrom X.env.cells scope.names [])) [it]
  have pt := ht s3 (upd H2 D (.lst [])) s3.heap.objs.size (cellsFrom (s3.heap.objs.size + 1) scope.names (cloFrom X.env.cells scope.names [])) [it]
  have pe := he s3 (upd H2 D (.lst [])) s3.heap.objs.size (cellsFrom (s3.heap.objs.size + 1) scope.names (cloFrom X.env.cells scope.names [])) [it]
  show codeAny _ _ (.compStart (.ListComp elt [⟨tg, iter, ifs, 0⟩] scope pos) 0 (.ref it) (.ref D) (compEnvC scope (cellsFrom (s3.heap.objs.size + 1) scope.names (cloFrom X.env.cells scope.names [])) s3.heap.objs.size X.env)) (compPost (model X.prog X.w) X.A X.xe _ _ (.ref D) s3.heap.objs.size) { s3 with heap := pushCells (s3.heap.push { cls := .type "dict", data := .dict #[] }) scope.names }
  have n0 : (upd H2 D (.lst [])) it = none := (f3 it (by simp)).1.1
  generalize hce : compEnvC scope (cellsFrom (s3.heap.objs.size + 1) scope.names (cloFrom X.env.cells scope.names [])) s3.heap.objs.size X.env = ce at I4 pg pt pe ⊢
  have cL : ce.locals = s3.heap.objs.size := by subst hce; rfl
  generalize hH3 : upd H2 D (.lst []) = H3 at I3 I4 pg pt pe w0 n0 f3
  generalize hs4 : ({ s3 with heap := pushCells (s3.heap.push { cls := .type "dict", data := .dict #[] }) scope.names } : Shared) = s4 at I4 ⊢
  have up4 : ∀ b o, s3.heap.get? b = some o → s4.heap.get? b = some o := fun b o e => by rw [← hs4]; exact pushCells_keeps _ _ _ _ (Heap.get?_push_of_some _ e)
  have st4 : s4.heap.IsListIter it a 0 := by
    obtain ⟨o, e, c, d⟩ := st3
    exact ⟨o, up4 _ _ e, c, d⟩
  have pne : p.1 ≠ it := f2.2.2.2.2.2 p hpa
  -- what is handled stays pinned within
  have I5 : Inv (X.blk s3 H3 scope ce [it]) [p] (wipe σ (own.map (·.2))) H3 s4 := I4.pins_of fun r hr => by
    have er : r = p := by simpa using hr
    subst er
    obtain ⟨k1, k2, k3, k4, k5⟩ := I3.pin r hpa
    refine ⟨up4 _ _ k1, k2, fun c => ?_, fun c => ?_, k5⟩
    · have c : r.1 = ce.locals := c
      rw [cL] at c
      exact absurd (Heap.lt_size k1) (by rw [c]; exact Nat.lt_irrefl _)
    · rcases List.mem_cons.mp (I3.stkSub _ c) with z | z
      · exact k3 z
      · exact k4 z
  have hotB : HotP (X.blk s3 H3 scope ce [it]) [p] := ⟨p, hot, by simp⟩
  have stat : ∀ {σ' : L2.St} {H' : Hp} {s' : Shared}, Inv (X.blk s3 H3 scope ce [it]) [p] σ' H' s' → H' it = none → FpOk (X.blk s3 H3 scope ce [it]) [p] H' it := fun {σ' H' s'} I' hn =>
    ⟨hn, (I'.ok.exf it (by simp)).1, I'.ok.exfs it (by simp), .inl (by simp), fun x c e => (I'.ok.exf it (by simp)).2 x c e, fun r hr => by
      have er : r = p := by simpa using hr
      rw [er]; exact pne⟩
  have loop : codeAny (model X.prog X.w) X.A (.compLoop (.ListComp elt [⟨tg, iter, ifs, 0⟩] scope pos) 0 (.ref it) (.ref D) ce) (compPost (model X.prog X.w) X.A X.xe none (fun v s' => ∃ x H', Inv X pins σ H' s' ∧ RelV x v ∧ Q x H') (.ref D) s3.heap.objs.size) s4 := by
    refine compLoop_any (fun n s' => ∃ i H', Inv (X.blk s3 H3 scope ce [it]) [p] (wipe σ (own.map (·.2))) H' s' ∧ s'.heap.IsListIter it a i ∧ H' it = none ∧ W i n H') ?_ m0 ⟨0, H3, I5, st4, n0, w0⟩
    rintro n s5 ⟨i, H5, I5, st5, n5, w5⟩
    rcases turn i n H5 w5 with ⟨stop, qq⟩ | ⟨go, Nx, hNx, step⟩
    · obtain ⟨xs, hq, hx⟩ := stop
      have td := done_list (E := fun _ _ => False) hotB I5 (stat I5 n5) st5 hq hx
      refine thnF td fun r s6 ⟨hr, I6⟩ => ?_
      subst hr
      have I7 : Inv X pins σ H5 s6 := I3.call' (ch := [it]) I6.os I6.base I6.hok I6.bare fun b hb => ⟨(f3 b hb).1.2.2.2.1, (f3 b hb).1.2.1, (f3 b hb).1.2.2.2.2.1, (f3 b hb).1.2.2.2.2.2⟩
      have nC : H5 s3.heap.objs.size = none := by
        have z : H5 ce.locals = none := I6.free
        rw [cL] at z
        exact z
      obtain ⟨m, hn, _⟩ := I6.loc
      have hn : s6.heap.Ns ce.locals m := hn
      rw [cL] at hn
      obtain ⟨g0, g1, g2, g3, g4, g5⟩ := I3.fpOk (Nat.le_refl _) nC
      exact ⟨m, hn, fun h'' sb => ⟨.ref D, H5, I7.turned (t' := s6.toks) (fun b o hb e => (sb.2 b hb).trans e) g0 g1 g3 g4 g5, rfl, qq⟩⟩
    · obtain ⟨xs, x, hq, hx⟩ := go
      have ti := item_list (tg := tg) (E := fun _ _ => False) I5 (stat I5 n5) st5 hq hx
      refine thnF ti fun r s6 ⟨u, hr, h6⟩ => ?_
      subst hr
      refine thnF h6 fun _ s7 ⟨I7, r7, st7⟩ => ?_
      have y7 : (Itl X.K a).yld i H5 x H5 := ⟨rfl, fun ys hy => by rw [I5.list_inj hy hq]; exact hx⟩
      have ob : ∀ b ∈ [it], ∃ o, s7.heap.get? b = some o ∧ ∀ v, o.data ≠ .cell v := fun b hb => by
        have eb : b = it := by simpa using hb
        subst eb
        obtain ⟨o, e, c, d⟩ := st7
        exact ⟨o, e, fun v z => by rw [d] at z; cases z⟩
      have I7' := I7.pinned (fp := [it]) (fun b hb => by
        have eb : b = it := by simpa using hb
        subst eb
        exact stat I7 n5) ob
      refine thnF (pg.run _ s7 _ H5 x u _ ⟨p, hot, by simp⟩ I7' r7 (step x H5 y7)) fun _ s8 ⟨σ8, H8, I8, hw8, q8⟩ => ?_
      refine thnF (pt.run _ s8 σ8 H8 _ I8 q8) fun b s9 ⟨H9, I9, q9⟩ => ?_
      have fin : ∀ {s' : Shared} {H' : Hp}, Inv (X.blk s3 H3 scope ce [it]) ([p] ++ pinsAt [it] s7.heap) σ8 H' s' → Nx H' → ∃ m, m < n ∧ ∃ i H', Inv (X.blk s3 H3 scope ce [it]) [p] (wipe σ (own.map (·.2))) H' s' ∧ s'.heap.IsListIter it a i ∧ H' it = none ∧ W i m H' := fun {s' H'} I' nx => by
        obtain ⟨m', hm, w'⟩ := hNx H' nx
        obtain ⟨o, e, c, d⟩ := id st7
        have z := I'.pin (it, o) (List.mem_append_right _ (List.mem_append_right _ (mem_pinsAt (by simp) e)))
        have hl : (wipe σ (own.map (·.2))).length = σ8.length := by rw [← hw8, wipe_length]
        refine ⟨m', hm, i + 1, H', (I'.unpinned (pins := [p])).weak hl (fun j v e => ?_), ⟨o, z.1, c, d⟩, z.2.1, w'⟩
        rw [← hw8] at e
        exact (wipe_some e).1
      cases b with
      | false =>
        simp only [Bool.false_eq_true, if_false] at q9 ⊢
        exact fin I9 q9
      | true =>
        simp only [if_true] at q9 ⊢
        refine thnF (pe.run _ s9 σ8 H9 _ I9 q9) fun z s10 ⟨yv, H10, I10, r10, acc, hD10, hz10, nx⟩ => ?_
        exact app_ok (X := X.blk s3 H3 scope ce [it]) I10 hD10 hz10 r10 fun s11 I11 => fin I11 nx
  exact codeAny_compStart_list loop (wpAny_pyIter_listiter st4 loop)
end
end HX

set_option Elab.async false
set_option linter.all false
set_option maxRecDepth 100000
set_option maxHeartbeats 2000000
/-! HX2: a caught error in any context that keeps it: its kind, its fields. -/
namespace HX
open PySem PySem.Spec PyProof.Rows L2 HotX L2H
/-- the error at a, an instance of the class at C with its dict at dd, is kept by the context -/
structure ErrAt (X : Cx) (a : Addr) (oe : Obj) (C dd : Addr) : Prop where
  pin : (a, oe) ∈ X.pn
  zc : Zc (.ref C) (some dd) oe
  data : ∃ vs, oe.data = .fields vs
section
variable {X : Cx} {a C dd : Addr} {oe : Obj}
theorem ErrAt.inst (T : ErrAt X a oe C dd) {pins : List (Addr × Obj)} {σ : L2.St} {H : Hp} {s : Shared} (I : Inv X pins σ H s) {fs : List (Str × V)} (hd : H dd = some (.xd fs)) :
    ∃ (od : Obj) (mA : Str → Option Value), PySem.W.InstAt s.heap a oe C (some od) ∧ (∀ n, PySem.W.lookIn n od = some (mA n)) ∧ ∀ f, RelO (fs.lookup f) (mA f) := by
  obtain ⟨ha, _⟩ := I.pin (a, oe) (List.mem_append_left _ T.pin)
  obtain ⟨vs, hv⟩ := T.data
  have hx : ObjOk X.prog X.w H s.heap dd (.xd fs) := I.hok dd _ hd
  obtain ⟨mA, hns, hr⟩ := hx
  obtain ⟨od, ho, hl⟩ := lookIn_ns hns
  exact ⟨od, mA, ⟨ha, T.zc.1, by unfold PySem.W.notCls; rw [hv] <;> rfl, by rw [T.zc.2]; exact ho⟩, hl, hr⟩
/-- isinstance(e, c) -/
def rIsH (K : PySem.W.Frag) (C a dd : Addr) : List V → Hp → VK → Prop := fun xs H Q => ∃ (c : V) (cv : Value) (b : Bool) (fs : List (Str × V)), xs = [.ref a, c] ∧ H dd = some (.xd fs) ∧ (∀ u, RelV c u → u = cv) ∧ PySem.W.kitOne K (.ref C) cv = some b ∧ Q (.bl b) H
theorem call_isH (T : ErrAt X a oe C dd) (E : ExcC X.K C) : CallR X (.builtin "isinstance") (rIsH X.K C a dd) := by
  intro pins s σ H xs us Q I r h
  obtain ⟨c, cv, b, fs, rfl, hd, hcv, e, q⟩ := h
  cases r with
  | cons rx rr =>
    cases rr with
    | cons rt rr =>
      cases rr
      cases rx
      have ec := hcv _ rt
      subst ec
      obtain ⟨od, mA, J, _, _⟩ := T.inst I hd
      have hcl : (PySem.W.clsIn X.K C).isSome = true := by
        obtain ⟨cd, hc, _⟩ := PySem.W.any_some E.hd
        rw [hc]; rfl
      exact PySem.W.kia_one (PySem.W.kitx_exc (od := some od) hcl E.hg E.hk E.hs E.ha E.hn E.ht E.hm) I.kIn J e (fun z => nomatch z) fun tk => ⟨.bl b, H, I.kept (t' := tk) fun _ _ z => z, rfl, q⟩
/-- e.f -/
def tXfH (a dd : Addr) (f : Str) (te : TE) : TE := fun σ H Q => te σ H fun x H1 => x = .ref a ∧ ∃ (fs : List (Str × V)) (v : V), H1 dd = some (.xd fs) ∧ fs.lookup f = some v ∧ Q v H1
theorem pe_xfH {e : Expr} {te : TE} {pos : Pos} {n : Str} (T : ErrAt X a oe C dd) (F : XfC X.K C) (hno : PySem.W.findIn X.K (.ref C) n = some none) (he : PE X e te) (hb : attributeBase e n X.env (eval e X.env) = eval e X.env := by rfl) :
    PE X (.Attribute e n pos) (tXfH a dd n te) := by
  refine ⟨fun pins s σ H Q I h => ?_⟩
  refine attr_of hb (thn (he.run pins s σ H _ I h) fun u s1 hh => ?_)
  obtain ⟨x, H1, I1, rx, ex, fs, v, hd, l, q⟩ := hh
  subst ex
  obtain rfl : u = Value.ref a := rx
  obtain ⟨od, mA, J, hl, hr⟩ := T.inst I1 hd
  obtain ⟨u, hu, ru⟩ := RelO.some_of (v := v) (o := mA n) (by rw [← l]; exact hr n)
  exact HandSPX.exc_get I1.kIn J F.ga F.gg F.exC (PySem.W.findObj_own F.hdC hno rfl (by rw [hl, hu])) (handed_of ru) ⟨v, H1, I1.tok _, ru, q⟩
end
end HX

set_option Elab.async false
set_option linter.all false
set_option maxRecDepth 100000
set_option maxHeartbeats 2000000
/-! HX3: super().__init__(x) of an own error below ValueError, in its base's __init__. -/
namespace PySem.W
open PySem PySem.Calls PyProof.Rows
section
variable {prog : Program} {w : World} {A : Around} {E : Value → Shared → Prop}
/-- the wrapper of ValueError.__init__, bound to an error that is being made, called -/
theorem hx_mw_call {hh : Heap} {g : Array GenState} {d : Drawn} {tk : Nat} {os : OsState} {u x C t : Addr} {rest : List Value} {Q : Value → Shared → Prop} {nm qn : Str} {N' : Addr} {bs bm : List Value} {hdct : Bool} {sn : List Str} {sub : List Value} {ab : Bool} {col : Option Bool} {dd : Option Addr} {k0 k1 k2 k3 k5 : Option Value}
    (hC : hh.get? C = some (excClassObj nm qn C N' bs bm hdct sn sub ab col dd k0 k1 k2 k3 k5 "ValueError.__new__")) (hu : hh.get? u = some (kxs_mw "ValueError.__init__" x)) (he : hh.get? x = some (excObj C t none .none)) (hz : rest.length ≤ sizeLine)
    (h : ∀ h' t', (∀ b o, b ≠ x → hh.get? b = some o → h'.get? b = some o) → h'.get? x = some (excObj C t' none .none) → Q .none ⟨h', g, d, tk, os⟩) :
    wpAny (model prog w) A (call (.ref u) rest) Q E ⟨hh, g, d, tk, os⟩ := by
  refine wpAny_call (codeAny_of_tree ?_)
  show wpAny _ A.in1 (callAny (.ref u) ⟨rest, []⟩) _ _ _
  simp only [callAny]
  refine wpAny_bind (wpAny_load hu ?_)
  simp only [kxs_mw, show (Value.type "method-wrapper" == Value.type "method" || Value.type "method-wrapper" == Value.type "builtin_function_or_method" || Value.type "method-wrapper" == Value.type "method-wrapper") = true by decide, if_true]
  refine KFB.if_so (by decide) ?_
  refine wpAny_bind (check_bound_init F.excBase_ValueError.toExcCallFacts hC he rfl ?_)
  refine wpAny_bind (wpAny_pure (wpAny_pure ?_))
  refine ⟨plainId_quiet F.excBase_ValueError.init.plain _, codeAny_builtin F.excBase_ValueError.initEntry ?_⟩
  exact exc_init_tree (cls := .ref C) (t0 := t) (dv := none) (c2 := .none) (b4 := .bool false) he hz fun h' k e' _ => h h' _ k e'
end
end PySem.W
namespace HX
open PySem PySem.Spec PyProof.Rows L2
section
variable {X : Cx} {pins : List (Addr × Obj)} {σ : L2.St} {H : Hp} {s : Shared} {a C : Addr}
theorem mw_call {u : Addr} {us : List Value} {E : Value → Shared → Prop} {Q : Value → Shared → Prop} (T : OexC X.K C) (I : Inv X pins σ H s) (e : H a = some (exo a C none)) (hu : s.heap.get? u = some (PySem.W.kxs_mw "ValueError.__init__" a)) (hl : us.length ≤ sizeLine) (h : ∀ s', Inv X pins σ H s' → Q .none s') :
    wpAny (model X.prog X.w) X.A (call (.ref u) us) Q E s := by
  obtain ⟨nm, q, N, bs, bm, sn, sub, ab, col, dd, k0, k1, k2, k3, k5, hC, hbm⟩ := T.cls
  obtain ⟨t1, ho⟩ := exo_at I.hok e
  obtain ⟨hp, g, d, t, os⟩ := s
  refine PySem.W.hx_mw_call (I.kIn _ _ hC) hu ho hl fun h' t2 k hx => ?_
  have J := I.write (t' := t) (x := a) (e := a) (o := exo a C none) (by rw [e]; exact True.intro) (.inl rfl) k ⟨_, hx⟩ (exo_ok hx)
  have eu : upd H a (exo a C none) = H := by
    funext b
    by_cases hb : b = a
    · rw [hb, upd_same, e]
    · rw [upd_ne hb]
  rw [eu] at J
  exact h _ J
end
end HX

set_option Elab.async false
set_option linter.all false
set_option maxRecDepth 100000
set_option maxHeartbeats 2000000
/-! HX4: the statement super().__init__(x) in a def's body. -/
namespace HX
open PySem PySem.Spec PyProof.Rows L2
/-- what the written part says of the def that says super(), and of the class where it stands -/
structure SupF (prog : Program) (K : PySem.W.Frag) (f cda cc D : Addr) : Prop where
  lk : ∃ oc od fd osl ar, K.lookup f = some (⟨oc, od, .func fd, osl⟩ : Obj) ∧ (fd.params.posonlyargs ++ fd.params.args).head? = some ar ∧ ar.arg = "self"
  code : ∃ ccl cdd vs ccs file tf, K.lookup cda = some (⟨ccl, cdd, .fields vs, ccs⟩ : Obj) ∧ vs[2]? = some (.str file tf) ∧ ((prog.main.file : Str) == file) = true
  cell : ∃ cl cld csl, K.lookup cc = some (⟨cl, cld, .cell (some (.ref D)), csl⟩ : Obj)
  cls : (PySem.W.clsIn K D).isSome = true
  top : (prog.main.scope.names.lookup ("super" : Str)).isSome = false
/-- what it says of an error's class below -/
structure SubF (K : PySem.W.Frag) (C D : Addr) : Prop where
  oex : OexC K C
  sub : PySem.W.mroIn K C (.ref D) = some true
  ve : PySem.W.subIn K (.ref C) (.type "ValueError") = some true
  mro : PySem.W.ks_superIn K C D "__init__" = some (some (.builtin "ValueError.__init__"))
  any : PySem.W.nsIn K cStatics "thirdparty.any" = some none
  noat : PySem.W.findIn K (.ref C) "at" = some none
section
variable {X : Cx} {pins : List (Addr × Obj)} {σ : L2.St} {H : Hp} {s : Shared} {a C D f cda cc : Addr}
theorem super_stmt {body : List Stmt} {p0 p1 p2 p3 p4 p5 : Pos} {ta : TA} {pl : Sem Bool} {Q : Flow → Shared → Prop} (SF : SupF X.prog X.K f cda cc D) (SB : SubF X.K C D) (I : Inv X pins σ H s)
    (hks : Gl X "super") (hmg : X.mg "super" = none) (hkc : X.env.kindOf "__class__" = some .free) (hfu : X.env.func = some f) (hco : X.env.code = .ref cda) (hcl : X.env.cells.lookup ("__class__" : Str) = some cc)
    (hN : X.N[0]? = some ("self" : Str)) (hkx : X.env.kindOf "self" = some .local) (hσ : σ[0]? = some (some (.ref a))) (e : H a = some (exo a C none))
    (hi : interactive X.env = false) (hsw : swapsWith (.Call (.Attribute (.Call (.Name "super" p0) [] [] p1) "__init__" p2) [.Name "at" p3] [] p4) none p5.line X.env = pure false)
    (he : eval (.Call (.Attribute (.Call (.Name "super" p0) [] [] p1) "__init__" p2) [.Name "at" p3] [] p4) X.env = (do
      let ov ← attributeBase (.Call (.Name "super" p0) [] [] p1) "__init__" X.env (eval (.Call (.Name "super" p0) [] [] p1) X.env)
      standAt p2.atName
      let (f, first) ← holding [ov] (getMethod ov "__init__" pl)
      callWith p4 f first (backTo p4 (starEach [.Name "at" p3] X.env)) []))
    (ha : PA X [.Name "at" p3] ta) (hta : ta σ H fun vs H1 => H1 = H ∧ vs.length ≤ 1000) (h : ∀ s', Inv X pins σ H s' → Q .next s') :
    _root_.PySem.wpAt (model X.prog X.w) X.A (.func body X.env) (exec (.Expr (.Call (.Attribute (.Call (.Name "super" p0) [] [] p1) "__init__" p2) [.Name "at" p3] [] p4) p5) X.env) Q X.xe s := by
  obtain ⟨oc, od, fd, osl, ar, lk, hp, har⟩ := SF.lk
  obtain ⟨ccl, cdd, vs, ccs, file, tf, lc, hvs, hfile⟩ := SF.code
  obtain ⟨cl, cld, csl, lcell⟩ := SF.cell
  obtain ⟨oD, cdD, hD1, hD2⟩ : ∃ oD cdD, X.K.lookup D = some oD ∧ oD.data = .cls cdD := by
    have h := SF.cls
    unfold PySem.W.clsIn at h
    split at h
    · rename_i c d cd' sl ho
      exact ⟨_, cd', ho, rfl⟩
    · cases h
  refine PySem.ks_wpAt_Expr_any (PySem.ks_wpAt_MethodCall ?_ he) hi hsw
  refine PySem.ks_wpAt_super_base hks hkc (by decide) hfu (I.kIn _ _ lk) rfl hp hco (I.kIn _ _ lc) rfl hvs hfile SF.top ?_
  obtain ⟨mb, hb1, hb2⟩ := I.mod.blt
  refine PySem.W.ks_loadName_global I.ok.kind hks (Calls.loadGlobal_builtin (by rw [I.ok.glob]; exact I.mod.glob.keeps I.bk) hmg (by rw [I.ok.blt]; exact hb1.keeps I.bk) ((hb2 _ (by decide)).trans (show bootBuiltins "super" = some (.type "super") by first | boot_by_name | rfl | kernel_rfl)) ⟨rfl, ?_⟩)
  refine wpAny_loadName_free I.ok.kind hkc hcl ⟨_, I.kIn _ _ lcell, rfl⟩ ?_
  rw [har]
  obtain ⟨m, hn, hl⟩ := I.loc
  have vself : Vis X.env.scope ("self" : Str) := .inl hkx
  obtain ⟨u0, ru0, lu0⟩ := hl 0 _ _ hN hσ vself
  have eu0 : u0 = Value.ref a := ru0
  subst eu0
  have mself : m ("self" : Str) = some (.ref a) := by
    rcases lu0 with ⟨_, z⟩ | ⟨z, _⟩
    · exact z
    · rw [hkx] at z; rcases z with z | z <;> cases z
  refine wpAny_loadName_local I.ok.kind hkx hn mself ?_
  obtain ⟨t1, hoa⟩ := exo_at I.hok e
  obtain ⟨hp0, g, d, t, os⟩ := s
  refine PySem.ks_wpAny_isType_cls (I.kIn _ _ hD1) hD2 ⟨rfl, ?_⟩
  refine PySem.ks_wpAny_call_super (I.kIn _ _ hD1) hD2 hoa rfl (fun c z => by cases z) (PySem.W.looks_mroIn I.kIn SB.sub) (fun h' hso k => ?_)
  have I2 : Inv X pins σ H ⟨h', g, d, t, os⟩ := I.kept (t' := t) k
  have IA : PySem.W.InstAt h' a _ C none := ⟨k _ _ hoa, rfl, rfl, trivial⟩
  obtain ⟨cd, hcd⟩ : ∃ cd, PySem.W.clsIn X.K C = some cd := by
    have z := SB.mro
    unfold PySem.W.ks_superIn at z
    cases c : PySem.W.clsIn X.K C with
    | none => rw [c] at z; cases z
    | some cd => exact ⟨cd, rfl⟩
  have hmro := SB.mro
  unfold PySem.W.ks_superIn at hmro
  rw [hcd] at hmro
  refine PySem.W.kxs_getMethod PySem.W.kxs_ValueError hso (PySem.W.looks_opaque I2.kIn SB.any) (l₀ := cd.mro) (fun A Q E s k q => wpAny_bind ((PySem.W.looks_clsIn I2.kIn hcd) A _ E s k (wpAny_pure q))) rfl I2.kIn hmro (IA.type.andThen (PySem.W.looks_subIn I2.kIn SB.ve)) (PySem.W.ks_ne I2.kIn IA hcd) (by decide) ?_
  -- the wrapper stands while the argument is read
  generalize hu : h'.objs.size = u
  have I3 : Inv X pins σ H ⟨h'.push (PySem.W.kxs_mw "ValueError.__init__" a), g, d, t + 1, os⟩ := I2.kept (t' := t + 1) fun b o z => Heap.get?_push_of_some _ z
  have I4 : Inv X (pins ++ [(u, PySem.W.kxs_mw "ValueError.__init__" a)]) σ H ⟨h'.push (PySem.W.kxs_mw "ValueError.__init__" a), g, d, t + 1, os⟩ := I3.pins_of fun p hp => by
    rcases List.mem_append.mp hp with z | z
    · exact I3.pin p (List.mem_append_right _ z)
    · have z := List.mem_singleton.mp z
      subst z
      refine ⟨by rw [← hu]; exact Heap.get?_push_size _ rfl, by rw [← hu]; exact I2.hok.fresh (Nat.le_refl _), by rw [← hu]; exact Nat.ne_of_gt I2.lt, by rw [← hu]; exact I2.nofs (Nat.le_refl _), fun v z => by cases z⟩
  have st : starEach [Expr.Name ("at" : Str) p3] X.env = (false, eval (.Name "at" p3) X.env) :: starEach [] X.env := rfl
  have hr := ha.run p4 (pins ++ [(u, PySem.W.kxs_mw "ValueError.__init__" a)]) _ σ H _ I4 hta
  show wpAny _ _ (callWith p4 (.ref u) [] (backTo p4 (starEach [Expr.Name ("at" : Str) p3] X.env)) []) _ _ _
  rw [st] at hr ⊢
  refine PySem.W.kxs_callWith (i := "ValueError.__init__") (x := a) rfl (PySem.Calls.evalArgs_plain (thn hr fun us s5 ⟨vs5, H5, I5, r5, e5, l5⟩ => ?_))
  subst e5
  refine ⟨(I5.pin (u, PySem.W.kxs_mw "ValueError.__init__" a) (List.mem_append_right _ (List.mem_append_right _ (by simp)))).1, ?_⟩
  exact mw_call SB.oex I5.unpinned e (I5.pin (u, PySem.W.kxs_mw "ValueError.__init__" a) (List.mem_append_right _ (List.mem_append_right _ (by simp)))).1 (by
    have z := r5.length
    show us.length ≤ sizeLine
    rw [sizeLine_eq]
    omega) fun s' J => h s' J
end
end HX

set_option Elab.async false
set_option linter.all false
set_option maxRecDepth 100000
set_option maxHeartbeats 2000000
/-! HX5: the promise of an error's __init__(self, at): super().__init__(at); self.at = at. -/
namespace HX
open PySem PySem.Spec PyProof.Rows L2 NdefX
/-- what __init__ does -/
def spIni (K : PySem.W.Frag) (D : Addr) : Sp := fun vs H Q E => ∃ (a C : Addr) (v : V), vs = [.ref a, v] ∧ SubF K C D ∧ H a = some (exo a C none) ∧ ∀ dx, H dx = none → dx ≠ a → Q .non (upd (upd H dx (exd dx [(("at" : Str), v)])) a (exo a C (some dx)))
theorem init_fn {CX : CXT} {P : Program} {w : World} {K : PySem.W.Frag} {mg : Str → Option Value} {base : Heap} {k : Nat} {F : NF} {f cc D : Addr} {N : List Str} {oc dV kV doc pm ct : Value} {od an : Option Addr} {osl : Array (Option Value)} {p0 p1 p2 p3 p4 p5 q1 q2 q3 q4 : Pos} {pl : Sem Bool}
    (lk : K.lookup f = some (⟨oc, od, .func (PySem.W.fnX F.name F.qual F.params F.body F.scope F.cl dV kV doc pm an (.ref F.c) ct), osl⟩ : Obj)) (hcd : PySem.W.codeIn K (.ref F.c) F.qual = true) (SF : SupF P K f F.c cc D)
    (hbd : F.body = [.Expr (.Call (.Attribute (.Call (.Name "super" p0) [] [] p1) "__init__" p2) [.Name "at" p3] [] p4) p5, .Assign [.Attribute (.Name "self" q1) "at" q2] (.Name "at" q3) q4])
    (hclo : F.cl = [(("__class__" : Str), cc)]) (S : NScope N ["self", "at"] ["__class__"] F.scope) (hN0 : N[0]? = some ("self" : Str)) (hN1 : N[1]? = some ("at" : Str)) (hks : F.scope.names.lookup ("super" : Str) = some .globalImplicit) (hmg : mg "super" = none)
    (hi : ∀ L, interactive (envF F f L) = false) (hsw : ∀ L, swapsWith (.Call (.Attribute (.Call (.Name "super" p0) [] [] p1) "__init__" p2) [.Name "at" p3] [] p4) none p5.line (envF F f L) = pure false)
    (hsw2 : ∀ L, swapsWith (.Name "at" q3) (some (.Attribute (.Name "self" q1) "at" q2)) q4.line (envF F f L) = pure false)
    (he : ∀ L, eval (.Call (.Attribute (.Call (.Name "super" p0) [] [] p1) "__init__" p2) [.Name "at" p3] [] p4) (envF F f L) = (do
      let ov ← attributeBase (.Call (.Name "super" p0) [] [] p1) "__init__" (envF F f L) (eval (.Call (.Name "super" p0) [] [] p1) (envF F f L))
      standAt p2.atName
      let (g, first) ← holding [ov] (getMethod ov "__init__" pl)
      callWith p4 g first (backTo p4 (starEach [.Name "at" p3] (envF F f L))) [])) :
    FnOk P w K mg base CX (k + 1) f (PySem.W.fnX F.name F.qual F.params F.body F.scope F.cl dV kV doc pm an (.ref F.c) ct) ["self", "at"] (spIni K D) := by
  refine ⟨fun vs H Q E ⟨a, C, v, e, _⟩ => by rw [e]; rfl, fun A outer s H args us vs Q E hr e0 hb r hsp => ?_⟩
  obtain ⟨a, C, v, rfl, SB, e, q⟩ := hsp
  have KX : K.In s.heap := e0.mod.kin.keeps fun b o e => (e0.bs b o e).1
  have lim : s.heap.NoLimit := e0.mod.nolimit.keeps fun b o e => (e0.bs b o e).1
  obtain ⟨cl, cld, csl, lcell⟩ := SF.cell
  have bcc : base.get? cc = some (⟨cl, cld, .cell (some (.ref D)), csl⟩ : Obj) := e0.mod.kin _ _ lcell
  have CA : CellsAt F.cl ["__class__"] [none] s.heap H := by
    rw [hclo]
    have one : ∀ {y c}, List.lookup y [(("__class__" : Str), cc)] = some c → y = "__class__" ∧ c = cc := fun {y c} z => by
      unfold List.lookup at z
      split at z
      · rename_i h; exact ⟨by simpa using h, (Option.some.inj z).symm⟩
      · cases z
    refine ⟨rfl, fun y c z => ?_, fun x y c z1 z2 => by rw [(one z1).1, (one z2).1], fun i y z => ?_⟩
    · obtain ⟨_, rfl⟩ := one z
      exact ⟨(e0.bs _ _ bcc).2, _, _, (e0.bs _ _ bcc).1, rfl⟩
    · cases i with
      | zero =>
        have z : ("__class__" : Str) = y := by simpa using z
        subst z
        exact ⟨cc, by simp, fun v z => by cases z⟩
      | succ i => simp at z
  refine codeAny_call_function hr.depth (KX _ _ lk) rfl S.co S.gen rfl (PySem.W.codeRec_of KX hcd) (hb _ _ _ _ ?_)
  refine wpAny_newFunctionEnv S.nocell (fun ⟨n, _⟩ hy => S.par n (List.of_mem_zip hy).1) (fun h₁ hns hsb => ⟨lim.fresh _ hsb, ?_⟩) S.kind
  show codeAny _ _ (.func F.body (envF F f s.heap.objs.size)) _ _
  refine PySem.ks_codeAny_funcAt ?_
  have kp : ∀ b o, s.heap.get? b = some o → h₁.get? b = some o := fun b o e => hsb.extBut b o (Nat.ne_of_lt (Heap.lt_size e)) (Heap.get?_push_of_some _ e)
  have I := inv_startN (CX := CX) (mg := mg) (base := base) (f := f) (E := E) (ws := [none]) (tk := s.toks + (List.zip [("self" : Str), "at"] us).length) S hr.hd e0 rfl r CA hns kp
  have h0 : (startF N [V.ref a, v] [none])[0]? = some (some (.ref a)) := rfl
  have h1 : (startF N [V.ref a, v] [none])[1]? = some (some v) := rfl
  have v0 : Vis F.scope ("self" : Str) := .inl (S.par _ (by simp))
  have v1 : Vis F.scope ("at" : Str) := .inl (S.par _ (by simp))
  rw [hbd]
  refine PySem.ks_wpAt_execs_cons ?_
  refine super_stmt (X := ncx CX P w K mg base N F f A outer s H E) (cc := cc) (f := f) (cda := F.c) SF SB I hks hmg (S.frk _ (by simp)) rfl rfl (by show F.cl.lookup _ = _; rw [hclo]; rfl) hN0 (S.par _ (by simp)) h0 e (hi _) (hsw _) (he _) (pa_cons (pe_var (i := 1) hN1 v1) pa_nil rfl) ⟨v, h1, rfl, (show 1 ≤ 1000 by decide)⟩ fun s' J => ?_
  show _root_.PySem.wpAt _ _ _ (execs [_] _) _ _ _
  refine PySem.ks_wpAt_execs_cons (PySem.wpAt_of_wpAny (wpAny_mono ((ps_ost (X := ncx CX P w K mg base N F f A outer s H E) (f := "at") (pe_var (i := 0) hN0 v0) (pe_var (i := 1) hN1 v1) (hsw2 _)).run [] s' _ H { nx := fun _ H' => Q .non H', rt := Q } J ⟨v, h1, .ref a, h0, a, C, rfl, SB.oex, SB.noat, .inl ⟨e, fun dx n ne => q dx n ne⟩⟩) (fun fl s2 hs => ?_) fun _ _ z => z))
  have fin : ∀ {σ' : L2.St} {H' : Hp} {x : V} {u : Value} {t : Shared}, Inv (ncx CX P w K mg base N F f A outer s H E) [] σ' H' t → L2.RelV x u → Q x H' → CE outer P w H s Q u t :=
    fun {σ' H' x u t} J rv q => ⟨x, H', J.os, J.bare, J.base, J.hok, rv, q⟩
  cases fl with
  | ret u =>
    obtain ⟨x, σ', H', J2, rv, q2⟩ := hs
    exact fin J2 rv q2
  | next =>
    obtain ⟨σ', H', J2, q2⟩ := hs
    exact PySem.wpAt_of_wpAny (wpAny_execs_nil (fin (x := V.non) (u := Value.none) J2 rfl q2))
  | brk =>
    obtain ⟨_, _, _, z⟩ := hs
    exact False.elim z
  | cont =>
    obtain ⟨_, _, _, z⟩ := hs
    exact False.elim z
end HX

set_option Elab.async false
set_option linter.all false
set_option maxRecDepth 100000
set_option maxHeartbeats 2000000
/-! HX6: an own error is made, with its field. -/
namespace HX
open PySem PySem.Spec PyProof.Rows L2 NdefX
/-- C(e): an error whose dict tells at -/
def tErr (C : Addr) (te : TE) : L2.St → Hp → XK → Prop := fun σ H Q => te σ H fun v H1 => ∀ d, H1 d = none → Q (.ref C) (some d) (upd H1 d (.xd [(("at" : Str), v)]))
theorem del_upd {H : Hp} {a d : Addr} {o1 o2 u1 u2 : HO} (n : d ≠ a) (h : H a = none) : upd (del (upd (upd (upd H a o1) d u1) a o2) a) d u2 = upd H d u2 := by
  funext b
  by_cases c : b = d
  · rw [c, upd_same, upd_same]
  · rw [upd_ne c, upd_ne c]
    by_cases c2 : b = a
    · rw [c2, del_same, h]
    · rw [del_ne c2, upd_ne c2, upd_ne c, upd_ne c2]
theorem pmk_err {X : Cx} {CX : CXT} {x : Str} {C D fI : Addr} {k : Nat} {fd : FuncData} {e : Expr} {te : TE} {p pos : Pos} (SB : SubF X.K C D) (iC : PySem.W.findIn X.K (.ref C) "__init__" = some (some (.ref fI))) (tI : PySem.W.typeIn X.K (.ref fI) = some (.type "function"))
    (F1 : FnOk X.prog X.w X.K X.mg X.base CX k fI fd ["self", "at"] (spIni X.K D)) (hr : Room (k + 1) X.A) (hb : Binds X.K fd ["self", "at"] []) (hx : Passes CX X (fun _ _ _ => False)) (hg : Gl X x) (hm : X.mg x = some (.ref C)) (he : PE X e te)
    (hdb : (x == ("__debug__" : Str)) = false := by decide) (hs : starEach [e] X.env = (false, eval e X.env) :: starEach [] X.env := by rfl) :
    L2N.PMk X (.Call (.Name x p) [e] [] pos) (tErr C te) := by
  intro pins s σ H Q I h
  obtain ⟨nm, q, N, bs, bm, sn, sub, ab, col, dd, k0, k1, k2, k3, k5, hC, hbm⟩ := SB.oex.cls
  refine wpAny_Call_Name_kw (ld_glob I hg hm ?_ hdb)
  have ha : PA X [e] (tCons te tNil) := pa_cons he pa_nil hs
  refine PySem.W.callWith_K (h₀ := X.base) I.ok.mod.kin SB.oex.kC (thn (ha.run pos pins s σ H (fun vs H1 => ∃ v, vs = [v] ∧ ∀ d, H1 d = none → Q (.ref C) (some d) (upd H1 d (.xd [(("at" : Str), v)]))) I ?_) fun us s1 ⟨vs, H1, I1, r1, v, ev, q1⟩ => ⟨I1.kIn, ?_⟩) hs rfl
  · exact (show te σ H (fun v H1 => ∃ v', [v] = [v'] ∧ ∀ d, H1 d = none → Q (.ref C) (some d) (upd H1 d (.xd [(("at" : Str), v')]))) from by
      have e1 : (fun v H1 => ∃ v', [v] = [v'] ∧ ∀ d, H1 d = none → Q (.ref C) (some d) (upd H1 d (.xd [(("at" : Str), v')]))) = (fun v H1 => ∀ d, H1 d = none → Q (.ref C) (some d) (upd H1 d (.xd [(("at" : Str), v)]))) := by
        funext v H1
        exact propext ⟨fun ⟨v', e, q⟩ => by cases e; exact q, fun q => ⟨v, rfl, q⟩⟩
      rw [e1]; exact h)
  subst ev
  show wpAny _ _ (call (.ref C) us) _ _ _
  obtain ⟨hp, g, dr, tk, os⟩ := s1
  have hsz : hp.objs.size ≤ hp.objs.size + 1 := Nat.le_succ _
  have hn : H1 (hp.objs.size + 1) = none := I1.hok.fresh hsz
  have kk : ∀ b o, hp.get? b = some o → ((hp.push (PySem.W.kdv_tup us)).push (PySem.HandSPX.excO C hp.objs.size)).get? b = some o := fun b o e => Heap.get?_push_of_some _ (Heap.get?_push_of_some _ e)
  have hget : ((hp.push (PySem.W.kdv_tup us)).push (PySem.HandSPX.excO C hp.objs.size)).get? (hp.objs.size + 1) = some (PySem.HandSPX.excO C hp.objs.size) := by heap_get
  have I2 : Inv X pins σ (upd H1 (hp.objs.size + 1) (exo (hp.objs.size + 1) C none)) ⟨(hp.push (PySem.W.kdv_tup us)).push (PySem.HandSPX.excO C hp.objs.size), g, dr, tk, os⟩ :=
    I1.laid (t' := tk) (a := hp.objs.size + 1) (o := exo (hp.objs.size + 1) C none) (h' := (hp.push (PySem.W.kdv_tup us)).push (PySem.HandSPX.excO C hp.objs.size)) kk hsz (exo_ok hget)
  have r2 : Vals [V.ref (hp.objs.size + 1), v] (Value.ref (hp.objs.size + 1) :: us) := .cons rfl r1
  have hl : us.length = 1 := r1.length.symm
  have hus : us.length ≤ sizeLine := by rw [sizeLine_eq]; omega
  have bd := hb ⟨(hp.push (PySem.W.kdv_tup us)).push (PySem.HandSPX.excO C hp.objs.size), g, dr, tk, os⟩ (Value.ref (hp.objs.size + 1) :: us) I2.kIn (by simp [hl])
  rw [List.append_nil] at bd
  have hsp : spIni X.K D [V.ref (hp.objs.size + 1), v] (upd H1 (hp.objs.size + 1) (exo (hp.objs.size + 1) C none)) (fun w H2 => w = .non ∧ ∃ (d : Addr), H2 (hp.objs.size + 1) = some (exo (hp.objs.size + 1) C (some d)) ∧ H2 d = some (exd d [(("at" : Str), v)]) ∧ H1 d = none ∧ Q (.ref C) (some d) (upd (del H2 (hp.objs.size + 1)) d (.xd [(("at" : Str), v)]))) (fun _ _ _ => False) := by
    refine ⟨hp.objs.size + 1, C, v, rfl, SB, upd_same, fun dx hd n => ⟨rfl, dx, upd_same, ?_, ?_, ?_⟩⟩
    · rw [upd_ne n, upd_same]
    · rw [upd_ne n] at hd
      exact hd
    · rw [upd_ne n] at hd
      rw [del_upd n hn]
      exact q1 dx hd
  refine wpAny_call (PySem.HandSPX.call_own F.excBase_ValueError (fun Y => PySem.HandSPX.refsVE_contains Y bm hbm) (I1.kIn _ _ hC) (PySem.W.looks_findIn I1.kIn iC) (fun self => PySem.W.bind_fn I1.kIn self tI) hus
    (codeAny_mono (F1.run _ X.stack _ _ ⟨Value.ref (hp.objs.size + 1) :: us, []⟩ (Value.ref (hp.objs.size + 1) :: us) _ _ (fun _ _ _ => False) (hr.make C us []) (I2.env0.make C us []) bd r2 hsp) fun r s' hq' => ?_))
  cases r with
  | error er => exact hx pins σ _ _ er s' I2 hq'
  | ok fl =>
    cases fl with
    | ret u =>
      obtain ⟨w, H2, os2, bare2, un2, hok2, rv, ew, d, ea, ed, hd1, q2⟩ := hq'
      subst ew
      obtain ⟨h2, g2, d2, t2, os'⟩ := s'
      obtain ⟨t0, G, J, kG, ge, hoe, na⟩ := mk_end0 (d2 := d2) (t2 := t2) I1 hsz kk un2 hok2 os2 bare2 ea ed hd1
      exact ⟨rv, hp.objs.size + 1, _, _, ⟨G, g2, d2, t2, os'⟩, _, .ref C, some d, rfl, J, kG, ge, hoe, ⟨rfl, rfl, fun vs z => by cases z; rfl⟩, rfl, rfl, na, rfl, bare2, raises_own SB.oex.exC SB.oex.tyC, q2⟩
    | next => exact False.elim hq'
    | brk => exact False.elim hq'
    | cont => exact False.elim hq'
end HX

set_option Elab.async false
set_option linter.all false
set_option maxRecDepth 100000
set_option maxHeartbeats 2000000
/-! HX7: (a, b) = a tuple, while an exception is handled. -/
namespace HX
open PySem PySem.Spec PyProof.Rows L2 HotX L2H
section
variable {prog : Program} {w : World} {A : Around} {E : Value → Shared → Prop} {s : Shared}
theorem tup_end_hot {it t x1 : Addr} {i : Nat} {items : Array Value} {Q : Option Value → Shared → Prop} (hot : HotAt A x1 s.heap) (hne : x1 ≠ it)
    (hit : IsTupIter s.heap it t i) (ht : IsTup s.heap t items) (hx : items[i]? = none)
    (hQ : ∀ h', Heap.ExtBut it s.heap h' → Q none { s with heap := h' }) : wpAny (model prog w) A (pyNext (.ref it)) Q E s := by
  obtain ⟨o, ho, hc, hd⟩ := id hit
  obtain ⟨ol, hol, _, nl, hdl⟩ := ht
  obtain ⟨hh, o1, vs1, h1, d1, c1⟩ := hot
  unfold pyNext
  refine wpAny_bind (wpAny_attempt (wpAny_callSpecial?_slot (name := Str.ofString "__next__") hit.typeIs slot_tupleiter_next
    (wpAny_call_entry slot_tupleiter_next hit.typeIs entry_tupleiter_next ?_ (args_tupleiter_next _))))
  show wpAny _ _ (field (.ref it) 0 >>= _) _ _ s
  refine wpAny_bind (wpAny_field ho hd (x := .ref t) rfl ?_)
  show wpAny _ _ (if (Value.ref t == Value.none) = true then _ else _) _ _ s
  rw [if_neg (show ¬ ((Value.ref t == Value.none) = true) from Bool.false_ne_true)]
  show wpAny _ _ (field (.ref it) 1 >>= _) _ _ s
  refine wpAny_bind (wpAny_field ho hd (x := .int i 0) rfl ?_)
  show wpAny _ _ (seqItems? (.ref t) >>= _) _ _ s
  refine wpAny_bind (wpAny_seqItems hol hdl ?_)
  simp only [Int.toNat_natCast, hx]
  refine wpAny_bind (wpAny_rule (wpAny_bind (wpAny_setField ho hd (by simp) ?_)))
  show wpAny _ _ (newExc (.type "StopIteration") [] >>= _) _ _ _
  refine wpAny_bind ?_
  simp only [newExc, newTuple]
  refine wpAny_bind (wpAny_newObj_type ?_ (by size_fits))
  refine wpAny_bind (m := firstArgMember _ _) (wpAny_of_eq (a := Value.none) (by first | rfl | (simp only [firstArgMember]; rfl)) ?_)
  refine wpAny_newObj_type ?_ (by size_fits)
  have hb : ∀ {f : Obj → Obj}, (s.heap.update it f).get? x1 = some o1 := fun {f} => by rw [Heap.get?_update_other _ _ (fun c => hne c.symm)]; exact h1
  refine raiseNew_hot ⟨hh, o1, vs1, Heap.get?_push_of_some _ (Heap.get?_push_of_some _ hb), d1, c1⟩ (Nat.ne_of_lt (Heap.lt_size (Heap.get?_push_of_some _ hb))) (Heap.get?_push_size _ rfl) rfl (by first | (simp; done) | (simp; omega) | (simp only [Array.size_append]; simp; omega)) ?_
  refine wpAny_bind (wpAny_isInstance (T := "StopIteration") (b := true) ⟨_, Heap.get?_update_self _ (Heap.get?_push_size _ rfl) rfl, rfl⟩ isSubtype_stop ?_)
  refine wpAny_pure (hQ _ fun b u hbn e => ?_)
  have e' : ∀ {f : Obj → Obj}, (s.heap.update it f).get? b = some u := fun {f} => by rw [Heap.get?_update_other _ _ (fun c => hbn c.symm)]; exact e
  rw [Heap.get?_update_other _ _ (Nat.ne_of_gt (Heap.lt_size (Heap.get?_push_of_some _ e')))]
  exact Heap.get?_push_of_some _ (Heap.get?_push_of_some _ e')
theorem unpackItems_hot {t x1 : Addr} {items : Array Value} {Q : List Value → Shared → Prop} (hot : HotAt A x1 s.heap) (ht : IsTup s.heap t items)
    (hQ : ∀ h', Heap.ExtBut s.heap.objs.size s.heap h' → Q items.toList { s with heap := h' }) : wpAny (model prog w) A (unpackItems (.ref t) items.size none) Q E s := by
  have hlt : t ≠ s.heap.objs.size := by obtain ⟨o, ho, _⟩ := ht; exact Nat.ne_of_lt (Heap.lt_size ho)
  obtain ⟨hh, o1, vs1, h1, d1, c1⟩ := hot
  have hx1 : x1 ≠ s.heap.objs.size := Nat.ne_of_lt (Heap.lt_size h1)
  unfold unpackItems
  refine wpAny_bind ?_
  · unfold notIterableAtAll
    refine wpAny_bind (wpAny_specialOf ht.typeIs slot_tuple_iter.lookup ?_)
    refine wpAny_pure ?_
    simp only [Bool.false_eq_true, if_false]
    refine wpAny_bind (wpAny_holding (iter_tuple ht ?_))
    refine wpAny_bind (wpAny_holding (draw_tuple hlt items.size 0 _ _ ⟨_, Heap.get?_push_size _ rfl, rfl, rfl⟩ (ht.push _) (by omega) fun h₁ hit₁ hs₁ => ?_))
    have hall : List.take items.size (List.drop 0 items.toList) = items.toList := by
      rw [List.drop_zero]; exact List.take_of_length_le (by simp)
    rw [hall]
    rw [if_neg (by simp)]
    have ht₁ : IsTup h₁ t items := (ht.push _).extBut hs₁.extBut hlt
    refine wpAny_bind (wpAny_holding (tup_end_hot ⟨hh, o1, vs1, hs₁.extBut _ _ hx1 (Heap.get?_push_of_some _ h1), d1, c1⟩ hx1 hit₁ ht₁ (by simp) fun h₂ he₂ => ?_))
    simp only [Option.isSome_none, Bool.false_eq_true, if_false]
    refine wpAny_pure (hQ h₂ fun b o hb e => he₂ b o hb (hs₁.extBut b o hb (Heap.get?_push_of_some _ e)))
theorem assign_Tuple_hot {env : Env} {elts : List Expr} {k} {pos : Pos} {t x1 : Addr} {items : Array Value} {Q : Unit → Shared → Prop} (hot : HotAt A x1 s.heap) (ht : IsTup s.heap t items)
    (hn : (assignEach elts env).length = items.size) (hstar : (assignEach elts env).findIdx? (·.1) = none)
    (h : ∀ h', Heap.ExtBut s.heap.objs.size s.heap h' → wpAny (model prog w) A (assignInOrder ((assignEach elts env).map (·.2)) items.toList) Q E { s with heap := h' }) :
    wpAny (model prog w) A (assign (.Tuple elts k pos) env (.ref t)) Q E s := by
  rw [assign_Tuple]
  refine wpAny_bind (wpAny_standAt ?_)
  unfold unpack
  rw [hn, hstar]
  exact wpAny_bind (wpAny_holding (unpackItems_hot hot ht h))
end
/-- (a, b, ..) = a tuple of that length, what is handled being pinned -/
theorem pgh_tup {X : Cx} {es : List Expr} {k : Nat} {t : TGs} {n : Nat} {pos : Pos} (h : PGs X es t)
    (hn : (assignEach es X.env).length = n := by rfl) (hst : (assignEach es X.env).findIdx? (·.1) = none := by rfl) : PGH X (.Tuple es k pos) (gTup X.K n t) := by
  refine ⟨fun pins s σ H v u Q hot I r hw => ?_⟩
  obtain ⟨a, xs, e1, hq, hl, hw⟩ := hw
  subst e1
  cases r
  obtain ⟨its, rv, ht, hz⟩ := I.tuple hq
  obtain ⟨p, hp, _⟩ := hot.at I
  refine assign_Tuple_hot hp ht (by simp [hn, ← hl, rv.length]) hst fun h' hx => ?_
  have I1 : Inv X pins σ H { s with heap := h' } := I.kept (t' := s.toks) fun b o e => hx b o (Nat.ne_of_lt (Heap.lt_size e)) e
  exact h.run pins _ σ H xs _ Q I1 (by simpa using rv) hw
end HX

set_option Elab.async false
set_option linter.all false
set_option maxRecDepth 100000
/-! LayE: statements that raise own errors. -/
namespace Lay
open PySem PySem.Spec PyProof.Rows L2
open Lay.Enc (enc)
/-- the class named x is an own error's, its __init__ keeps its promise -/
structure ErrC (X : Cx) (k : Nat) (x : Str) : Prop where
  ex : ∃ (C D fI : Addr) (fd : FuncData), X.mg x = some (.ref C) ∧ HX.SubF X.K C D ∧ PySem.W.findIn X.K (.ref C) "__init__" = some (some (.ref fI)) ∧ PySem.W.typeIn X.K (.ref fI) = some (.type "function") ∧
    FnOk X.prog X.w X.K X.mg X.base CX0 k fI fd ["self", "at"] (HX.spIni X.K D) ∧ Binds X.K fd ["self", "at"] []
section
variable {X : Cx} {G : List Sl} {S B R : Type} [Enc R] {P : S → List Sl} {PB : B → List Sl} {own : Rk} {rest : List Stmt} {N : List Str} {sc : Scope} {fs : Option Scope} {k : Nat}
/-- raise x(e) -/
theorem sv_raiseE {x : Str} {e : Expr} {p pc pos : Pos} {oe : Option Int} (C : Ctx X N sc fs (k + 1)) (M : ErrC X k x) (hg : glbB sc x = true) (he : ED X G e oe) (hs : starEach [e] X.env = (false, eval e X.env) :: starEach [] X.env := by rfl) :
    SV X G (.Raise (some (.Call (.Name x p) [e] [] pc)) none pos :: rest) P PB own (oe.bind fun n => (some (.er ⟨x, n⟩) : Option (Out S B R))) := fun y hy => by
  obtain ⟨n, h1, h2⟩ := bind_get hy
  cases h2
  obtain ⟨Cl, D, fI, fd, hm, SB, iC, tI, F1, hb⟩ := M.ex
  obtain ⟨g1, g2⟩ : Gl X x ∧ (x == ("__debug__" : Str)) = false := by
    unfold glbB at hg
    rw [Bool.and_eq_true] at hg
    refine ⟨?_, by simpa using hg.2⟩
    have h := hg.1
    rw [← C.s] at h
    show X.env.scope.names.lookup x = some .globalImplicit
    split at h
    · assumption
    · cases h
  refine (pss_cons (L2N.ps_raise C.calm (takes_WS X) (HX.pmk_err SB iC tI F1 C.rm hb pass0 g1 hm (he n h1) g2 hs)) pss_never).imp fun D' σ H ⟨F, I, ps, Rr, q⟩ => ⟨F, I, ps, Rr, fun v H1 I1 g R1 d dd hd => ?_⟩
  have ev : v = .int n := by cases d; rfl
  subst ev
  exact q Cl dd σ _ I1 hm g.b (same_upd2 R1.sf (R1.sf.free hd)) (same_upd2 R1.si (R1.si.free hd)) upd_same
end
/-! ### defs that raise -/
/-- the promise of a def that gives data or raises an own error -/
def spE (K : PySem.W.Frag) (mg : Str → Option Value) (own : Rq) (g : List PyData → Er ⊕ PyData → Prop) : Sp := fun vs H Q E =>
  ∃ ds r I, g ds r ∧ Same I H ∧ DqAll I vs ds ∧ match r with
    | .inr d => ∀ v H' I', Same H H' → Grow H I I' → Same I' H' → RetR K own H I' H' v d → Q v H'
    | .inl e => ∀ C d H' I', mg e.k = some (.ref C) → Same H H' → Grow H I I' → Same I' H' → H' d = some (.xd [(("at" : Str), .int e.a)]) → E (.ref C) (some d) H'
/-- what a body ends with, as its def's answer -/
def finX {R : Type} (d : Option R) (o : Option (Out Unit Unit R)) : Option (Er ⊕ R) := o.bind fun x => match x with
  | .nx _ => d.map .inr
  | .rt r => some (.inr r)
  | .er e => some (.inl e)
  | _ => none
def encX {R : Type} [Enc R] : Er ⊕ R → Er ⊕ PyData
  | .inl e => .inl e
  | .inr r => .inr (enc r)
def tBodyE (X : Cx) (G : List Sl) (own : Rq) (r : Er ⊕ PyData) : TS := fun D σ H =>
  ∃ F I ps, RS X.K F G σ H I ps ∧ match r with
    | .inr d => ∀ v H' I', Grow F I I' → Same F H' → Same I' H' → RetR X.K own F I' H' v d → (v = .non → ∀ σ', D.nx σ' H') ∧ D.rt v H'
    | .inl e => ∀ C d σ' H' I', X.mg e.k = some (.ref C) → Grow F I I' → Same F H' → Same I' H' → H' d = some (.xd [(("at" : Str), .int e.a)]) → WS X (.ref C) (some d) σ' H'
theorem body_ofE {X : Cx} {G : List Sl} {R : Type} [Enc R] {P : Unit → List Sl} {PB : Unit → List Sl} {own : Rq} {body : List Stmt} {d : Option R} {o : Option (Out Unit Unit R)} {r : Er ⊕ R} (h : SV X G body P PB ⟨own, false⟩ o) (hr : finX d o = some r) (hd : ∀ x, d = some x → own = .dd ∧ enc x = .none) :
    PSs X body (tBodyE X G own (encX r)) := by
  obtain ⟨x, h1, h2⟩ := bind_get hr
  refine (h x h1).imp fun D σ H ⟨F, I, ps, Rr, q⟩ => ⟨F, I, ps, Rr, ?_⟩
  cases x with
  | nx s =>
    cases d with
    | none => cases h2
    | some y =>
      have e : r = .inr y := (Option.some.inj h2).symm
      subst e
      obtain ⟨e1, e2⟩ := hd y rfl
      subst e1
      exact fun σ' H' I' ps' g R' => (q .non H' I' g R'.sf R'.si (by rw [e2]; exact Dq.non)).1 rfl σ'
  | rt s =>
    have e : r = .inr s := (Option.some.inj h2).symm
    subst e
    exact fun v H' I' g s1 s2 rr => (q v H' I' g s1 s2 rr).2
  | er e =>
    have e : r = .inl e := (Option.some.inj h2).symm
    subst e
    exact fun C d σ' H' I' m g s1 s2 hd => q C d σ' H' I' m g s1 s2 hd
  | bk s => cases h2
  | ct s => cases h2
section
variable {P : Program} {w : World} {K : PySem.W.Frag} {mg : Str → Option Value} {base : Heap} {x : Str} {st : Stmt} {f : Addr} {fd : FuncData} {N prm : List Str} {k : Nat} {own : Rq}
theorem ok_defE {g : List PyData → Er ⊕ PyData → Prop} {qual : Str} (F : Fun K x qual st f fd) (S : FnScope N prm (defScope st)) (ar : ∀ ds r, g ds r → ds.length = prm.length) (n : Nat) (hN : N.length = n) (hp : prm.length ≤ n)
    (body : AnyX P w K mg base N (defScope st) k fun X => ∀ ds r, g ds r → PSs X (defBody st) (tBodyE X (dats n ds) own r)) : FnG P w K mg base (L2N.CX P w) (k + 1) f fd prm (spE K mg own g) := by
  refine fnG F S (fun vs H Q E ⟨ds, r, I, h1, _, h2, _⟩ => by rw [← ar ds r h1]; exact h2.len) fun cd A out s H vs Q E gd rm ⟨ds, r, I, h1, hi, h2, q⟩ => ?_
  have cx : Ctx (cxOf (L2N.CX P w) P w K mg base N qual (defScope st) f cd A out s H E) N (defScope st) none k := ⟨rfl, rfl, S.kind, rfl, S.nd, gd, rm, PassesOwn.leaving, rfl⟩
  refine ⟨_, body _ rfl rfl rfl rfl rfl cx ds r h1, H, I, _, start_rs hN (by rw [ar ds r h1]; exact hp) hi h2, ?_⟩
  cases r with
  | inr d =>
    refine fun v H' I' g s1 s2 rr => ⟨fun e σ' => ?_, q v H' I' s1 g s2 rr⟩
    subst e
    exact q .non H' I' s1 g s2 rr
  | inl e =>
    intro C d σ' H' I' m g s1 s2 hd
    have tk := L2N.takes_of (X := cxOf (L2N.CX P w) P w K mg base N qual (defScope st) f cd A out s H E) (E := E) rfl rfl rfl rfl
    exact WS.of tk fun _ => q C d H' I' m s1 g s2 hd
end
/-! ### calls of such defs -/
def tX (X : Cx) (G : List Sl) (r : Er ⊕ PyData) : TE := fun σ H Q => ∃ F I ps, RS X.K F G σ H I ps ∧ match r with
  | .inr d => ∀ v H' I', Grow F I I' → RS X.K F G σ H' I' ps → Dq I' v d → Q v H'
  | .inl e => ∀ C d σ' H' I', X.mg e.k = some (.ref C) → Grow F I I' → Same F H' → Same I' H' → H' d = some (.xd [(("at" : Str), .int e.a)]) → WS X (.ref C) (some d) σ' H'
/-- an expression that may raise -/
def EX (X : Cx) (G : List Sl) {α : Type} [Enc α] (e : Expr) (o : Option (Er ⊕ α)) : Prop := ∀ x, o = some x → PE X e (tX X G (encX x))
section
variable {X : Cx} {G : List Sl} {S B R α : Type} [Enc R] [Enc α] {P : S → List Sl} {PB : B → List Sl} {own : Rk} {rest : List Stmt} {N : List Str} {sc : Scope} {fs : Option Scope} {k i j : Nat} {x : Str} {e : Expr} {es : List Expr} {p pos : Pos} {prm : List Str} {g : List PyData → Er ⊕ PyData → Prop} {ods : Option (List PyData)}
theorem ex_call {o : Option (Er ⊕ α)} (C : Ctx X N sc fs k) (c : Cal X.prog X.w X.K X.mg X.base (L2N.CX X.prog X.w) j x prm (spE X.K X.mg .dd g)) (hj : j ≤ k) (hg : glbB sc x = true) (ha : AD X G (e :: es) ods) (ho : ∀ r, o = some r → ∃ ds, ods = some ds ∧ g ds (encX r))
    (he : starEach (e :: es) X.env = (false, eval e X.env) :: starEach es X.env := by rfl) (hp : (backTo pos (starEach es X.env)).any (·.1) = false := by rfl) : EX X G (.Call (.Name x p) (e :: es) [] pos) o := fun r hr => by
  obtain ⟨ds, h1, h2⟩ := ho r hr
  refine (pe_callG (E := fun cls d H => ∀ σ, WS X cls d σ H) (c.up hj) C.gd C.rm C.s hg (L2N.passes_call (takes_WS X) fun cls d σ H h => h σ) (ha ds h1) he hp).imp fun σ H Q ⟨F, I, ps, R, q⟩ => ⟨F, I, ps, R, fun vs H1 I1 g1 R1 d => ⟨ds, _, I1, h2, R1.si, d, ?_⟩⟩
  cases r with
  | inr r =>
    intro v H' I' s g' si rr
    obtain ⟨g2, R2⟩ := R1.called s g' si
    exact q v H' I' (g1.trans g2) R2 rr
  | inl er =>
    intro Cl dd H' I' m s g' si hd σ'
    obtain ⟨g2, R2⟩ := R1.called s g' si
    exact q Cl dd σ' H' I' m (g1.trans g2) (R1.sf.trans s) si hd
/-- behind an expression that may raise -/
def bindX {α β : Type} (o : Option (Er ⊕ α)) (er : Er → Option β) (k : α → Option β) : Option β := o.bind fun x => match x with
  | .inl e => er e
  | .inr a => k a
abbrev outX {S B R α : Type} (o : Option (Er ⊕ α)) (k : α → Option (Out S B R)) : Option (Out S B R) := bindX o (fun e => some (.er e)) k
/-- f(..), its value dropped -/
theorem sv_exprE {oe : Option (Er ⊕ α)} {kk : Option (Out S B R)} (he : EX X G e oe) (hk : SV X G rest P PB own kk) (hs : swapsWith e none pos.line X.env = pure false := by rfl) : SV X G (.Expr e pos :: rest) P PB own (outX oe fun _ => kk) := fun y hy => by
  obtain ⟨v, h1, h2⟩ := bind_get hy
  cases v with
  | inr v =>
    exact (pss_cons (ps_expr (he _ h1) hs) (hk y h2)).imp fun D σ H ⟨F, I, ps, Rr, q⟩ => ⟨F, I, ps, Rr, fun w H1 I1 g R1 d => tS_after (H := H) (ps := ps) (σ := σ) g R1 q⟩
  | inl er =>
    have e2 : y = .er er := (Option.some.inj h2).symm
    subst e2
    exact (pss_cons (ps_expr (he _ h1) hs) pss_never).imp fun D σ H ⟨F, I, ps, Rr, q⟩ => ⟨F, I, ps, Rr, fun C d σ' H' I' m g s1 s2 hd => q C d σ' H' I' m g.b s1 s2 hd⟩
/-- x = f(..) -/
theorem sv_setE {oe : Option (Er ⊕ α)} {kk : α → Option (Out S B R)} (C : Ctx X N sc fs k) (hl : locB N sc fs i x = true) (he : EX X G e oe) (hk : ∀ v, SV X (G.set i (.dat (enc v))) rest P PB own (kk v))
    (hs : swapsWith e (some (.Name x p)) pos.line X.env = pure false := by rfl) : SV X G (.Assign [.Name x p] e pos :: rest) P PB own (outX oe kk) := fun y hy => by
  obtain ⟨v, h1, h2⟩ := bind_get hy
  obtain ⟨a1, a2, a3, a4⟩ := locB_ok C hl
  cases v with
  | inr v =>
    exact (pss_cons (ps_set a1 a2 a3 (he _ h1) hs a4) (hk v y h2)).imp fun D σ H ⟨F, I, ps, Rr, q⟩ => ⟨F, I, ps, Rr, fun w H1 I1 g R1 d => tS_after (H := H) (ps := ps) (σ := σ) g (R1.setDat d) q⟩
  | inl er =>
    have e2 : y = .er er := (Option.some.inj h2).symm
    subst e2
    exact (pss_cons (ps_set a1 a2 a3 (he _ h1) hs a4) pss_never).imp fun D σ H ⟨F, I, ps, Rr, q⟩ => ⟨F, I, ps, Rr, fun C d σ' H' I' m g s1 s2 hd => q C d σ' H' I' m g.b s1 s2 hd⟩
/-- return f(..) -/
theorem sv_retE {m : Bool} {oe : Option (Er ⊕ R)} (he : EX X G e oe) : SV X G (.Return (some e) pos :: rest) P PB ⟨.dd, m⟩ (outX oe fun r => some (.rt r)) := fun y hy => by
  obtain ⟨v, h1, h2⟩ := bind_get hy
  cases v with
  | inr v =>
    have e2 : y = .rt v := (Option.some.inj h2).symm
    subst e2
    exact (pss_cons (ps_ret (he _ h1)) pss_never).imp fun D σ H ⟨F, I, ps, Rr, q⟩ => ⟨F, I, ps, Rr, fun w H1 I1 g R1 d => q w H1 I1 g.b R1.sf R1.si d⟩
  | inl er =>
    have e2 : y = .er er := (Option.some.inj h2).symm
    subst e2
    exact (pss_cons (ps_ret (he _ h1)) pss_never).imp fun D σ H ⟨F, I, ps, Rr, q⟩ => ⟨F, I, ps, Rr, fun C d σ' H' I' m g s1 s2 hd => q C d σ' H' I' m g.b s1 s2 hd⟩
end
end Lay

set_option Elab.async false
set_option linter.all false
set_option maxRecDepth 100000
/-! LayE2: try .. except K as e: the suite returns what tells of the error. -/
namespace Lay
open PySem PySem.Spec PyProof.Rows L2
open Lay.Enc (enc)
/-- what the suite gives: the error at a, slot i holds it; r by the mirror mw -/
def tsW {R : Type} [Enc R] (mg : Str → Option Value) (i : Nat) (mw : Er → Option R) (a : Addr) (cls : Value) (d : Option Addr) : TS := fun D σ H =>
  ∃ (e : Er) (Cl dd : Addr) (r : R) (I : Hp), cls = .ref Cl ∧ d = some dd ∧ mg e.k = some (.ref Cl) ∧ H dd = some (.xd [(("at" : Str), .int e.a)]) ∧ σ[i]? = some (some (.ref a)) ∧ H a = none ∧ mw e = some r ∧ Same I H ∧
    ∀ v H' I', Same H H' → Grow H I I' → Same I' H' → Dq I' v (enc r) → D.rt v H'
/-- the body's ends by the wish W -/
def tSW {S B R : Type} [Enc R] (X : Cx) (G : List Sl) (P : S → List Sl) (PB : B → List Sl) (own : Rk) (o : Out S B R) (W : WX) : TS := fun D σ H =>
  ∃ F I ps, RS X.K F G σ H I ps ∧ match o with
    | .nx s => ∀ σ' H' I' ps', GrowB own.m F I I' → RS X.K F (P s) σ' H' I' ps' → D.nx σ' H'
    | .bk b => ∀ σ' H' I' ps', GrowB own.m F I I' → RS X.K F (PB b) σ' H' I' ps' → D.bk σ' H'
    | .ct b => ∀ σ' H' I' ps', GrowB own.m F I I' → RS X.K F (PB b) σ' H' I' ps' → D.ct σ' H'
    | .rt r => ∀ v H' I', GrowB own.m F I I' → Same F H' → Same I' H' → RetR X.K own.k F I' H' v (enc r) → D.rt v H'
    | .er e => ∀ C d σ' H' I', σ'.length = X.N.length → X.mg e.k = some (.ref C) → GrowB own.m F I I' → Same F H' → Same I' H' → H' d = some (.xd [(("at" : Str), .int e.a)]) → W (.ref C) (some d) σ' H'
theorem tr_body {X : Cx} {G : List Sl} {S B R : Type} [Enc R] {P : S → List Sl} {PB : B → List Sl} {own : Rk} {body : List Stmt} {o : Out S B R} {W : WX} {pn : List (Addr × Obj)} {xe : Value → Shared → Prop} (tk : L2N.Takes (X.tr pn xe) W) (h : PSs (X.tr pn xe) body (tS (X.tr pn xe) G P PB own o)) :
    PSs (X.tr pn xe) body (tSW X G P PB own o W) := h.imp fun D σ H ⟨F, I, ps, Rr, q⟩ => ⟨F, I, ps, Rr, by
  cases o with
  | nx s => exact q
  | bk s => exact q
  | ct s => exact q
  | rt s => exact q
  | er e => exact fun C d σ' H' I' m g s1 s2 hd => WS.of tk fun hl => q C d σ' H' I' hl m g s1 s2 hd⟩
section
variable {X : Cx} {G : List Sl} {S S' B R : Type} [Enc R] {P : S → List Sl} {P' : S' → List Sl} {PB : B → List Sl} {rest : List Stmt} {N : List Str} {sc : Scope} {fs : Option Scope} {k i : Nat} {x n : Str} {np pos pos' : Pos} {body suite : List Stmt} {b₀ : Stmt} {c : Value}
/-- try: body / except x as n: suite, the suite returning -/
theorem sv_tryE {ob : Option (Out S' B R)} {kk : S' → Option (Out S B R)} {mw : Er → Option R} (C : Ctx X N sc fs k) (hs : X.stack = X.env :: X.outer) (hf : X.env.frame = some X.env.locals) (hi : X.N[i]? = some n) (hln : X.env.kindOf n = some .local) (hc : Names X x c)
    (hb : ∀ (pn : List (Addr × Obj)) (xe : Value → Shared → Prop), PassesOwn (model X.prog X.w) X.A X.env xe → SV (X.tr pn xe) G body P' PB ⟨.dd, false⟩ ob)
    (hcl : ∀ e r, mw e = some r → ∀ Cl, X.mg e.k = some (.ref Cl) → PySem.W.exmOne X.K (.ref Cl) c = some true)
    (hsu : ∀ (a : Addr) (oe : Obj) (cls : Value) (d : Option Addr) (pn : List (Addr × Obj)), L2N.Zn cls d oe → (∃ vs, oe.data = .fields vs) → PSs (X.suite a ((a, oe) :: pn)) (b₀ :: suite) (tsW X.mg i mw a cls d))
    (hk : ∀ s, SV X (P' s) rest P PB ⟨.dd, false⟩ (kk s)) :
    SV X G (.Try body [.ExceptHandler (some (.Name x np)) (some n) (b₀ :: suite) pos'] [] [] pos :: rest) P PB ⟨.dd, false⟩ (ob.bind fun o => match o with
      | .nx s => kk s
      | .bk b => some (.bk b)
      | .ct b => some (.ct b)
      | .rt r => some (.rt r)
      | .er e => (mw e).map .rt) := fun y hy => by
  obtain ⟨o, h1, h2⟩ := bind_get hy
  have il : i < X.N.length := (List.getElem?_eq_some_iff.mp hi).1
  have pt := L2N.ps_try_as (X := X) (x := x) (np := np) (pos := pos) (pos' := pos') (c := c) (Wout := WS X) (tb := fun W => tSW X G P' PB ⟨.dd, false⟩ o W) (ts := tsW X.mg i mw) hs hf (by rw [C.n]; exact C.nd) hi hln hc (takes_WS X)
    (fun W pn xe tk px => tr_body tk (hb pn xe px o h1)) hsu
  cases o with
  | nx s => exact (pss_cons pt (hk s y h2)).imp fun D σ H ⟨F, I, ps, Rr, q⟩ => ⟨F, I, ps, Rr, fun σ1 H1 I1 ps1 g R1 => tS_afterB (H := H) (ps := ps) (σ := σ) g R1 q⟩
  | bk s => cases h2; exact (pss_cons pt pss_never).imp fun D σ H t => t
  | ct s => cases h2; exact (pss_cons pt pss_never).imp fun D σ H t => t
  | rt s => cases h2; exact (pss_cons pt pss_never).imp fun D σ H t => t
  | er e =>
    have h2 : (mw e).map Out.rt = some y := h2
    cases hm : mw e with
    | none => rw [hm] at h2; cases h2
    | some r =>
      rw [hm] at h2
      have ey : y = .rt r := (Option.some.inj h2).symm
      subst ey
      refine (pss_cons pt pss_never).imp fun D σ H ⟨F, I, ps, Rr, q⟩ => ⟨F, I, ps, Rr, fun Cl d σ' H' I' hl m g s1 s2 hd => ⟨true, hcl e r hm Cl m, fun _ a ha => ?_, fun z => by cases z⟩⟩
      refine ⟨e, Cl, d, r, I', rfl, rfl, m, hd, List.getElem?_set_self (by rw [hl]; exact il), ha, hm, s2, fun v H2 I2 s3 g2 si rr => q v H2 I2 ?_ (s1.trans s3) si rr⟩
      exact g.trans ⟨g2.same, fun a h => (g2.out a h).imp id fun z => s1.free z⟩
end
end Lay

set_option Elab.async false
set_option linter.all false
set_option maxRecDepth 100000
/-! LayE3: the suite return w(e), w a def that is promised while an error is handled. -/
namespace Lay
open PySem PySem.Spec PyProof.Rows L2 L2H
open Lay.Enc (enc)
theorem hot_suite {X : Cx} {a : Addr} {oe : Obj} {cls : Value} {d : Option Addr} {pn : List (Addr × Obj)} (hz : L2N.Zn cls d oe) (hf : ∃ vs, oe.data = .fields vs) : HotC (X.suite a ((a, oe) :: pn)) := by
  obtain ⟨vs, hv⟩ := hf
  exact ⟨(a, oe), ⟨rfl, vs, hv, hz.2.2 vs hv⟩, List.mem_cons_self⟩
/-- what a def promises that is called with the error that is handled -/
structure FnW {R : Type} [Enc R] (P : Program) (w : World) (K : PySem.W.Frag) (mg : Str → Option Value) (base : Heap) (k : Nat) (f : Addr) (fd : FuncData) (prm : List Str) (mw : Er → Option R) : Prop where
  one : prm.length = 1
  run : ∀ (A : Around) (outer : List Env) (s : Shared) (H : Hp) (args : Args) (us : List Value) (Q : VK) (a Cl dd : Addr) (oe : Obj) (e : Er) (r : R) (I : Hp), RoomH k A → Hot1 A (a, oe) → PinOk outer H s (a, oe) → L2N.Zn (.ref Cl) (some dd) oe → Env0 P w K mg base A outer s H → BindsTo s fd args (prm.zip us) → Vals [V.ref a] us →
    mg e.k = some (.ref Cl) → H dd = some (.xd [(("at" : Str), .int e.a)]) → mw e = some r → Same I H → (∀ v H' I', Same H H' → Grow H I I' → Same I' H' → Dq I' v (enc r) → Q v H') →
    codeAny (model P w) A (.call (.ref f) args) (CR CX0 outer P w H s Q E0) s
theorem suite_ok {X : Cx} {R : Type} [Enc R] {N : List Str} {sc : Scope} {fs : Option Scope} {k i : Nat} {w n : Str} {p2 p3 p4 p5 : Pos} {mw : Er → Option R} {f : Addr} {fd : FuncData} {prm : List Str} (C : Ctx X N sc fs k) (hi : X.N[i]? = some n) (hv : Vis X.env.scope n)
    (F : FnW X.prog X.w X.K X.mg X.base k f fd prm mw) (hm : X.mg w = some (.ref f)) (hk : PySem.W.keepIn X.K (.ref f) = true) (hb : Binds X.K fd prm []) (hg : Gl X w) (hnd : (n == ("__debug__" : Str)) = false) (hnc : (n == ("__classdict__" : Str)) = false) (hwd : (w == ("__debug__" : Str)) = false)
    (a : Addr) (oe : Obj) (cls : Value) (d : Option Addr) (pn : List (Addr × Obj)) (hz : L2N.Zn cls d oe) (hf : ∃ vs, oe.data = .fields vs) :
    PSs (X.suite a ((a, oe) :: pn)) [.Return (some (.Call (.Name w p2) [.Name n p3] [] p4)) p5] (tsW X.mg i mw a cls d) := by
  have hr : RoomH k (X.suite a ((a, oe) :: pn)).A := ⟨C.rm.dp, C.rm.un⟩
  have hot : Hot1 (X.suite a ((a, oe) :: pn)).A (a, oe) := by
    obtain ⟨vs, hv⟩ := hf
    exact ⟨rfl, vs, hv, hz.2.2 vs hv⟩
  have pv := pe_var (X := X.suite a ((a, oe) :: pn)) (i := i) (pos := p3) hi hv hnd hnc
  have st : starEach [Expr.Name n p3] (X.suite a ((a, oe) :: pn)).env = (false, eval (.Name n p3) (X.suite a ((a, oe) :: pn)).env) :: starEach [] (X.suite a ((a, oe) :: pn)).env := rfl
  have pe : PE (X.suite a ((a, oe) :: pn)) (.Call (.Name w p2) [.Name n p3] [] p4) (fun σ H Q => ∃ (e : Er) (Cl dd : Addr) (r : R) (I : Hp), cls = .ref Cl ∧ d = some dd ∧ X.mg e.k = some (.ref Cl) ∧ H dd = some (.xd [(("at" : Str), .int e.a)]) ∧ σ[i]? = some (some (.ref a)) ∧ mw e = some r ∧ Same I H ∧ ∀ v H' I', Same H H' → Grow H I I' → Same I' H' → Dq I' v (enc r) → Q v H') := by
    refine ⟨fun pins s σ H Q I0 ⟨e, Cl, dd, r, I, ec, ed, m, hx, hσ, hw, si, q⟩ => ?_⟩
    subst ec ed
    refine wpAny_Call_Name_kw (ld_glob I0 hg hm ?_ hwd)
    refine PySem.W.callWith_K (h₀ := X.base) I0.ok.mod.kin hk (thn ((pa_cons pv pa_nil st).run p4 pins s σ H (fun vs H1 => vs = [V.ref a] ∧ H1 = H) I0 ⟨.ref a, hσ, rfl, rfl⟩) fun us s1 ⟨vs, H1, I1, rv, ev, eh⟩ => ⟨I1.kIn, ?_⟩) st rfl
    subst ev eh
    have P1 := I1.pin (a, oe) (List.mem_append_left _ List.mem_cons_self)
    have hpin : PinOk (X.suite a ((a, oe) :: pn)).stack H1 s1 (a, oe) := ⟨P1.1, P1.2.1, fun hm => (List.mem_cons.mp (I1.stkSub a hm)).elim P1.2.2.1 P1.2.2.2.1, P1.2.2.2.2⟩
    have hl : us.length = prm.length := by rw [F.one]; exact rv.length.symm
    have b := hb s1 us I1.kIn (by rw [List.append_nil]; exact hl)
    rw [List.append_nil] at b
    refine wpAny_call (codeAny_mono (F.run _ _ s1 H1 ⟨us, []⟩ us Q a Cl dd oe e r I hr hot hpin hz I1.env0 b rv m hx hw si q) fun rr s' hq => ?_)
    cases rr with
    | error er => exact hq.elim
    | ok fl =>
      cases fl with
      | ret u => exact I1.after hq
      | next => exact False.elim hq
      | brk => exact False.elim hq
      | cont => exact False.elim hq
  exact (pss_cons (ps_ret pe) pss_never).imp fun D σ H ⟨e, Cl, dd, r, I, hc, hd, m, hx, hσ, ha, hw, si, q⟩ => ⟨e, Cl, dd, r, I, hc, hd, m, hx, hσ, hw, si, fun v H' I' s g s2 rr => q v H' I' s g s2 rr⟩
end Lay

set_option Elab.async false
set_option linter.all false
set_option maxRecDepth 100000
/-! LayE4: such a def by its body. -/
namespace Lay
open PySem PySem.Spec PyProof.Rows L2 L2H
open Lay.Enc (enc)
/-- what such a def's body must give -/
abbrev BodyW {R : Type} [Enc R] (P : Program) (w : World) (K : PySem.W.Frag) (mg : Str → Option Value) (base : Heap) (N : List Str) (qual : Str) (scope : Scope) (f : Addr) (cdv : Value) (k : Nat) (body : List Stmt) (mw : Er → Option R) : Prop :=
  ∀ (A : Around) (outer : List Env) (s : Shared) (H : Hp) (Q : VK) (a Cl dd : Addr) (oe : Obj) (e : Er) (r : R) (I : Hp), Hot1 A (a, oe) → RoomH k (A.deeper (envOfC qual scope s.heap.objs.size f cdv)) → L2N.Zn (.ref Cl) (some dd) oe →
    mg e.k = some (.ref Cl) → H dd = some (.xd [(("at" : Str), .int e.a)]) → mw e = some r → Same I H → (∀ v H' I', Same H H' → Grow H I I' → Same I' H' → Dq I' v (enc r) → Q v H') →
    ∃ t, PSs (cxH CX0 P w K mg base N qual scope f cdv A outer s H E0 (a, oe)) body t ∧ t { nx := fun _ H' => Q .non H', rt := Q } (L2.start N [V.ref a]) H
theorem fnw_of {R : Type} [Enc R] {P : Program} {w : World} {K : PySem.W.Frag} {mg : Str → Option Value} {base : Heap} {k : Nat} {f : Addr} {name qual : Str} {params : Arguments} {body : List Stmt} {scope : Scope} {dV kV doc pm cdv ct oc : Value} {an od : Option Addr}
    {osl : Array (Option Value)} {N : List Str} {n : Str} {mw : Er → Option R} (lk : K.lookup f = some ⟨oc, od, .func (PySem.W.fnOf name qual params body scope dV kV doc pm an cdv ct), osl⟩) (hcd : PySem.W.codeIn K cdv qual = true) (S : FnScope N [n] scope)
    (hbody : BodyW P w K mg base N qual scope f cdv k body mw) : FnW P w K mg base (k + 1) f (PySem.W.fnOf name qual params body scope dV kV doc pm an cdv ct) [n] mw := by
  refine ⟨rfl, fun A outer s H args us Q a Cl dd oe e r I hr hot hpin hz e0 hb rv m hx hw si q => ?_⟩
  have KX : K.In s.heap := e0.mod.kin.keeps fun b o e => (e0.bs b o e).1
  have lim : s.heap.NoLimit := e0.mod.nolimit.keeps fun b o e => (e0.bs b o e).1
  have hkind : ∀ y ∈ [n].zip us, scope.names.lookup y.1 = some .local ∨ (scope.names.lookup y.1 = some .cell ∧ ((cellsFrom (s.heap.objs.size + 1) scope.names []).lookup y.1).isSome = true) := fun ⟨n, v⟩ hy => by
    rcases S.par n (List.of_mem_zip hy).1 with q | q
    · exact .inl q
    · exact .inr ⟨q, PySem.W.cellsFrom_some _ _ _ (.inl q)⟩
  refine codeAny_call_function hr.depth (KX _ _ lk) rfl S.co S.gen rfl (PySem.W.codeRec_of KX hcd) (hb _ _ _ _ ?_)
  refine wpAny_newFunctionEnv_cells S.kind hkind fun env he s1 x => ?_
  subst he
  refine ⟨lim.keeps x.toInCall.keep, codeAny_func ?_⟩
  obtain ⟨t, ht, hq⟩ := hbody A outer s H Q a Cl dd oe e r I hot (hr.deeper _) hz m hx hw si q
  have J : Inv (cxH CX0 P w K mg base N qual scope f cdv A outer s H E0 (a, oe)) [] (L2.start N [V.ref a]) H s1 := inv_startH S hpin e0 rfl rv x
  refine wpAny_mono (ht.run [] s1 (L2.start N [V.ref a]) H _ J hq) (fun fl s' hs => ?_) fun e s' hs => hs
  have fin : ∀ {σ' : L2.St} {H' : Hp} {v : V} {u : Value}, Inv (cxH CX0 P w K mg base N qual scope f cdv A outer s H E0 (a, oe)) [] σ' H' s' → RelV v u → Q v H' → CE outer P w H s Q u s' :=
    fun {σ' H' v u} J rv q => ⟨v, H', J.os, J.bare, J.base, J.hok, rv, q⟩
  cases fl with
  | ret u =>
    obtain ⟨v, σ', H', J, rv, q⟩ := hs
    exact fin J rv q
  | next =>
    obtain ⟨σ', H', J, q⟩ := hs
    exact fin (v := V.non) (u := Value.none) J rfl q
  | brk =>
    obtain ⟨_, _, _, q⟩ := hs
    exact False.elim q
  | cont =>
    obtain ⟨_, _, _, q⟩ := hs
    exact False.elim q
/-- the error in the body's context -/
theorem body_err {P : Program} {w : World} {K : PySem.W.Frag} {mg : Str → Option Value} {base : Heap} {N : List Str} {qual : Str} {scope : Scope} {f : Addr} {cdv : Value} {A : Around} {outer : List Env} {s : Shared} {H : Hp} {a Cl dd : Addr} {oe : Obj} (hot : Hot1 A (a, oe)) (hz : L2N.Zn (.ref Cl) (some dd) oe) :
    HX.ErrAt (cxH CX0 P w K mg base N qual scope f cdv A outer s H E0 (a, oe)) a oe Cl dd ∧ HotC (cxH CX0 P w K mg base N qual scope f cdv A outer s H E0 (a, oe)) := by
  obtain ⟨h1, vs, h2, h3⟩ := hot
  exact ⟨⟨List.mem_cons_self, hz.zc, ⟨vs, h2⟩⟩, ⟨(a, oe), ⟨h1, vs, h2, h3⟩, List.mem_cons_self⟩⟩
end Lay

set_option Elab.async false
set_option linter.all false
set_option maxRecDepth 100000
/-! LayE5: a def that is called with the error that is handled: its body's rules. -/
namespace Lay
open PySem PySem.Spec PyProof.Rows L2 L2H
open Lay.Enc (enc)
/-! ### own errors' classes -/
structure EC1 (K : PySem.W.Frag) (D fI C : Addr) : Prop where
  sub : HX.SubF K C D
  exc : ExcC K C
  xf : XfC K C
  ini : PySem.W.findIn K (.ref C) "__init__" = some (some (.ref fI))
  tf : PySem.W.typeIn K (.ref fI) = some (.type "function")
  exm : PySem.W.exmOne K (.ref C) (.ref D) = some true
/-- the own errors that are named KS, below the class at D -/
structure ErrT (K : PySem.W.Frag) (mg : Str → Option Value) (D fI : Addr) (KS : List Str) : Prop where
  cls : ∀ n, n ∈ KS → ∃ C, mg n = some (.ref C) ∧ EC1 K D fI C
  pair : ∀ a b A B, a ∈ KS → b ∈ KS → mg a = some (.ref A) → mg b = some (.ref B) → PySem.W.kitOne K (.ref A) (.ref B) = some (decide (a = b))
/-- isinstance(e, c) -/
def isErr (KS : List Str) (e : Er) (c : Str) : Option Bool := if e.k ∈ KS ∧ c ∈ KS then some (decide (e.k = c)) else none
/-- e.at -/
def atErr (KS : List Str) (e : Er) : Option Int := if e.k ∈ KS then some e.a else none
theorem isErr_get {KS : List Str} {e : Er} {c : Str} {b : Bool} (h : isErr KS e c = some b) : e.k ∈ KS ∧ c ∈ KS ∧ b = decide (e.k = c) := by
  unfold isErr at h
  split at h
  · rename_i q
    exact ⟨q.1, q.2, (Option.some.inj h).symm⟩
  · cases h
theorem atErr_get {KS : List Str} {e : Er} {n : Int} (h : atErr KS e = some n) : e.k ∈ KS ∧ n = e.a := by
  unfold atErr at h
  split at h
  · rename_i q
    exact ⟨q, (Option.some.inj h).symm⟩
  · cases h
/-! ### contexts -/
structure CtxN (X : Cx) (N : List Str) (sc : Scope) (fs : Option Scope) : Prop where
  n : X.N = N
  s : X.env.scope = sc
  fk : sc.kind = .function
  nd : N.Nodup
  fn : X.fn = fnOf fs
theorem CtxN.blk {X : Cx} {N : List Str} {sc : Scope} {fs : Option Scope} (C : CtxN X N sc fs) (s : Shared) (H : Hp) (scope : Scope) (Ca : Addr) (cl : List (Str × Addr)) (fp : List Addr) (hk : scope.kind = .function) :
    CtxN (X.blk s H scope (compEnvC scope cl Ca X.env) fp) N (relS scope sc) (some scope) :=
  ⟨C.n, by show relS scope X.env.scope = _; rw [C.s], hk, C.nd, rfl⟩
/-- e holds the error er at a, its dict at dd -/
structure CtxH (X : Cx) (N : List Str) (sc : Scope) (KS : List Str) (a dd : Addr) (er : Er) : Prop where
  c : CtxN X N sc none
  hot : HotC X
  ea : ∃ oe Cl, HX.ErrAt X a oe Cl dd ∧ X.mg er.k = some (.ref Cl)
  t : ∃ D fI, ErrT X.K X.mg D fI KS
section
variable {X : Cx} {G : List Sl} {N : List Str} {sc : Scope} {fs : Option Scope} {k i : Nat} {x : Str} {α β : Type} [Enc α] [Enc β] {pos p p1 p2 : Pos} {KS : List Str} {a dd : Addr} {er : Er}
theorem visN (C : CtxN X N sc fs) (hv : visB N sc i x = true) : X.N[i]? = some x ∧ Vis X.env.scope x ∧ (x == ("__debug__" : Str)) = false ∧ (x == ("__classdict__" : Str)) = false := by
  unfold visB at hv
  simp only [Bool.and_eq_true, decide_eq_true_eq, Bool.not_eq_true'] at hv
  obtain ⟨⟨⟨h1, h2⟩, h3⟩, h4⟩ := hv
  refine ⟨by rw [C.n]; exact h1, ?_, h3, h4⟩
  rw [C.s]; unfold Vis
  split at h2 <;> simp_all
theorem ed_varH {v : α} (C : CtxN X N sc fs) (hv : visB N sc i x = true) (hs : slAt G i = .dat (enc v)) : ED X G (.Name x pos) (some v) := fun y hy => by
  cases hy
  obtain ⟨h1, hvis, h3, h4⟩ := visN C hv
  refine (pe_var h1 hvis h3 h4).imp fun σ H Q ⟨F, I, ps, R, q⟩ => ?_
  have hi : i < G.length := by
    by_cases c : i < G.length
    · exact c
    · rw [slAt_out (by omega)] at hs; cases hs
  obtain ⟨w, k1, k2⟩ := R.sl i hi
  rw [hs] at k2
  obtain ⟨_, z, e, d⟩ := k2
  subst e
  exact ⟨z, k1, q z H I Grow.refl R d⟩
/-- the error's name -/
theorem pe_xcH {n : Int} (C : CtxN X N sc fs) (hv : visB N sc i x = true) (hs : slAt G i = .st (.xc a dd n)) : PE X (.Name x pos) (fun σ H Q => ∃ F I ps, RS X.K F G σ H I ps ∧ (H dd = some (.xd [(("at" : Str), .int n)]) → Q (.ref a) H)) := by
  obtain ⟨h1, hvis, h3, h4⟩ := visN C hv
  refine (pe_var h1 hvis h3 h4).imp fun σ H Q ⟨F, I, ps, R, q⟩ => ?_
  have hi : i < G.length := by
    by_cases c : i < G.length
    · exact c
    · rw [slAt_out (by omega)] at hs; cases hs
  obtain ⟨w, k1, k2⟩ := R.sl i hi
  rw [hs] at k2
  obtain ⟨_, e, d⟩ := k2
  subst e
  exact ⟨.ref a, k1, q (R.sf _ _ d)⟩
theorem ed_isH {c : Str} (C : CtxH X N sc KS a dd er) (hv : visB N sc i x = true) (hs : slAt G i = .st (.xc a dd er.a)) (hg : glbB sc "isinstance" = true) (hm : X.mg "isinstance" = none) (hc : glbB sc c = true)
    (s1 : starEach [.Name x p1, .Name c p2] X.env = (false, eval (.Name x p1) X.env) :: starEach [.Name c p2] X.env := by rfl) (s2 : starEach [.Name c p2] X.env = (false, eval (.Name c p2) X.env) :: starEach [] X.env := by rfl) (hp : (backTo pos (starEach [.Name c p2] X.env)).any (·.1) = false := by rfl) :
    ED X G (.Call (.Name "isinstance" p) [.Name x p1, .Name c p2] [] pos) (isErr KS er c) := fun b hb => by
  obtain ⟨m1, m2, eb⟩ := isErr_get hb
  obtain ⟨oe, Cl, ea, mk⟩ := C.ea
  obtain ⟨D, fI, T⟩ := C.t
  obtain ⟨Cc, mc, -⟩ := T.cls c m2
  obtain ⟨C1, mk1, E1⟩ := T.cls er.k m1
  have e1 : C1 = Cl := by rw [mk] at mk1; cases mk1; rfl
  subst e1
  have kp := T.pair _ _ _ _ m1 m2 mk mc
  obtain ⟨gl, db⟩ := glbB_gl C.c.s hg
  obtain ⟨gc, dc⟩ := glbB_gl C.c.s hc
  refine (pe_callB (HX.call_isH ea E1.exc) gl hm (by decide +kernel) (pa_cons (pe_xcH C.c hv hs) (pa_cons (pe_glob gc mc (v := .ref Cc) rfl dc) pa_nil s2) s1) (by decide) db s1 hp).imp fun σ H Q ⟨F, I, ps, R, q⟩ => ⟨F, I, ps, R, fun hd => ?_⟩
  refine ⟨.ref Cc, .ref Cc, b, _, rfl, hd, fun u r => r, by rw [eb]; exact kp, q _ H I Grow.refl R (.bl b)⟩
theorem ed_atH (C : CtxH X N sc KS a dd er) (hv : visB N sc i x = true) (hs : slAt G i = .st (.xc a dd er.a)) (hb : attributeBase (.Name x p1) "at" X.env (eval (.Name x p1) X.env) = eval (.Name x p1) X.env := by rfl) :
    ED X G (.Attribute (.Name x p1) "at" pos) (atErr KS er) := fun n hn => by
  obtain ⟨m1, en⟩ := atErr_get hn
  subst en
  obtain ⟨oe, Cl, ea, mk⟩ := C.ea
  obtain ⟨D, fI, T⟩ := C.t
  obtain ⟨C1, mk1, E1⟩ := T.cls er.k m1
  have e1 : C1 = Cl := by rw [mk] at mk1; cases mk1; rfl
  subst e1
  refine (HX.pe_xfH ea E1.xf E1.sub.noat (pe_xcH C.c hv hs) hb).imp fun σ H Q ⟨F, I, ps, R, q⟩ => ⟨F, I, ps, R, fun hd => ⟨rfl, _, .int er.a, hd, rfl, q _ H I Grow.refl R (.int _)⟩⟩
/-- sep.join(l) -/
def joinG (sep : Str) (l : List Str) : Option Str := if (l.map (·.length)).sum + l.length * sep.length ≤ 16777216 then some (Txt.join sep l) else none
theorem dqStrs : ∀ {I : Hp} {xs : List V} {l : List Str}, DqAll I xs (l.map enc) → xs = l.map V.str
  | _, _, [], h => by cases h; rfl
  | _, _, s :: l, h => by
    cases h with
    | cons h1 h2 =>
      have e1 := dqStrs h2
      cases h1
      rw [e1]; rfl
theorem ed_join {sep : Str} {j : Nat} {le : Expr} {ps1 apos : Pos} {ol : Option (List Str)} (he : EO X G le ol) (hs : starEach [le] X.env = [(false, eval le X.env)] := by rfl) (hbase : attributeBase (.Constant (.str sep) j ps1) "join" X.env (eval (.Constant (.str sep) j ps1) X.env) = eval (.Constant (.str sep) j ps1) X.env := by rfl) (hline : (apos.endLine == pos.line) = true := by rfl) :
    ED X G (.Call (.Attribute (.Constant (.str sep) j ps1) "join" apos) [le] [] pos) (ol.bind (joinG sep)) := fun t ht => by
  obtain ⟨l, h1, h2⟩ := bind_get ht
  unfold joinG at h2
  split at h2
  · rename_i hz
    cases h2
    have h0 : PE X (.Constant (.str sep) j ps1) (tD X.K G (enc sep)) := ed_str _ rfl
    refine (pe_join h0 (he l h1) hs hbase hline).imp fun σ H Q ⟨F, I, ps, R, q⟩ => ⟨F, I, ps, R, fun v H1 I1 g1 R1 d1 => ?_⟩
    cases d1
    refine ⟨⟨sep, rfl⟩, F, I1, ps, R1, fun pp xs H2 I2 g2 R2 n1 n2 n3 hH d2 => ?_⟩
    have ex := dqStrs d2
    subst ex
    exact ⟨sep, pp, l, rfl, rfl, .inl (SqL.of hH), hz, q _ H2 I2 (g1.trans g2) R2 (.str _)⟩
  · cases h2
end
section
variable {X : Cx} {G : List Sl} {S B R : Type} [Enc R] {P : S → List Sl} {PB : B → List Sl} {own : Rk} {rest : List Stmt} {N : List Str} {sc : Scope} {fs : Option Scope} {k i : Nat} {x : Str} {α β : Type} [Enc α] [Enc β] {e : Expr} {pos p : Pos}
theorem locB_okN (C : CtxN X N sc fs) (h : locB N sc fs i x = true) : X.N.Nodup ∧ X.N[i]? = some x ∧ L2.Loc X.env.scope x ∧ (X.fn x = true ∨ X.env.scope.names.lookup x = some .local) := by
  unfold locB at h
  simp only [Bool.and_eq_true, decide_eq_true_eq] at h
  obtain ⟨h1, h2⟩ := h
  rw [C.n, C.s, C.fn]
  refine ⟨C.nd, h1, ?_, ?_⟩
  · unfold L2.Loc; split at h2 <;> simp_all
  · split at h2 <;> simp_all
theorem sv_setH {oe : Option α} {kk : α → Option (Out S B R)} (C : CtxN X N sc fs) (hl : locB N sc fs i x = true) (he : ED X G e oe) (hk : ∀ v, SV X (G.set i (.dat (enc v))) rest P PB own (kk v))
    (hs : swapsWith e (some (.Name x p)) pos.line X.env = pure false := by rfl) : SV X G (.Assign [.Name x p] e pos :: rest) P PB own (oe.bind kk) := fun y hy => by
  obtain ⟨v, h1, h2⟩ := bind_get hy
  obtain ⟨a1, a2, a3, a4⟩ := locB_okN C hl
  exact (pss_cons (ps_set a1 a2 a3 (he v h1) hs a4) (hk v y h2)).imp fun D σ H ⟨F, I, ps, Rr, q⟩ => ⟨F, I, ps, Rr, fun w H1 I1 g R1 d => tS_after (H := H) (ps := ps) (σ := σ) g (R1.setDat d) q⟩
theorem pgNH (C : CtxN X N sc fs) (h : locB N sc fs i x = true) : PG X (.Name x pos) (gName i) :=
  let ⟨a1, a2, a3, a4⟩ := locB_okN C h
  pg_name a1 a2 a3 a4
end
/-! ### a comprehension over a list there -/
theorem pe_len {X : Cx} {e : Expr} {t : TE} (h : PE X e t) : PE X e (fun σ H Q => t σ H fun v H' => LenOk X.K H' → Q v H') := ⟨fun pins s σ H Q I q =>
  thn (h.run pins s σ H _ I q) fun v s1 ⟨x, H1, I1, r1, q1⟩ => ⟨x, H1, I1, r1, q1 (lenOk I1)⟩⟩
section
variable {X : Cx} {G : List Sl} {α β : Type} [Enc α] [Enc β] {g : L2.TG} {js vs : List Nat} {f : α → List Sl → List Sl} {oc : α → Option Bool} {oe : α → Option β}
def teL (K : PySem.W.Frag) (G : List Sl) (vs : List Nat) (f : α → List Sl → List Sl) (oe : α → Option β) : TE := fun σ H Q => ∃ x y, oe x = some y ∧ tD K (f x (wipeG G vs)) (enc y) σ H Q
def ttL (K : PySem.W.Frag) (G : List Sl) (vs : List Nat) (f : α → List Sl → List Sl) (oc : α → Option Bool) : TT := fun σ H Q => ∃ x b, oc x = some b ∧ tB K (f x (wipeG G vs)) b σ H Q
theorem lc_tr {l : List α} {r : List β} (ht : Tgt X.K g js f) (hj : ∀ j ∈ js, j ∈ vs) (hf : ownFree G vs = true) (h2 : lcL oc oe l = some r) (σ : L2.St) (H : Hp) (Q : VK) (t : tO X.K G (r.map enc) σ H Q) :
    tLc (tI X.K G (l.map enc)) g (ttL X.K G vs f oc) (teL X.K G vs f oe) vs σ H Q := by
  obtain ⟨F, I, ps, R, q⟩ := t
  refine ⟨F, I, ps, R, fun J H1 I1 gr1 R1 wl ll D hD => ?_⟩
  have ll : l.length ≤ sizeLine := by rw [List.length_map] at ll; exact ll
  have hD1 : I1 D = none := R1.si.free hD
  have hDF : F D = none := R1.sf.free hD
  have hDp : ∀ i, ps i ≠ some D := fun i c => by obtain ⟨_, _, xs, z⟩ := R1.own_at c; rw [hD] at z; cases z
  refine ⟨fun i m H => m = l.length - i ∧ i ≤ l.length ∧ ∃ I' xs done rst, Grow F I1 I' ∧ RS X.K F G σ H I' ps ∧ I' D = none ∧ H D = some (.lst xs) ∧ DqAll I' xs (done.map enc) ∧ done.length ≤ i ∧ lcL oc oe (l.drop i) = some rst ∧ r = done ++ rst,
    ⟨_, rfl, Nat.zero_le _, I1, [], [], r, Grow.refl, R1.newOwn hD, hD1, upd_same, .nil, Nat.le_refl _, h2, rfl⟩, ?_⟩
  rintro i m H3 ⟨rfl, hil, I3, xs, done, rst, gr3, R3, n3, hD3, d3, hlen, hr3, er⟩
  have sI : Same I1 H3 := gr3.same.trans R3.si
  by_cases hlt : i < l.length
  · have hx : l[i]? = some l[i] := List.getElem?_eq_getElem hlt
    obtain ⟨t, ht1, ht2⟩ := lcL_at hx hr3
    obtain ⟨go, yl⟩ := wl.go i (enc l[i]) H3 sI (by rw [List.getElem?_map, hx]; rfl)
    refine .inr ⟨go, fun H' => ∃ I' xs done rst, Grow F I1 I' ∧ RS X.K F G σ H' I' ps ∧ I' D = none ∧ H' D = some (.lst xs) ∧ DqAll I' xs (done.map enc) ∧ done.length ≤ i + 1 ∧ lcL oc oe (l.drop (i + 1)) = some rst ∧ r = done ++ rst,
      fun H' hN => ⟨l.length - (i + 1), by omega, rfl, hlt, hN⟩, fun x H4 y4 => ?_⟩
    have item : ∃ I4, Grow F I3 I4 ∧ RS X.K F G σ H4 I4 ps ∧ Dq I4 x (enc l[i]) ∧ I4 D = none ∧ H4 D = some (.lst xs) := by
      rcases yl x H4 y4 with ⟨e, d⟩ | ⟨T, o, n, e, d⟩
      · subst e; exact ⟨I3, Grow.refl, R3, Dq_mono gr3.same _ _ d, n3, hD3⟩
      · subst e
        have nT : D ≠ T := ne_of_none hD3 n
        refine ⟨upd I3 T o, R3.grow_new n, R3.new n, Dq_mono (fun b u q => ?_) _ _ d, by rw [upd_ne nT]; exact n3, by rw [upd_ne nT]; exact hD3⟩
        by_cases c : b = T
        · subst c; rw [upd_same] at q ⊢; exact q
        · rw [upd_ne c] at q ⊢; exact gr3.same _ _ q
    obtain ⟨I4, g4, R4, d4, n4, hD4⟩ := item
    have inner : ∀ {H' I'}, RS X.K F G σ H' I' ps → I' D = none → H' D = some (.lst xs) → RS X.K (upd F D (.lst xs)) G σ H' I' ps := fun {H' I'} r n h => r.frame (fun b o z => by
      by_cases c : b = D
      · subst c; rw [upd_same] at z; cases z; exact h
      · rw [upd_ne c] at z; exact r.sf _ _ z) (fun i a ha => by rw [upd_ne (fun c : a = D => hDp i (by rw [← c]; exact ha))]; exact r.fo i a ha) (upd_iff n) (fix_in hDF)
    have sF : Same F (upd F D (.lst xs)) := same_upd hDF
    have outer : ∀ {I' I''}, Grow (upd F D (.lst xs)) I' I'' → Grow F I' I'' := fun {I' I''} g => ⟨g.same, fun a h => (g.out a h).imp_right sF.free⟩
    have keepD : ∀ {I' I''}, Grow (upd F D (.lst xs)) I' I'' → I' D = none → I'' D = none := fun {I' I''} g n => by
      cases z : I'' D with
      | none => rfl
      | some o =>
        rcases g.out D (by rw [z]; simp) with h | h
        · exact absurd n h
        · rw [upd_same] at h; cases h
    have hpv := ownFree_ps R4 hf
    have Rw := (inner R4 n4 hD4).wiped vs hpv
    refine ht.go l[i] _ _ _ H4 I4 ps x _ Rw (fun j h => hpv j (hj j h)) d4 fun σ5 R5 w5 o5 => ⟨(w5 vs hj).trans wipe_wipe, ?_⟩
    have hG : ∀ (j : Nat) ds, slAt G j = .own ds → slAt (f (l[i]'hlt) (wipeG G vs)) j = .own ds ∧ j < (f (l[i]'hlt) (wipeG G vs)).length := fun j ds h => by
      have nv : j ∉ vs := fun z => by
        have q := List.all_eq_true.mp hf j z
        rw [h] at q; cases q
      have e : slAt (f (l[i]'hlt) (wipeG G vs)) j = .own ds := by rw [o5 j (fun z => nv (hj j z)), wipeG_out nv]; exact h
      refine ⟨e, ?_⟩
      by_cases c : j < (f (l[i]'hlt) (wipeG G vs)).length
      · exact c
      · rw [slAt_out (by omega)] at e; cases e
    refine ⟨l[i], t, ht1, upd F D (.lst xs), I4, ps, R5, fun H6 I6 g6 R6 => ?_⟩
    rcases ht2 with ⟨rfl, y, r', hy, er2, hr4⟩ | ⟨rfl, hr4⟩
    · refine iteT ⟨l[i], y, hy, upd F D (.lst xs), I6, ps, R6, fun v H7 I7 g7 R7 d7 => ?_⟩
      have g47 := outer (g6.trans g7)
      have hD7 : H7 D = some (.lst xs) := R7.sf _ _ upd_same
      have n7 : I7 D = none := keepD (g6.trans g7) n4
      have R8 := (R4.back R7 sF (g6.trans g7).same hG).wr (o := .lst (xs ++ [v])) n7 hDF hDp
      have lx : xs.length = done.length := by rw [d3.len, List.length_map]
      refine ⟨xs, hD7, by omega, I7, xs ++ [v], done ++ [y], r', gr3.trans (g4.trans g47), R8, n7, upd_same, ?_, by rw [List.length_append]; show done.length + 1 ≤ i + 1; omega, hr4, by rw [er, er2, List.append_assoc]; rfl⟩
      rw [List.map_append]
      exact (DqAll_mono (g4.trans g47).same _ _ d3).app (.cons d7 .nil)
    · have hD6 : H6 D = some (.lst xs) := R6.sf _ _ upd_same
      exact iteF ⟨I6, xs, done, rst, gr3.trans (g4.trans (outer g6)), R4.back R6 sF g6.same hG, keepD g6 n4, hD6, DqAll_mono (g4.trans (outer g6)).same _ _ d3, by omega, hr4, er⟩
  · have e : i = l.length := by omega
    subst e
    rw [List.drop_length] at hr3
    cases hr3
    rw [List.append_nil] at er
    subst er
    have wst := wl.st H3 sI
    rw [List.length_map] at wst
    exact .inl ⟨wst, q D xs H3 I3 (gr1.trans gr3) R3 n3 hDF hDp hD3 d3⟩
theorem tLc_imp {wi wi' : TI} {tt : TT} {te : TE} (h : ∀ σ H R, wi' σ H R → wi σ H R) (σ : L2.St) (H : Hp) (Q : VK) (t : tLc wi' g tt te vs σ H Q) : tLc wi g tt te vs σ H Q := h _ _ _ t
variable {N : List Str} {sc : Scope} {fs : Option Scope} {k : Nat} {elt tg iter : Expr} {ifs : List Expr} {scope : Scope} {pos : Pos}
theorem eo_lcH {own : List (Str × Nat)} {ol : Option (List α)} (C : CtxN X N sc fs) (hot : HotC X) (hi : ED X G iter ol) (ok : blkC N sc scope own = true)
    (hg : ∀ s H Ca cl fp, HX.PGH (X.blk s H scope (compEnvC scope cl Ca X.env) fp) tg g) (ht : Tgt X.K g js f) (hj : ∀ j ∈ js, j ∈ own.map (·.2)) (hf : ownFree G (own.map (·.2)) = true)
    (hc : ∀ s H Ca cl fp x, ETs (X.blk s H scope (compEnvC scope cl Ca X.env) fp) (f x (wipeG G (own.map (·.2)))) ifs (oc x))
    (he : ∀ s H Ca cl fp x, ED (X.blk s H scope (compEnvC scope cl Ca X.env) fp) (f x (wipeG G (own.map (·.2)))) elt (oe x)) (hs : ∀ x, foldedSetIterable iter X.env x = pure x := by intro _; rfl) :
    EO X G (.ListComp elt [⟨tg, iter, ifs, 0⟩] scope pos) (ol.bind (lcL oc oe)) := fun r hr => by
  obtain ⟨l, h1, h2⟩ := bind_get hr
  have pe : ∀ s H Ca cl fp, PE (X.blk s H scope (compEnvC scope cl Ca X.env) fp) elt (teL X.K G (own.map (·.2)) f oe) := fun s H Ca cl fp => ⟨fun pins st σ H' Q I ⟨x, y, e, q⟩ => (he s H Ca cl fp x y e).run pins st σ H' Q I q⟩
  have pt : ∀ s H Ca cl fp, PTs (X.blk s H scope (compEnvC scope cl Ca X.env) fp) ifs (ttL X.K G (own.map (·.2)) f oc) := fun s H Ca cl fp => ⟨fun pins st σ H' Q I ⟨x, b, e, q⟩ => (hc s H Ca cl fp x b e).run pins st σ H' Q I q⟩
  have nd : X.N.Nodup := by rw [C.n]; exact C.nd
  have bk : BlkOk X.N X.env.scope scope own := by rw [C.n, C.s]; exact blkOk_by ok
  refine (HX.pe_lcH hot nd (pe_len (hi l h1)) bk hg pt pe hs).imp fun σ H Q t => tLc_imp (fun σ H R t => ?_) σ H Q (lc_tr ht hj hf h2 σ H Q t)
  obtain ⟨F, I, ps, r, q⟩ := t
  refine ⟨F, I, ps, r, fun v H' I' g r' d lo => ?_⟩
  cases d with
  | lst k1 k2 =>
    exact ⟨_, rfl, ⟨_, (.inl (rd_mono r'.si k1))⟩, q _ _ I' g r' (wlk_list k1 k2 fun _ _ _ _ _ => trivial) (by rw [← k2.len]; exact (lo _ _).1 (.inl (rd_mono r'.si k1)))⟩
end
/-! ### the def, by its body -/
def xcG (n : Nat) (a dd : Addr) (m : Int) : List Sl := .st (.xc a dd m) :: List.replicate (n - 1) .un
theorem bodyw_of {R : Type} [Enc R] {P : Program} {w : World} {K : PySem.W.Frag} {mg : Str → Option Value} {base : Heap} {N : List Str} {qual : Str} {scope : Scope} {f : Addr} {cdv : Value} {k n : Nat} {body : List Stmt} {KS : List Str} {D fI : Addr} {x : Str} {b : Er → Option (Out Unit Unit R)}
    (hN : N.length = n) (h1 : 1 ≤ n) (S : FnScope N [x] scope) (T : ErrT K mg D fI KS)
    (hb : ∀ (X : Cx) (a dd : Addr) (er : Er), X.K = K → X.mg = mg → CtxH X N scope KS a dd er → SV X (xcG n a dd er.a) body (fun _ : Unit => List.replicate n .un) (fun _ : Unit => List.replicate n .un) ⟨.dd, false⟩ (b er)) :
    BodyW P w K mg base N qual scope f cdv k body (fun er => finO none (b er)) := by
  intro A outer s H Q a Cl dd oe er r I hot rm hz mk hx hr si q
  obtain ⟨ea, hc⟩ := body_err (P := P) (w := w) (K := K) (mg := mg) (base := base) (N := N) (qual := qual) (scope := scope) (f := f) (cdv := cdv) (A := A) (outer := outer) (s := s) (H := H) hot hz
  have C : CtxH (cxH CX0 P w K mg base N qual scope f cdv A outer s H E0 (a, oe)) N scope KS a dd er := ⟨⟨rfl, rfl, S.kind, S.nd, rfl⟩, hc, ⟨oe, Cl, ea, mk⟩, ⟨D, fI, T⟩⟩
  have h := hb _ a dd er rfl rfl C
  obtain ⟨o, ho, hf⟩ := bind_get hr
  refine ⟨_, h o ho, H, I, (fun _ => none), ?_, ?_⟩
  · have R1 := start_rs (K := K) (N := N) (n := n) (H := H) (I := I) (vs := [.int 0]) (ds := [.int 0]) hN h1 si (.cons (.int 0) .nil)
    refine ⟨R1.si, R1.sf, R1.fo, ?_, fun i hi => ?_, fun _ _ => rfl, R1.dis⟩
    · unfold xcG L2.start; simp; omega
    · cases i with
      | zero => exact ⟨some (.ref a), rfl, rfl, rfl, hx⟩
      | succ i =>
        have hl : (xcG n a dd er.a).length = (dats n [PyData.int 0]).length := by unfold xcG dats; simp
        obtain ⟨v, k1, k2⟩ := R1.sl (i + 1) (by rw [← hl]; exact hi)
        refine ⟨v, ?_, k2⟩
        rw [← k1]; rfl
  · cases o with
    | nx _ => cases hf
    | bk _ => cases hf
    | ct _ => cases hf
    | er _ => cases hf
    | rt r' =>
      have er2 : r' = r := Option.some.inj hf
      subst er2
      exact fun v H' I' g s1 s2 rr => q v H' I' s1 g s2 rr
end Lay

set_option Elab.async false
set_option linter.all false
set_option maxRecDepth 100000
/-! LayE6: own errors of a law, calls that are known to end well, more parameters. -/
namespace Lay
open PySem PySem.Spec PyProof.Rows L2 L2H
open Lay.Enc (enc)
/-- the own errors, made by the base's __init__ -/
structure ErrK (P : Program) (w : World) (K : PySem.W.Frag) (mg : Str → Option Value) (base : Heap) (KS : List Str) : Prop where
  ex : ∃ D fI fd, ErrT K mg D fI KS ∧ mg "WholeError" = some (.ref D) ∧ FnOk P w K mg base CX0 1 fI fd ["self", "at"] (HX.spIni K D) ∧ Binds K fd ["self", "at"] []
theorem ErrK.errC {X : Cx} {KS : List Str} {x : Str} {k : Nat} (E : ErrK X.prog X.w X.K X.mg X.base KS) (hx : x ∈ KS) (hk : 1 ≤ k) : ErrC X k x := by
  obtain ⟨D, fI, fd, T, _, F, B⟩ := E.ex
  obtain ⟨C, m, E1⟩ := T.cls x hx
  exact ⟨C, D, fI, fd, m, E1.sub, E1.ini, E1.tf, F.mono hk, B⟩
section
variable {X : Cx} {G : List Sl} {S B R : Type} [Enc R] {P : S → List Sl} {PB : B → List Sl} {own : Rk} {rest : List Stmt} {N : List Str} {sc : Scope} {fs : Option Scope} {k : Nat} {KS : List Str}
theorem sv_raiseK {x : Str} {e : Expr} {p pc pos : Pos} {oe : Option Int} (C : Ctx X N sc fs (k + 2)) (E : ErrK X.prog X.w X.K X.mg X.base KS) (hx : x ∈ KS) (hg : glbB sc x = true) (he : ED X G e oe) (hs : starEach [e] X.env = (false, eval e X.env) :: starEach [] X.env := by rfl) :
    SV X G (.Raise (some (.Call (.Name x p) [e] [] pc)) none pos :: rest) P PB own (oe.bind fun n => (some (.er ⟨x, n⟩) : Option (Out S B R))) := sv_raiseE C (E.errC hx (by omega)) hg he hs
end
/-! ### the answer of a call that does not raise -/
def noE {α : Type} (o : Option (Er ⊕ α)) : Option α := o.bind fun x => match x with
  | .inl _ => none
  | .inr a => some a
theorem noE_get {α : Type} {o : Option (Er ⊕ α)} {a : α} (h : noE o = some a) : o = some (.inr a) := by
  obtain ⟨x, h1, h2⟩ := bind_get h
  cases x with
  | inl e => cases h2
  | inr b => cases h2; exact h1
theorem cal_noE {P : Program} {w : World} {K : PySem.W.Frag} {mg : Str → Option Value} {base : Heap} {k : Nat} {x : Str} {ps : List Str} {own : Rq} {g : List PyData → Er ⊕ PyData → Prop} (c : Cal P w K mg base (L2N.CX P w) k x ps (spE K mg own g)) : Cal P w K mg base CX0 k x ps (spD K own fun ds r => g ds (.inr r)) := by
  obtain ⟨f, fd, F, h1, h2, h3⟩ := c.ex
  refine ⟨f, fd, ⟨fun vs H Q E ⟨ds, r, I, h⟩ => F.ar vs H Q E ⟨ds, .inr r, I, h⟩, fun A out s H args us vs Q E g' rm e0 bd rv ⟨ds, r, I, h⟩ => ?_⟩, h1, h2, h3⟩
  refine codeAny_mono (F.go A out s H args us vs Q (fun _ _ _ => False) g' rm e0 bd rv ⟨ds, .inr r, I, h⟩) fun r s2 hq => ?_
  match r, hq with
  | .error e, hq => obtain ⟨a, B, H', cls, d, _, _, _, _, _, _, _, z⟩ := hq; exact z.elim
  | .ok fl, hq => cases fl <;> exact hq
section
variable {α β γ δ ε ζ η ρ : Type} [Enc α] [Enc β] [Enc γ] [Enc δ] [Enc ε] [Enc ζ] [Enc η] [Enc ρ]
def app6 (m : α → β → γ → δ → ε → ζ → Option ρ) (a : Option α) (b : Option β) (c : Option γ) (d : Option δ) (e : Option ε) (f : Option ζ) : Option ρ := a.bind fun x => b.bind fun y => c.bind fun z => d.bind fun w => e.bind fun v => f.bind fun u => m x y z w v u
def app7 (m : α → β → γ → δ → ε → ζ → η → Option ρ) (a : Option α) (b : Option β) (c : Option γ) (d : Option δ) (e : Option ε) (f : Option ζ) (g : Option η) : Option ρ := a.bind fun x => b.bind fun y => c.bind fun z => d.bind fun w => e.bind fun v => f.bind fun u => g.bind fun t => m x y z w v u t
def g6 (m : α → β → γ → δ → ε → ζ → Option ρ) (ds : List PyData) (r : PyData) : Prop := ∃ a b c d e f y, ds = [enc a, enc b, enc c, enc d, enc e, enc f] ∧ m a b c d e f = some y ∧ r = enc y
def g7 (m : α → β → γ → δ → ε → ζ → η → Option ρ) (ds : List PyData) (r : PyData) : Prop := ∃ a b c d e f g y, ds = [enc a, enc b, enc c, enc d, enc e, enc f, enc g] ∧ m a b c d e f g = some y ∧ r = enc y
def gX1 (m : α → Option (Er ⊕ ρ)) (ds : List PyData) (r : Er ⊕ PyData) : Prop := ∃ a y, ds = [enc a] ∧ m a = some y ∧ r = encX y
def gX2 (m : α → β → Option (Er ⊕ ρ)) (ds : List PyData) (r : Er ⊕ PyData) : Prop := ∃ a b y, ds = [enc a, enc b] ∧ m a b = some y ∧ r = encX y
def gX3 (m : α → β → γ → Option (Er ⊕ ρ)) (ds : List PyData) (r : Er ⊕ PyData) : Prop := ∃ a b c y, ds = [enc a, enc b, enc c] ∧ m a b c = some y ∧ r = encX y
def gX4 (m : α → β → γ → δ → Option (Er ⊕ ρ)) (ds : List PyData) (r : Er ⊕ PyData) : Prop := ∃ a b c d y, ds = [enc a, enc b, enc c, enc d] ∧ m a b c d = some y ∧ r = encX y
def gX5 (m : α → β → γ → δ → ε → Option (Er ⊕ ρ)) (ds : List PyData) (r : Er ⊕ PyData) : Prop := ∃ a b c d e y, ds = [enc a, enc b, enc c, enc d, enc e] ∧ m a b c d e = some y ∧ r = encX y
variable {oa : Option α} {ob : Option β} {oc : Option γ} {od : Option δ} {oe : Option ε} {of : Option ζ} {og : Option η}
abbrev consE {α : Type} [Enc α] (a : Option α) (r : Option (List PyData)) : Option (List PyData) := lift2 (fun x ds => enc x :: ds) a r
theorem go6 {m : α → β → γ → δ → ε → ζ → Option ρ} (r : ρ) (h : app6 m oa ob oc od oe of = some r) : ∃ ds, consE oa (consE ob (consE oc (consE od (consE oe (consE of (some [])))))) = some ds ∧ g6 m ds (enc r) := by
  obtain ⟨x, h1, h⟩ := bind_get h
  obtain ⟨y, h2, h⟩ := bind_get h
  obtain ⟨z, h3, h⟩ := bind_get h
  obtain ⟨w, h4, h⟩ := bind_get h
  obtain ⟨v, h5, h⟩ := bind_get h
  obtain ⟨u, h6, h⟩ := bind_get h
  exact ⟨_, by rw [h1, h2, h3, h4, h5, h6]; rfl, x, y, z, w, v, u, r, rfl, h, rfl⟩
theorem go7 {m : α → β → γ → δ → ε → ζ → η → Option ρ} (r : ρ) (h : app7 m oa ob oc od oe of og = some r) : ∃ ds, consE oa (consE ob (consE oc (consE od (consE oe (consE of (consE og (some []))))))) = some ds ∧ g7 m ds (enc r) := by
  obtain ⟨x, h1, h⟩ := bind_get h
  obtain ⟨y, h2, h⟩ := bind_get h
  obtain ⟨z, h3, h⟩ := bind_get h
  obtain ⟨w, h4, h⟩ := bind_get h
  obtain ⟨v, h5, h⟩ := bind_get h
  obtain ⟨u, h6, h⟩ := bind_get h
  obtain ⟨t, h7, h⟩ := bind_get h
  exact ⟨_, by rw [h1, h2, h3, h4, h5, h6, h7]; rfl, x, y, z, w, v, u, t, r, rfl, h, rfl⟩
theorem goX1 {m : α → Option (Er ⊕ ρ)} (r : Er ⊕ ρ) (h : app1 m oa = some r) : ∃ ds, consE oa (some []) = some ds ∧ gX1 m ds (encX r) := by
  obtain ⟨x, h1, h⟩ := bind_get h
  exact ⟨_, by rw [h1]; rfl, x, r, rfl, h, rfl⟩
theorem goX2 {m : α → β → Option (Er ⊕ ρ)} (r : Er ⊕ ρ) (h : app2 m oa ob = some r) : ∃ ds, consE oa (consE ob (some [])) = some ds ∧ gX2 m ds (encX r) := by
  obtain ⟨x, h1, h⟩ := bind_get h
  obtain ⟨y, h2, h⟩ := bind_get h
  exact ⟨_, by rw [h1, h2]; rfl, x, y, r, rfl, h, rfl⟩
theorem goX3 {m : α → β → γ → Option (Er ⊕ ρ)} (r : Er ⊕ ρ) (h : app3 m oa ob oc = some r) : ∃ ds, consE oa (consE ob (consE oc (some []))) = some ds ∧ gX3 m ds (encX r) := by
  obtain ⟨x, h1, h⟩ := bind_get h
  obtain ⟨y, h2, h⟩ := bind_get h
  obtain ⟨z, h3, h⟩ := bind_get h
  exact ⟨_, by rw [h1, h2, h3]; rfl, x, y, z, r, rfl, h, rfl⟩
theorem goX4 {m : α → β → γ → δ → Option (Er ⊕ ρ)} (r : Er ⊕ ρ) (h : app4 m oa ob oc od = some r) : ∃ ds, consE oa (consE ob (consE oc (consE od (some [])))) = some ds ∧ gX4 m ds (encX r) := by
  obtain ⟨x, h1, h⟩ := bind_get h
  obtain ⟨y, h2, h⟩ := bind_get h
  obtain ⟨z, h3, h⟩ := bind_get h
  obtain ⟨w, h4, h⟩ := bind_get h
  exact ⟨_, by rw [h1, h2, h3, h4]; rfl, x, y, z, w, r, rfl, h, rfl⟩
theorem goX5 {m : α → β → γ → δ → ε → Option (Er ⊕ ρ)} (r : Er ⊕ ρ) (h : app5 m oa ob oc od oe = some r) : ∃ ds, consE oa (consE ob (consE oc (consE od (consE oe (some []))))) = some ds ∧ gX5 m ds (encX r) := by
  obtain ⟨x, h1, h⟩ := bind_get h
  obtain ⟨y, h2, h⟩ := bind_get h
  obtain ⟨z, h3, h⟩ := bind_get h
  obtain ⟨w, h4, h⟩ := bind_get h
  obtain ⟨v, h5, h⟩ := bind_get h
  exact ⟨_, by rw [h1, h2, h3, h4, h5]; rfl, x, y, z, w, v, r, rfl, h, rfl⟩
/-- .. where the error is none -/
theorem goN1 {m : α → Option (Er ⊕ ρ)} (r : ρ) (h : noE (app1 m oa) = some r) : ∃ ds, consE oa (some []) = some ds ∧ gX1 m ds (.inr (enc r)) := goX1 (.inr r) (noE_get h)
theorem goN2 {m : α → β → Option (Er ⊕ ρ)} (r : ρ) (h : noE (app2 m oa ob) = some r) : ∃ ds, consE oa (consE ob (some [])) = some ds ∧ gX2 m ds (.inr (enc r)) := goX2 (.inr r) (noE_get h)
theorem goN3 {m : α → β → γ → Option (Er ⊕ ρ)} (r : ρ) (h : noE (app3 m oa ob oc) = some r) : ∃ ds, consE oa (consE ob (consE oc (some []))) = some ds ∧ gX3 m ds (.inr (enc r)) := goX3 (.inr r) (noE_get h)
theorem goN4 {m : α → β → γ → δ → Option (Er ⊕ ρ)} (r : ρ) (h : noE (app4 m oa ob oc od) = some r) : ∃ ds, consE oa (consE ob (consE oc (consE od (some [])))) = some ds ∧ gX4 m ds (.inr (enc r)) := goX4 (.inr r) (noE_get h)
theorem goN5 {m : α → β → γ → δ → ε → Option (Er ⊕ ρ)} (r : ρ) (h : noE (app5 m oa ob oc od oe) = some r) : ∃ ds, consE oa (consE ob (consE oc (consE od (consE oe (some []))))) = some ds ∧ gX5 m ds (.inr (enc r)) := goX5 (.inr r) (noE_get h)
end
/-! ### the error's class is the base's -/
theorem exm_of {P : Program} {w : World} {K : PySem.W.Frag} {mg : Str → Option Value} {base : Heap} {KS : List Str} (E : ErrK P w K mg base KS) : ∃ D, mg "WholeError" = some (.ref D) ∧ ∀ e : Er, e.k ∈ KS → ∀ Cl, mg e.k = some (.ref Cl) → PySem.W.exmOne K (.ref Cl) (.ref D) = some true := by
  obtain ⟨D, fI, fd, T, hD, _, _⟩ := E.ex
  refine ⟨D, hD, fun e he Cl hc => ?_⟩
  obtain ⟨C, m, E1⟩ := T.cls e.k he
  rw [hc] at m; cases m
  exact E1.exm
/-- the suite's mirror, where the error is known -/
def inK {R : Type} (KS : List Str) (mw : Er → Option R) (e : Er) : Option R := if e.k ∈ KS then mw e else none
theorem inK_get {R : Type} {KS : List Str} {mw : Er → Option R} {e : Er} {r : R} (h : inK KS mw e = some r) : e.k ∈ KS ∧ mw e = some r := by
  unfold inK at h
  split at h
  · rename_i q
    exact ⟨q, h⟩
  · cases h
theorem Ctx.tr {X : Cx} {N : List Str} {sc : Scope} {fs : Option Scope} {k : Nat} (C : Ctx X N sc fs k) {pn : List (Addr × Obj)} {xe : Value → Shared → Prop} (px : PassesOwn (model X.prog X.w) X.A X.env xe) : Ctx (X.tr pn xe) N sc fs k :=
  ⟨C.n, C.s, C.fk, C.calm, C.nd, C.gd, C.rm, px, C.fn⟩
end Lay

set_option Elab.async false
set_option linter.all false
set_option maxRecDepth 100000
/-! LayE7: try: .. except WholeError as e: return w(e), as a rule of the def's block. -/
namespace Lay
open PySem PySem.Spec PyProof.Rows L2 L2H
open Lay.Enc (enc)
theorem FnW.imp {R R' : Type} [Enc R] [Enc R'] {P : Program} {w : World} {K : PySem.W.Frag} {mg : Str → Option Value} {base : Heap} {k : Nat} {f : Addr} {fd : FuncData} {prm : List Str} {mw : Er → Option R} {mw2 : Er → Option R'} (F : FnW P w K mg base k f fd prm mw) (h : ∀ e r, mw2 e = some r → ∃ r', mw e = some r' ∧ enc r = enc r') : FnW P w K mg base k f fd prm mw2 :=
  ⟨F.one, fun A outer s H args us Q a Cl dd oe e r I rm hot po hz e0 bd rv mk hx hr si q => by
    obtain ⟨r', h1, h2⟩ := h e r hr
    exact F.run A outer s H args us Q a Cl dd oe e r' I rm hot po hz e0 bd rv mk hx h1 si (fun v H' I' s g s2 d => q v H' I' s g s2 (by rw [h2]; exact d))⟩
theorem FnW.up {R : Type} [Enc R] {P : Program} {w : World} {K : PySem.W.Frag} {mg : Str → Option Value} {base : Heap} {j k : Nat} {f : Addr} {fd : FuncData} {prm : List Str} {mw : Er → Option R} (F : FnW P w K mg base j f fd prm mw) (h : j ≤ k) : FnW P w K mg base k f fd prm mw :=
  ⟨F.one, fun A outer s H args us Q a Cl dd oe e r I rm => F.run A outer s H args us Q a Cl dd oe e r I (rm.mono h)⟩
/-- the def w, called with the error that is handled -/
structure CalW {R : Type} [Enc R] (P : Program) (w : World) (K : PySem.W.Frag) (mg : Str → Option Value) (base : Heap) (k : Nat) (x : Str) (prm : List Str) (mw : Er → Option R) : Prop where
  ex : ∃ f fd, FnW P w K mg base k f fd prm mw ∧ mg x = some (.ref f) ∧ PySem.W.keepIn K (.ref f) = true ∧ Binds K fd prm []
/-- try: ob / except: return mw -/
def tryO {S S' B R : Type} (ob : Option (Out S' B R)) (mw : Er → Option R) (kk : S' → Option (Out S B R)) : Option (Out S B R) := ob.bind fun o => match o with
  | .nx s => kk s
  | .bk b => some (.bk b)
  | .ct b => some (.ct b)
  | .rt r => some (.rt r)
  | .er e => (mw e).map .rt
/-- what a def's own context has -/
structure TopX (X : Cx) : Prop where
  st : X.stack = X.env :: X.outer
  fr : X.env.frame = some X.env.locals
theorem kind_of {X : Cx} {N : List Str} {sc : Scope} {fs : Option Scope} {k : Nat} {n : Str} (C : Ctx X N sc fs k) (h : sc.names.lookup n = some .local) : X.env.kindOf n = some .local := by
  show X.env.scope.names.lookup n = _
  rw [C.s]; exact h
theorem hw_id {R : Type} [Enc R] {KS : List Str} {mw : Er → Option R} (e : Er) (r : R) (h : inK KS mw e = some r) : e.k ∈ KS ∧ ∃ r', mw e = some r' ∧ enc r = enc r' := ⟨(inK_get h).1, r, (inK_get h).2, rfl⟩
theorem hw_opt {R : Type} [Enc R] {KS : List Str} {mw : Er → Option R} (e : Er) (r : Option R) (h : lift1 some (inK KS mw e) = some r) : e.k ∈ KS ∧ ∃ r', mw e = some r' ∧ enc r = enc r' := by
  obtain ⟨x, h1, h2⟩ := lift1_get h
  subst h2
  exact ⟨(inK_get h1).1, x, (inK_get h1).2, rfl⟩
section
variable {X : Cx} {G : List Sl} {S S' B R R' : Type} [Enc R] [Enc R'] {P : S → List Sl} {P' : S' → List Sl} {PB : B → List Sl} {rest : List Stmt} {N : List Str} {sc : Scope} {fs : Option Scope} {k j i : Nat} {w n : Str} {np pos pos' p2 p3 p4 p5 : Pos} {body : List Stmt} {KS : List Str} {prm : List Str}
theorem sv_tryW {ob : Option (Out S' B R)} {kk : S' → Option (Out S B R)} {mw : Er → Option R'} {mw2 : Er → Option R} (C : Ctx X N sc fs k) (T : TopX X) (E : ErrK X.prog X.w X.K X.mg X.base KS) (W : CalW X.prog X.w X.K X.mg X.base j w prm mw) (hj : j ≤ k)
    (hw : ∀ e r, mw2 e = some r → e.k ∈ KS ∧ ∃ r', mw e = some r' ∧ enc r = enc r') (hv : visB N sc i n = true) (hl : sc.names.lookup n = some .local) (hgE : glbB sc "WholeError" = true) (hgw : glbB sc w = true)
    (hb : ∀ (pn : List (Addr × Obj)) (xe : Value → Shared → Prop), PassesOwn (model X.prog X.w) X.A X.env xe → SV (X.tr pn xe) G body P' PB ⟨.dd, false⟩ ob)
    (hk : ∀ s, SV X (P' s) rest P PB ⟨.dd, false⟩ (kk s)) :
    SV X G (.Try body [.ExceptHandler (some (.Name "WholeError" np)) (some n) [.Return (some (.Call (.Name w p2) [.Name n p3] [] p4)) p5] pos'] [] [] pos :: rest) P PB ⟨.dd, false⟩ (tryO ob mw2 kk) := by
  obtain ⟨D, hD, hx⟩ := exm_of E
  obtain ⟨f, fd, F, hm, hkp, hbd⟩ := W.ex
  obtain ⟨gE, dE⟩ := glbB_gl C.s hgE
  obtain ⟨gw, dw⟩ := glbB_gl C.s hgw
  have h2 := hv
  unfold visB at h2
  simp only [Bool.and_eq_true, decide_eq_true_eq, Bool.not_eq_true'] at h2
  obtain ⟨⟨⟨h1, h2⟩, h3⟩, h4⟩ := h2
  have hvis : Vis X.env.scope n := by
    rw [C.s]; exact .inl hl
  exact sv_tryE (c := .ref D) (i := i) C T.st T.fr (by rw [C.n]; exact h1) (kind_of C hl) ⟨gE, dE, .inl hD⟩ hb (fun e r h Cl hc => hx e (hw e r h).1 Cl hc)
    (fun a oe cls d pn hz hf => suite_ok C (by rw [C.n]; exact h1) hvis ((F.imp fun e r h => (hw e r h).2).up hj) hm hkp hbd gw h3 h4 dw a oe cls d pn hz hf) hk
end
/-! ### defs with a try -/
section
variable {P : Program} {w : World} {K : PySem.W.Frag} {mg : Str → Option Value} {base : Heap} {x : Str} {st : Stmt} {f : Addr} {fd : FuncData} {N prm : List Str} {k : Nat} {own : Rq}
theorem ok_defT {g : List PyData → PyData → Prop} {qual : Str} (F : Fun K x qual st f fd) (S : FnScope N prm (defScope st)) (ar : ∀ ds r, g ds r → ds.length = prm.length) (n : Nat) (hN : N.length = n) (hp : prm.length ≤ n)
    (body : AnyX P w K mg base N (defScope st) k fun X => TopX X → ∀ ds r, g ds r → PSs X (defBody st) (tBody X.K (dats n ds) own r)) : FnG P w K mg base CX0 (k + 1) f fd prm (spD K own g) := by
  refine fnG F S (fun vs H Q E ⟨ds, r, I, h1, _, h2, _⟩ => by rw [← ar ds r h1]; exact h2.len) fun cd A out s H vs Q E gd rm ⟨ds, r, I, h1, hi, h2, q⟩ => ?_
  refine ⟨_, body _ rfl rfl rfl rfl rfl (ctx_of S gd rm) ⟨rfl, rfl⟩ ds r h1, H, I, _, start_rs hN (by rw [ar ds r h1]; exact hp) hi h2, fun v H' I' g s1 s2 rr => ⟨fun e σ' => ?_, q v H' I' s1 g s2 rr⟩⟩
  subst e
  exact q .non H' I' s1 g s2 rr
/-- the def that tells of the error -/
theorem calW_of {R : Type} [Enc R] {KS : List Str} {D fI : Addr} {n : Nat} {y : Str} {b : Er → Option (Out Unit Unit R)} (F : Fun K x x st f fd) (S : FnScope N [y] (defScope st)) (hN : N.length = n) (h1 : 1 ≤ n) (T : ErrT K mg D fI KS) (hm : mg x = some (.ref f))
    (hb : ∀ (X : Cx) (a dd : Addr) (er : Er), X.K = K → X.mg = mg → CtxH X N (defScope st) KS a dd er → SV X (xcG n a dd er.a) (defBody st) (fun _ : Unit => List.replicate n .un) (fun _ : Unit => List.replicate n .un) ⟨.dd, false⟩ (b er)) (hk : PySem.W.keepIn K (.ref f) = true) (hbd : Binds K fd [y] []) :
    CalW P w K mg base (k + 1) x [y] (fun er => finO none (b er)) := by
  obtain ⟨oc, od, kv, dc, pm, an, cd, ct, sl, e, lk, hc⟩ := F.ex
  subst e
  exact ⟨f, _, fnw_of lk hc S (bodyw_of hN h1 S T hb), hm, hk, hbd⟩
end
end Lay

set_option Elab.async false
set_option linter.all false
set_option maxRecDepth 100000
/-! LayE8: a law's own errors from what the written part tells; what is asked of mirrors that raise. -/
namespace Lay
open PySem PySem.Spec PyProof.Rows L2 L2H
open Lay.Enc (enc)
/-- the classes above a direct subclass of the base at D -/
def mroE (C D : Addr) : List Value := .ref C :: .ref D :: [.type "ValueError", .type "Exception", .type "BaseException", .type "object"]
structure EcF (K : PySem.W.Frag) (D fI C : Addr) : Prop where
  cls : ∃ nm q N bs sn sub ab col dd k0 k1 k2 k3 k5, K.lookup C = some (excClassObj nm q C N bs [.ref D, .type "ValueError", .type "Exception", .type "BaseException", .type "object"] true sn sub ab col dd k0 k1 k2 k3 k5 "ValueError.__new__")
  sa : PySem.W.findIn K (.ref C) "__setattr__" = some (some (.builtin "object.__setattr__"))
  ga : PySem.W.findIn K (.ref C) "__getattribute__" = some (some (.builtin "BaseException.__getattribute__"))
  gg : PySem.W.findIn K (.ref C) "__getattr__" = some none
  cl : PySem.W.findIn K (.ref C) "__class__" = some (some (.builtin "object.__class__"))
  na : PySem.W.findIn K (.ref C) "at" = some none
  ini : PySem.W.findIn K (.ref C) "__init__" = some (some (.ref fI))
  kC : PySem.W.keepIn K (.ref C) = true
  tC : PySem.W.typeIn K (.ref C) = some (.type "type")
  hd : PySem.W.hasDictIn K C = true
/-- what is told of the base, and of all -/
structure EbF (K : PySem.W.Frag) (D fI : Addr) : Prop where
  tf : PySem.W.typeIn K (.ref fI) = some (.type "function")
  any : PySem.W.nsIn K cStatics "thirdparty.any" = some none
  gs : PySem.W.specialIn K (.builtin "object.__class__") "__get__" = some (some (.builtin "getset_descriptor.__get__"))
  tk : PySem.W.takesIn K (.builtin "object.__class__") = some true
  dB : PySem.W.subIn K (.ref D) (.type "BaseException") = some true
  dc : PySem.W.isClsIn K D = true
  dt : PySem.W.typeIn K (.ref D) = some (.type "type")
section
variable {K : PySem.W.Frag} {D fI C : Addr}
theorem EcF.clsIn (F : EcF K D fI C) : ∃ cd, PySem.W.clsIn K C = some cd ∧ cd.mro = mroE C D := by
  obtain ⟨nm, q, N, bs, sn, sub, ab, col, dd, k0, k1, k2, k3, k5, h⟩ := F.cls
  exact ⟨{ name := nm, bases := bs, mro := .ref C :: _, ns := N, qualname := q, hasDict := true, slotNames := sn, subclasses := sub, abstract := ab, collection := col, hasDel := false }, by unfold PySem.W.clsIn; rw [h] <;> rfl, rfl⟩
theorem EcF.mro (F : EcF K D fI C) (b : Value) : PySem.W.mroIn K C b = some ((mroE C D).contains b) := by
  obtain ⟨cd, h, e⟩ := F.clsIn
  unfold PySem.W.mroIn
  rw [h]
  show (if cd.mro.isEmpty then none else some (cd.mro.contains b)) = _
  rw [e]; rfl
theorem ref_ne {a b : Addr} (h : a ≠ b) : (Value.ref a == Value.ref b) = false := by
  have := HotX.ref_bne h
  simpa [bne] using this
theorem ref_eq {a : Addr} : (Value.ref a == Value.ref a) = true := by simp
theorem ec1_of (F : EcF K D fI C) (B : EbF K D fI) (hne : C ≠ D) : EC1 K D fI C := by
  have ve : PySem.W.subIn K (.ref C) (.type "ValueError") = some true := by
    show PySem.W.mroIn K C _ = _
    rw [F.mro]; simp [mroE]
  have be : PySem.W.subIn K (.ref C) (.type "BaseException") = some true := by
    show PySem.W.mroIn K C _ = _
    rw [F.mro]; simp [mroE]
  have sd : PySem.W.mroIn K C (.ref D) = some true := by
    rw [F.mro]; simp [mroE]
  have ob : PySem.W.mroIn K C (.type "object") = some true := by
    rw [F.mro]; simp [mroE]
  obtain ⟨nm, q, N, bs, sn, sub, ab, col, dd, k0, k1, k2, k3, k5, h⟩ := F.cls
  have oex : OexC K C := ⟨⟨nm, q, N, bs, _, sn, sub, ab, col, dd, k0, k1, k2, k3, k5, h, by rfl⟩, F.sa, be, F.tC, F.kC⟩
  refine ⟨⟨oex, sd, ve, ?_, B.any, F.na⟩, ⟨F.ga, F.gg, be, F.hd, F.cl, B.gs, B.tk, ob⟩, ⟨F.ga, F.gg, be, F.hd⟩, F.ini, B.tf, ?_⟩
  · obtain ⟨cd, h1, h2⟩ := F.clsIn
    unfold PySem.W.ks_superIn
    rw [h1]
    show PySem.W.alongIn K "__init__" ((cd.mro.dropWhile (· != .ref D)).drop 1) = _
    rw [h2]
    have e : (mroE C D).dropWhile (· != .ref D) = (mroE C D).drop 1 := by
      unfold mroE
      rw [List.dropWhile_cons_of_pos (by simp [HotX.ref_bne hne]), List.dropWhile_cons_of_neg (by simp)]
      rfl
    rw [e]
    show PySem.W.alongIn K "__init__" [.type "ValueError", .type "Exception", .type "BaseException", .type "object"] = _
    have e2 : PySem.W.ownIn K "__init__" (.type "ValueError") = some (some (.builtin "ValueError.__init__")) := by
      show some (fastBuiltinOwn "ValueError" "__init__") = _
      kernel_rfl
    unfold PySem.W.alongIn
    rw [e2]
  · have e1 : (PySem.W.subIn K (.ref D) (.type "BaseException") == some true) = true := by rw [B.dB] <;> rfl
    have dc : (PySem.W.clsIn K D).isSome = true := B.dc
    have e2 : ((PySem.W.clsIn K D).isSome && PySem.W.typeIn K (.ref D) == some (.type "type")) = true := by rw [dc, B.dt] <;> rfl
    show (if (PySem.W.subIn K (.ref D) (.type "BaseException") == some true) = true then (if ((PySem.W.clsIn K D).isSome && PySem.W.typeIn K (.ref D) == some (.type "type")) = true then PySem.W.subIn K (.ref C) (.ref D) else none) else none) = some true
    rw [if_pos e1, if_pos e2]
    exact sd
theorem kit_pair {A B : Addr} (FA : EcF K D fI A) (FB : EcF K D fI B) (hB : B ≠ D) : PySem.W.kitOne K (.ref A) (.ref B) = some (decide (A = B)) := by
  unfold PySem.W.kitOne
  by_cases c : A = B
  · subst c
    rw [if_pos ref_eq, decide_eq_true rfl]
  · rw [if_neg (by rw [ref_ne c]; simp), decide_eq_false c]
    obtain ⟨cd, h1, _⟩ := FB.clsIn
    show (if ((PySem.W.clsIn K B).isSome && PySem.W.typeIn K (.ref B) == some (.type "type")) = true then PySem.W.subIn K (.ref A) (.ref B) else none) = _
    rw [if_pos (by rw [h1, FB.tC] <;> rfl)]
    show PySem.W.mroIn K A (.ref B) = _
    rw [FA.mro]
    unfold mroE
    have n1 : ¬ B = A := fun e => c e.symm
    simp [n1, hB]
end
theorem errT_of {K : PySem.W.Frag} {mg : Str → Option Value} {D fI : Addr} (CS : List (Str × Addr)) (B : EbF K D fI) (hm : ∀ p, p ∈ CS → mg p.1 = some (.ref p.2) ∧ EcF K D fI p.2) (nd : (D :: CS.map Prod.snd).Nodup) : ErrT K mg D fI (CS.map Prod.fst) := by
  have hD : ∀ p, p ∈ CS → p.2 ≠ D := fun p hp e => (List.nodup_cons.mp nd).1 (List.mem_map.mpr ⟨p, hp, e⟩)
  have inj : ∀ p q, p ∈ CS → q ∈ CS → p.2 = q.2 → p = q := by
    have nd2 := (List.nodup_cons.mp nd).2
    clear hD hm nd
    induction CS with
    | nil => intro p q hp; cases hp
    | cons c r ih =>
      obtain ⟨h1, h2⟩ := List.nodup_cons.mp nd2
      intro p q hp hq e
      rcases List.mem_cons.mp hp with e1 | hp'
      · rcases List.mem_cons.mp hq with e2 | hq'
        · rw [e1, e2]
        · exact absurd (List.mem_map.mpr ⟨q, hq', by rw [← e, e1]⟩) h1
      · rcases List.mem_cons.mp hq with e2 | hq'
        · exact absurd (List.mem_map.mpr ⟨p, hp', by rw [e, e2]⟩) h1
        · exact ih h2 p q hp' hq' e
  refine ⟨fun n hn => ?_, fun a b A A' ha hb ea eb => ?_⟩
  · obtain ⟨p, hp, rfl⟩ := List.mem_map.mp hn
    exact ⟨p.2, (hm p hp).1, ec1_of (hm p hp).2 B (hD p hp)⟩
  · obtain ⟨p, hp, rfl⟩ := List.mem_map.mp ha
    obtain ⟨q, hq, rfl⟩ := List.mem_map.mp hb
    rw [(hm p hp).1] at ea; cases ea
    rw [(hm q hq).1] at eb; cases eb
    rw [kit_pair (hm p hp).2 (hm q hq).2 (hD q hq)]
    congr 1
    by_cases c : p.2 = q.2
    · have := inj p q hp hq c
      subst this
      simp
    · rw [decide_eq_false c, decide_eq_false]
      intro e
      refine c ?_
      have h1 := (hm p hp).1
      rw [e, (hm q hq).1] at h1
      exact (Value.ref.inj (Option.some.inj h1)).symm
theorem cal_ofX {P : Program} {w : World} {K : PySem.W.Frag} {mg : Str → Option Value} {base : Heap} {CX : CXT} {k : Nat} {x qual : Str} {st : Stmt} {f : Addr} {fd : FuncData} {ps : List Str} {sp : Sp} (F : FnG P w K mg base CX k f fd ps sp) (H : Fun K x qual st f fd) (hm : mg x = some (.ref f)) (hb : Binds K fd ps []) : Cal P w K mg base CX k x ps sp := ⟨f, fd, F, hm, H.kp, hb⟩
/-! ### what is asked -/
section
variable {α β S S' B R : Type}
theorem ok_outX {o : Option (Er ⊕ α)} {k : α → Option (Out S B R)} {P : Out S B R → Prop} : Ok (outX o k) P ↔ Ok o fun x => match x with | .inl e => P (.er e) | .inr a => Ok (k a) P := by
  unfold outX bindX
  rw [ok_bind]
  constructor <;> intro ⟨x, e, h⟩ <;> refine ⟨x, e, ?_⟩ <;> cases x <;> simpa [ok_some] using h
theorem ok_noE {o : Option (Er ⊕ α)} {P : α → Prop} : Ok (noE o) P ↔ Ok o fun x => match x with | .inl _ => False | .inr a => P a := by
  unfold noE
  rw [ok_bind]
  constructor <;> intro ⟨x, e, h⟩ <;> refine ⟨x, e, ?_⟩ <;> cases x
  · obtain ⟨_, c, _⟩ := h; cases c
  · simpa [ok_some] using h
  · exact h.elim
  · simpa [ok_some] using h
theorem ok_tryO {o : Option (Out S' B R)} {mw : Er → Option R} {k : S' → Option (Out S B R)} {P : Out S B R → Prop} : Ok (tryO o mw k) P ↔ Ok o fun x => match x with | .nx s => Ok (k s) P | .bk b => P (.bk b) | .ct b => P (.ct b) | .rt r => P (.rt r) | .er e => Ok (mw e) fun r => P (.rt r) := by
  unfold tryO
  rw [ok_bind]
  constructor <;> intro ⟨x, e, h⟩ <;> refine ⟨x, e, ?_⟩ <;> cases x <;> try (simpa [ok_some] using h)
  · obtain ⟨y, h1, h2⟩ := h
    obtain ⟨r, h3, h4⟩ := Option.map_eq_some_iff.mp h1
    subst h4
    exact ⟨r, h3, h2⟩
  · obtain ⟨r, h3, h4⟩ := h
    exact ⟨.rt r, by show (mw _).map _ = _; rw [h3]; rfl, h4⟩
/-- what is asked of the end of a def that raises -/
def FX (d : Option R) (P : Er ⊕ R → Prop) : Out Unit Unit R → Prop
  | .nx _ => ∃ x, d = some x ∧ P (.inr x)
  | .rt r => P (.inr r)
  | .er e => P (.inl e)
  | _ => False
theorem ok_finX {d : Option R} {o : Option (Out Unit Unit R)} {P : Er ⊕ R → Prop} : Ok (finX d o) P ↔ Ok o (FX d P) := by
  unfold finX
  rw [ok_bind]
  constructor <;> intro ⟨x, e, h⟩ <;> refine ⟨x, e, ?_⟩ <;> cases x
  · obtain ⟨y, h1, h2⟩ := h
    obtain ⟨r, h3, h4⟩ := Option.map_eq_some_iff.mp h1
    subst h4
    exact ⟨r, h3, h2⟩
  · obtain ⟨y, h1, h2⟩ := h; cases h1
  · obtain ⟨y, h1, h2⟩ := h; cases h1
  · obtain ⟨y, h1, h2⟩ := h; cases h1; exact h2
  · obtain ⟨y, h1, h2⟩ := h; cases h1; exact h2
  · obtain ⟨r, h3, h4⟩ := h
    exact ⟨.inr r, by show d.map _ = _; rw [h3]; rfl, h4⟩
  · exact h.elim
  · exact h.elim
  · exact ⟨_, rfl, h⟩
  · exact ⟨_, rfl, h⟩
theorem ok_app6 {α β γ δ ε ζ ρ : Type} [Enc α] [Enc β] [Enc γ] [Enc δ] [Enc ε] [Enc ζ] {m : α → β → γ → δ → ε → ζ → Option ρ} {a : Option α} {b : Option β} {c : Option γ} {d : Option δ} {e : Option ε} {f : Option ζ} {P : ρ → Prop} : Ok (app6 m a b c d e f) P ↔ Ok a fun x => Ok b fun y => Ok c fun z => Ok d fun w => Ok e fun v => Ok f fun u => Ok (m x y z w v u) P := by unfold app6; simp only [ok_bind]
theorem ok_app7 {α β γ δ ε ζ η ρ : Type} {m : α → β → γ → δ → ε → ζ → η → Option ρ} {a : Option α} {b : Option β} {c : Option γ} {d : Option δ} {e : Option ε} {f : Option ζ} {g : Option η} {P : ρ → Prop} : Ok (app7 m a b c d e f g) P ↔ Ok a fun x => Ok b fun y => Ok c fun z => Ok d fun w => Ok e fun v => Ok f fun u => Ok g fun t => Ok (m x y z w v u t) P := by unfold app7; simp only [ok_bind]
end
end Lay

set_option Elab.async false
set_option linter.all false
set_option maxRecDepth 100000
/-! LayL: a or b as a value; a list that stands, times a number. -/
namespace Lay
open PySem PySem.Spec PyProof.Rows L2
open Lay.Enc (enc)
def lift5 {α β γ δ ε κ : Type} (f : α → β → γ → δ → ε → κ) (oa : Option α) (ob : Option β) (oc : Option γ) (od : Option δ) (oe : Option ε) : Option κ := oa.bind fun xa => ob.bind fun xb => oc.bind fun xc => od.bind fun xd => oe.bind fun xe => some (f xa xb xc xd xe)
theorem ed_t5 {α β γ δ ε : Type} [Enc α] [Enc β] [Enc γ] [Enc δ] [Enc ε] {X : Cx} {G : List Sl} {e1 e2 e3 e4 e5 : Expr} {k : Nat} {pos : Pos} {oa : Option α} {ob : Option β} {oc : Option γ} {od : Option δ} {oe : Option ε} (h1 : ED X G e1 oa) (h2 : ED X G e2 ob) (h3 : ED X G e3 oc) (h4 : ED X G e4 od) (h5 : ED X G e5 oe)
    (s1 : starEach [e1, e2, e3, e4, e5] X.env = (false, eval e1 X.env) :: starEach [e2, e3, e4, e5] X.env := by rfl) (s2 : starEach [e2, e3, e4, e5] X.env = (false, eval e2 X.env) :: starEach [e3, e4, e5] X.env := by rfl) (s3 : starEach [e3, e4, e5] X.env = (false, eval e3 X.env) :: starEach [e4, e5] X.env := by rfl) (s4 : starEach [e4, e5] X.env = (false, eval e4 X.env) :: starEach [e5] X.env := by rfl) (s5 : starEach [e5] X.env = [(false, eval e5 X.env)] := by rfl) :
    ED X G (.Tuple [e1, e2, e3, e4, e5] k pos) (lift5 T5.mk oa ob oc od oe) := fun t ht => by
  obtain ⟨xa, q1, ht⟩ := bind_get ht
  obtain ⟨xb, q2, ht⟩ := bind_get ht
  obtain ⟨xc, q3, ht⟩ := bind_get ht
  obtain ⟨xd, q4, ht⟩ := bind_get ht
  obtain ⟨xe, q5, ht⟩ := bind_get ht
  cases ht
  exact tup_of (ad_cons h1 (ad_cons h2 (ad_cons h3 (ad_cons h4 (ad_cons h5 ad_nil s5) s4) s3) s2) s1 _ (by rw [q1, q2, q3, q4, q5]; rfl)) (small_line (by show 5 ≤ 8; decide)) rfl
instance {α β γ δ ε : Type} [Enc α] [Enc β] [Enc γ] [Enc δ] [Enc ε] [S0 : Rp α] [S1 : Rp β] [S2 : Rp γ] [S3 : Rp δ] [S4 : Rp ε] : Rp (T5 α β γ δ ε) := ⟨fun t => S0.len t.a + S1.len t.b + S2.len t.c + S3.len t.d + S4.len t.e + 13, fun t => S0.sm t.a ∧ S1.sm t.b ∧ S2.sm t.c ∧ S3.sm t.d ∧ S4.sm t.e, fun t h => by
  obtain ⟨k0, l0⟩ := S0.ok t.a h.1
  obtain ⟨k1, l1⟩ := S1.ok t.b h.2.1
  obtain ⟨k2, l2⟩ := S2.ok t.c h.2.2.1
  obtain ⟨k3, l3⟩ := S3.ok t.d h.2.2.2.1
  obtain ⟨k4, l4⟩ := S4.ok t.e h.2.2.2.2
  refine ⟨?_, ?_⟩
  · show ((enc t.a : PyData).showable && ((enc t.b : PyData).showable && ((enc t.c : PyData).showable && ((enc t.d : PyData).showable && ((enc t.e : PyData).showable && true))))) = true
    rw [k0, k1, k2, k3, k4]; rfl
  · have := tupleText_len_le [(enc t.a : PyData).shown, (enc t.b : PyData).shown, (enc t.c : PyData).shown, (enc t.d : PyData).shown, (enc t.e : PyData).shown]
    show (tupleText [(enc t.a : PyData).shown, (enc t.b : PyData).shown, (enc t.c : PyData).shown, (enc t.d : PyData).shown, (enc t.e : PyData).shown]).length ≤ _
    simp only [List.map_cons, List.map_nil, List.sum_cons, List.sum_nil, List.length_cons, List.length_nil] at this
    omega⟩
theorem rb_t5 {α β γ δ ε : Type} [Enc α] [Enc β] [Enc γ] [Enc δ] [Enc ε] [S0 : Rp α] [S1 : Rp β] [S2 : Rp γ] [S3 : Rp δ] [S4 : Rp ε] {t : T5 α β γ δ ε} {m0 m1 m2 m3 m4 : Nat} (h0 : RB t.a m0) (h1 : RB t.b m1) (h2 : RB t.c m2) (h3 : RB t.d m3) (h4 : RB t.e m4) : RB t (m0 + m1 + m2 + m3 + m4 + 13) := ⟨⟨h0.1, h1.1, h2.1, h3.1, h4.1⟩, by
  have a0 := h0.2
  have a1 := h1.2
  have a2 := h2.2
  have a3 := h3.2
  have a4 := h4.2
  show S0.len t.a + S1.len t.b + S2.len t.c + S3.len t.d + S4.len t.e + 13 ≤ _
  omega⟩
theorem ok_lift5 {α β γ δ ε κ : Type} {f : α → β → γ → δ → ε → κ} {oa : Option α} {ob : Option β} {oc : Option γ} {od : Option δ} {oe : Option ε} {P : κ → Prop} : Ok (lift5 f oa ob oc od oe) P ↔ Ok oa fun xa => Ok ob fun xb => Ok oc fun xc => Ok od fun xd => Ok oe fun xe => P (f xa xb xc xd xe) := by unfold lift5; simp only [ok_bind, ok_some]
structure T6 (α β γ δ ε ζ : Type) where
  a : α
  b : β
  c : γ
  d : δ
  e : ε
  f : ζ
  deriving DecidableEq
instance {α β γ δ ε ζ : Type} [Enc α] [Enc β] [Enc γ] [Enc δ] [Enc ε] [Enc ζ] : Enc (T6 α β γ δ ε ζ) := ⟨fun t => PyData.tuple [enc t.a, enc t.b, enc t.c, enc t.d, enc t.e, enc t.f]⟩
def lift6 {α β γ δ ε ζ κ : Type} (f : α → β → γ → δ → ε → ζ → κ) (oa : Option α) (ob : Option β) (oc : Option γ) (od : Option δ) (oe : Option ε) (of : Option ζ) : Option κ := oa.bind fun xa => ob.bind fun xb => oc.bind fun xc => od.bind fun xd => oe.bind fun xe => of.bind fun xf => some (f xa xb xc xd xe xf)
theorem ed_t6 {α β γ δ ε ζ : Type} [Enc α] [Enc β] [Enc γ] [Enc δ] [Enc ε] [Enc ζ] {X : Cx} {G : List Sl} {e1 e2 e3 e4 e5 e6 : Expr} {k : Nat} {pos : Pos} {oa : Option α} {ob : Option β} {oc : Option γ} {od : Option δ} {oe : Option ε} {of : Option ζ} (h1 : ED X G e1 oa) (h2 : ED X G e2 ob) (h3 : ED X G e3 oc) (h4 : ED X G e4 od) (h5 : ED X G e5 oe) (h6 : ED X G e6 of)
    (s1 : starEach [e1, e2, e3, e4, e5, e6] X.env = (false, eval e1 X.env) :: starEach [e2, e3, e4, e5, e6] X.env := by rfl) (s2 : starEach [e2, e3, e4, e5, e6] X.env = (false, eval e2 X.env) :: starEach [e3, e4, e5, e6] X.env := by rfl) (s3 : starEach [e3, e4, e5, e6] X.env = (false, eval e3 X.env) :: starEach [e4, e5, e6] X.env := by rfl) (s4 : starEach [e4, e5, e6] X.env = (false, eval e4 X.env) :: starEach [e5, e6] X.env := by rfl) (s5 : starEach [e5, e6] X.env = (false, eval e5 X.env) :: starEach [e6] X.env := by rfl) (s6 : starEach [e6] X.env = [(false, eval e6 X.env)] := by rfl) :
    ED X G (.Tuple [e1, e2, e3, e4, e5, e6] k pos) (lift6 T6.mk oa ob oc od oe of) := fun t ht => by
  obtain ⟨xa, q1, ht⟩ := bind_get ht
  obtain ⟨xb, q2, ht⟩ := bind_get ht
  obtain ⟨xc, q3, ht⟩ := bind_get ht
  obtain ⟨xd, q4, ht⟩ := bind_get ht
  obtain ⟨xe, q5, ht⟩ := bind_get ht
  obtain ⟨xf, q6, ht⟩ := bind_get ht
  cases ht
  exact tup_of (ad_cons h1 (ad_cons h2 (ad_cons h3 (ad_cons h4 (ad_cons h5 (ad_cons h6 ad_nil s6) s5) s4) s3) s2) s1 _ (by rw [q1, q2, q3, q4, q5, q6]; rfl)) (small_line (by show 6 ≤ 8; decide)) rfl
instance {α β γ δ ε ζ : Type} [Enc α] [Enc β] [Enc γ] [Enc δ] [Enc ε] [Enc ζ] [S0 : Rp α] [S1 : Rp β] [S2 : Rp γ] [S3 : Rp δ] [S4 : Rp ε] [S5 : Rp ζ] : Rp (T6 α β γ δ ε ζ) := ⟨fun t => S0.len t.a + S1.len t.b + S2.len t.c + S3.len t.d + S4.len t.e + S5.len t.f + 15, fun t => S0.sm t.a ∧ S1.sm t.b ∧ S2.sm t.c ∧ S3.sm t.d ∧ S4.sm t.e ∧ S5.sm t.f, fun t h => by
  obtain ⟨k0, l0⟩ := S0.ok t.a h.1
  obtain ⟨k1, l1⟩ := S1.ok t.b h.2.1
  obtain ⟨k2, l2⟩ := S2.ok t.c h.2.2.1
  obtain ⟨k3, l3⟩ := S3.ok t.d h.2.2.2.1
  obtain ⟨k4, l4⟩ := S4.ok t.e h.2.2.2.2.1
  obtain ⟨k5, l5⟩ := S5.ok t.f h.2.2.2.2.2
  refine ⟨?_, ?_⟩
  · show ((enc t.a : PyData).showable && ((enc t.b : PyData).showable && ((enc t.c : PyData).showable && ((enc t.d : PyData).showable && ((enc t.e : PyData).showable && ((enc t.f : PyData).showable && true)))))) = true
    rw [k0, k1, k2, k3, k4, k5]; rfl
  · have := tupleText_len_le [(enc t.a : PyData).shown, (enc t.b : PyData).shown, (enc t.c : PyData).shown, (enc t.d : PyData).shown, (enc t.e : PyData).shown, (enc t.f : PyData).shown]
    show (tupleText [(enc t.a : PyData).shown, (enc t.b : PyData).shown, (enc t.c : PyData).shown, (enc t.d : PyData).shown, (enc t.e : PyData).shown, (enc t.f : PyData).shown]).length ≤ _
    simp only [List.map_cons, List.map_nil, List.sum_cons, List.sum_nil, List.length_cons, List.length_nil] at this
    omega⟩
theorem rb_t6 {α β γ δ ε ζ : Type} [Enc α] [Enc β] [Enc γ] [Enc δ] [Enc ε] [Enc ζ] [S0 : Rp α] [S1 : Rp β] [S2 : Rp γ] [S3 : Rp δ] [S4 : Rp ε] [S5 : Rp ζ] {t : T6 α β γ δ ε ζ} {m0 m1 m2 m3 m4 m5 : Nat} (h0 : RB t.a m0) (h1 : RB t.b m1) (h2 : RB t.c m2) (h3 : RB t.d m3) (h4 : RB t.e m4) (h5 : RB t.f m5) : RB t (m0 + m1 + m2 + m3 + m4 + m5 + 15) := ⟨⟨h0.1, h1.1, h2.1, h3.1, h4.1, h5.1⟩, by
  have a0 := h0.2
  have a1 := h1.2
  have a2 := h2.2
  have a3 := h3.2
  have a4 := h4.2
  have a5 := h5.2
  show S0.len t.a + S1.len t.b + S2.len t.c + S3.len t.d + S4.len t.e + S5.len t.f + 15 ≤ _
  omega⟩
theorem ok_lift6 {α β γ δ ε ζ κ : Type} {f : α → β → γ → δ → ε → ζ → κ} {oa : Option α} {ob : Option β} {oc : Option γ} {od : Option δ} {oe : Option ε} {of : Option ζ} {P : κ → Prop} : Ok (lift6 f oa ob oc od oe of) P ↔ Ok oa fun xa => Ok ob fun xb => Ok oc fun xc => Ok od fun xd => Ok oe fun xe => Ok of fun xf => P (f xa xb xc xd xe xf) := by unfold lift6; simp only [ok_bind, ok_some]
instance {α β γ δ ε : Type} [Enc α] [Enc β] [Enc γ] [Enc δ] [Enc ε] [S0 : Sh α] [S1 : Sh β] [S2 : Sh γ] [S3 : Sh δ] [S4 : Sh ε] : Sh (T5 α β γ δ ε) := ⟨(max S0.dp (max S1.dp (max S2.dp (max S3.dp S4.dp)))) + 1, fun t => by
  show (PyData.canLay0 (enc t.a) && (PyData.canLay0 (enc t.b) && (PyData.canLay0 (enc t.c) && (PyData.canLay0 (enc t.d) && (PyData.canLay0 (enc t.e) && true))))) = true
  rw [S0.lay, S1.lay, S2.lay, S3.lay, S4.lay]; rfl, fun t => by
  show (max (PyData.depth (enc t.a)) (max (PyData.depth (enc t.b)) (max (PyData.depth (enc t.c)) (max (PyData.depth (enc t.d)) (max (PyData.depth (enc t.e)) 0))))) + 1 ≤ _
  have := S0.dep t.a; have := S1.dep t.b; have := S2.dep t.c; have := S3.dep t.d; have := S4.dep t.e; omega⟩
instance {α β γ δ ε ζ : Type} [Enc α] [Enc β] [Enc γ] [Enc δ] [Enc ε] [Enc ζ] [S0 : Sh α] [S1 : Sh β] [S2 : Sh γ] [S3 : Sh δ] [S4 : Sh ε] [S5 : Sh ζ] : Sh (T6 α β γ δ ε ζ) := ⟨(max S0.dp (max S1.dp (max S2.dp (max S3.dp (max S4.dp S5.dp))))) + 1, fun t => by
  show (PyData.canLay0 (enc t.a) && (PyData.canLay0 (enc t.b) && (PyData.canLay0 (enc t.c) && (PyData.canLay0 (enc t.d) && (PyData.canLay0 (enc t.e) && (PyData.canLay0 (enc t.f) && true)))))) = true
  rw [S0.lay, S1.lay, S2.lay, S3.lay, S4.lay, S5.lay]; rfl, fun t => by
  show (max (PyData.depth (enc t.a)) (max (PyData.depth (enc t.b)) (max (PyData.depth (enc t.c)) (max (PyData.depth (enc t.d)) (max (PyData.depth (enc t.e)) (max (PyData.depth (enc t.f)) 0)))))) + 1 ≤ _
  have := S0.dep t.a; have := S1.dep t.b; have := S2.dep t.c; have := S3.dep t.d; have := S4.dep t.e; have := S5.dep t.f; omega⟩
instance : EqL Str := ⟨fun x y => by show (x == y) = _; by_cases h : x = y <;> simp [h]⟩
instance {α : Type} [Enc α] [DecidableEq α] [N : NonNone α] [S : EqL α] : EqL (Option α) := ⟨fun a b => by
  have h0 : ∀ x : α, (enc x : PyData) ≠ .none := fun x h => N.ne x h
  cases a with
  | none =>
    cases b with
    | none => show PyData.eqv .none .none = _; simp [PyData.eqv]
    | some y =>
      show PyData.eqv .none (enc y) = _
      have := h0 y
      cases h : (enc y : PyData) <;> simp_all [PyData.eqv]
  | some x =>
    cases b with
    | none =>
      show PyData.eqv (enc x) .none = _
      have := h0 x
      cases h : (enc x : PyData) <;> simp_all [PyData.eqv]
    | some y =>
      show PyData.eqv (enc x) (enc y) = _
      rw [S.eqv]; by_cases c : x = y <;> simp [c]⟩
def orD {α : Type} [Enc α] [Tru α] (o p : Option α) : Option α := o.bind fun x => bif Tru.tr x then some x else p
section
variable {X : Cx} {G : List Sl} {α : Type} [Enc α] {a b : Expr} {pos : Pos}
theorem ed_orD [Tru α] {rest : List Expr} {o p : Option α} (h : ED X G a o) (h' : ED X G (.BoolOp .Or (b :: rest) pos) p) : ED X G (.BoolOp .Or (a :: b :: rest) pos) (orD o p) := fun k hk => by
  obtain ⟨x, h1, hk⟩ := bind_get hk
  cases c : Tru.tr x with
  | false =>
    rw [c] at hk
    exact (pe_orT (h _ h1) (h' k hk)).imp fun σ H Q ⟨F, I, ps, R, q⟩ => ⟨F, I, ps, R, fun v H' I' g R' d => by
      have t := Tru.ok x X.K I' H' v R'.si d
      rw [c] at t
      exact ⟨false, t, iteF ⟨F, I', ps, R', fun v H2 I2 g2 R2 d => q _ _ _ (g.trans g2) R2 d⟩⟩⟩
  | true =>
    rw [c] at hk
    have e : k = x := (Option.some.inj hk).symm
    subst e
    exact (pe_orT (h _ h1) pe_never).imp fun σ H Q ⟨F, I, ps, R, q⟩ => ⟨F, I, ps, R, fun v H' I' g R' d => by
      have t := Tru.ok k X.K I' H' v R'.si d
      rw [c] at t
      exact ⟨true, t, iteT (q _ _ _ g R' d)⟩⟩
theorem op_repRd {X : Cx} : OpR X (binaryOp .Mult) (fun x y H Q => ∃ l k xs, x = .ref l ∧ y = .int k ∧ Rd H l (.lst xs) ∧ -(2 ^ 63) ≤ k ∧ k < 2 ^ 63 ∧ xs.length * k.toNat ≤ sizeLine ∧ ∀ p, H p = none → Q (.ref p) (upd H p (.lst (List.replicate k.toNat xs).flatten))) := by
  intro pins s σ H x y v u Q I rx ry h
  obtain ⟨l, k, xs, rfl, rfl, hH, h1, h2, hz, q⟩ := h
  cases rx
  obtain ⟨t, rfl⟩ := ry
  obtain ⟨z, its, n, r, e⟩ := hH.ok I.hok
  have hl := r.length
  have hlen : its.toArray.size * k.toNat ≤ sizeLine := by rw [List.size_toArray, ← hl]; exact hz
  have hcap : ¬ its.toArray.size * k.toNat > (2 ^ 63 - 1) / 8 := by
    have : (sizeLine : Nat) ≤ (2 ^ 63 - 1) / 8 := by decide
    omega
  have hfit : ¬ (!Builtin.List.listFitsIndex k) = true := by
    rw [fitsIndex_both h1 h2]
    exact Bool.false_ne_true
  have hlong : ¬ Builtin.List.listTooLong (its.toArray.size * k.toNat) = true := by
    rw [notLongL hlen]
    exact Bool.false_ne_true
  have hnew : List.foldl (fun x1 x2 => x1 ++ x2) #[] (List.replicate (if its.toArray.isEmpty = true then 0 else k.toNat) its.toArray) = (List.replicate k.toNat its).flatten.toArray := by
    have f0 : ∀ m : Nat, List.foldl (fun x1 x2 => x1 ++ x2) #[] (List.replicate m its.toArray) = (List.replicate m its).flatten.toArray := fun m => by
      have := foldl_rep its m []
      rw [List.nil_append] at this
      exact this
    rw [f0]
    cases its with
    | nil => simp
    | cons a r' => rw [if_neg (by simp)]
  refine wpAny_binaryOp_repeat_ref (T := "list") (U := "int") (by decide) ⟨_, e, rfl⟩ (fun s' => typeIs_int s' k t) noFill_list_mul F.fills_int_mul F.slot_int_rmul repeat_list F.slot_int_index.lookup
    (call_meets F.slot_int_rmul (typeIs_int s k t) F.entry_int_rmul (F.args_int_rmul_2 _ _) (int___rmul___int_list k t l its.toArray n)
      ⟨e, rfl, ⟨_, e, rfl⟩, call_meets F.slot_list_mul ⟨_, e, rfl⟩ F.entry_list_mul (F.args_list_mul_2 _ _) (AutoListH.list___mul___list_int_3 l its.toArray n k t hfit hcap hlong) ⟨e, ?_⟩⟩)
  rw [hnew]
  exact ⟨.ref _, _, I.lnew (t' := s.toks) (r.rep k.toNat) (by rw [PyProof.Rows.lm_len_rep_flat, Nat.mul_comm]; exact hz), rfl, q _ I.fresh⟩
/-- l * n, l a list that stands -/
theorem eo_repD {oa : Option (List α)} {ob : Option Int} (ha : ED X G a oa) (hb : ED X G b ob) : EO X G (.BinOp a .Mult b pos) (bind2 repG oa ob) := fun z hz => by
  obtain ⟨l, m, h1, h2, h3⟩ := bind2_get hz
  obtain ⟨⟨⟨hc, hc2⟩, hc3⟩, h3⟩ := ite_get h3
  subst h3
  refine (pe_op op_repRd (ha l h1) (hb m h2)).imp fun σ H Q ⟨F, I, ps, R, q⟩ => ⟨F, I, ps, R, fun v H1 I1 g1 R1 d1 => ⟨F, I1, ps, R1, fun w H2 I2 g2 R2 d2 => ?_⟩⟩
  have d1 := Dq_mono g2.same _ _ d1
  cases d2
  cases d1 with
  | lst k1 k2 =>
    have lx := k2.len
    rw [List.length_map] at lx
    refine ⟨_, m, _, rfl, rfl, rd_mono R2.si k1, by omega, by omega, ?_, fun p hp => q p _ _ I2 (g1.trans g2) (R2.newOwn hp) (R2.si.free hp) (R2.sf.free hp) (fun i c => by obtain ⟨_, _, _, z⟩ := R2.own_at c; rw [hp] at z; cases z) upd_same ?_⟩
    · rw [lx]
      have e1 : l.length * m.toNat ≤ 64 * 262144 := Nat.mul_le_mul (by omega) (by omega)
      rw [sizeLine_eq]; omega
    · have := k2.rep m.toNat
      rw [show (List.replicate m.toNat (l.map enc)).flatten = ((List.replicate m.toNat l).flatten).map enc by rw [List.map_flatten, List.map_replicate]] at this
      exact this
end
/-! ### l[::-1] -/
section
variable {X : Cx} {G : List Sl} {α : Type} [Enc α] {a st : Expr} {pos p2 : Pos}
theorem pe_rev {te ts : TE} (he : PE X a te) (hs : PE X st ts) : PE X (.Subscript a (.Slice none none (some st) p2) pos) (fun σ H Q => te σ H fun x H1 => ts σ H1 fun y H2 => y = .int (-1) ∧ ∃ l xs, x = .ref l ∧ SqL X.K H2 l xs ∧ ∀ p, H2 p = none → Q (.ref p) (upd H2 p (.lst xs.reverse))) := by
  refine ⟨fun pins s σ H Q I h => ?_⟩
  refine Subscript_ (thn (he.run pins s σ H _ I h) fun v s1 ⟨x, H1, I1, r1, q1⟩ => ?_)
  refine wpAny_Slice ?_
  rw [evalPart_none]
  refine wpAny_pure ?_
  refine wpAny_pure ?_
  refine thn ((po_some hs).run pins s1 σ H1 (fun o H2 => o = some (-1) ∧ ∃ l xs, x = .ref l ∧ SqL X.K H2 l xs ∧ ∀ p, H2 p = none → Q (.ref p) (upd H2 p (.lst xs.reverse))) I1 ?_) fun vk s3 ⟨o, H3, I3, pk, eo, l, xs, ex, hq, q3⟩ => ?_
  · exact (show ts σ H1 (fun x1 H2 => ∃ i, x1 = V.int i ∧ (some i = some (-1) ∧ ∃ l xs, x = .ref l ∧ SqL X.K H2 l xs ∧ ∀ p, H2 p = none → Q (.ref p) (upd H2 p (.lst xs.reverse)))) from by
      have e : (fun (x1 : V) (H2 : Hp) => ∃ i, x1 = V.int i ∧ (some i = some (-1 : Int) ∧ ∃ l xs, x = .ref l ∧ SqL X.K H2 l xs ∧ ∀ p, H2 p = none → Q (.ref p) (upd H2 p (.lst xs.reverse)))) = (fun y H2 => y = .int (-1) ∧ ∃ l xs, x = .ref l ∧ SqL X.K H2 l xs ∧ ∀ p, H2 p = none → Q (.ref p) (upd H2 p (.lst xs.reverse))) := by
        funext x1 H2
        exact propext ⟨fun ⟨i, e1, e2, r⟩ => ⟨by rw [e1, Option.some.inj e2], r⟩, fun ⟨e1, r⟩ => ⟨-1, e1, rfl, r⟩⟩
      rw [e]; exact q1)
  · subst eo ex
    have e0 : v = .ref l := r1
    subst e0
    obtain ⟨its, r, pl, hz⟩ := I3.list hq
    have ll := pl.isList
    have I4 : Inv X pins σ H3 { s3 with heap := s3.heap.push { cls := .type "slice", data := .fields #[.none, .none, vk] } } := I3.kept (t' := s3.toks) fun b ob q => Heap.get?_push_of_some _ q
    obtain ⟨its4, r4, pl4, hz4⟩ := I4.list hq
    have hT : typeLookup (.type "list") "__getitem__" = pure (some (.builtin _)) := slot_list_getitem.lookup
    refine tail_any (ops := [.ref l, .ref s3.heap.objs.size]) pl4.isList.typeIs hT ?_ (by with_unfolding_all rfl)
    have hlen := r4.length
    refine wpAny_getItem_list_slice pl4.isList (Heap.IsSliceOf.new ..) .none .none pk (by simp) ?_ (by rw [List.size_toArray] <;> omega)
    rw [PySem.W.krv_pick]
    refine ⟨.ref _, _, I4.laid (t' := s3.toks) (o := .lst xs.reverse) (fun b ob q => Heap.get?_push_of_some _ q) (Nat.le_refl _) ?_, rfl, q3 _ (I4.hok.fresh (Nat.le_refl _))⟩
    exact ⟨by rw [List.length_reverse]; exact hz4, _, 0, r4.reverse, by rw [List.toList_toArray]; exact Heap.get?_push_size _ rfl⟩
theorem DqAll.rev {H : Hp} : ∀ {vs : List V} {ds : List PyData}, DqAll H vs ds → DqAll H vs.reverse ds.reverse
  | _, _, .nil => .nil
  | _, _, .cons h t => by rw [List.reverse_cons, List.reverse_cons]; exact (DqAll.rev t).app (.cons h .nil)
/-- l[::-1] -/
theorem eo_rev {ol : Option (List α)} (ha : ED X G a ol) (hs : ED X G st (some (-1 : Int))) : EO X G (.Subscript a (.Slice none none (some st) p2) pos) (lift1 List.reverse ol) := fun r hr => by
  obtain ⟨l, h1, h2⟩ := lift1_get hr
  subst h2
  refine (pe_rev (ha l h1) (hs _ rfl)).imp fun σ H Q ⟨F, I, ps, R, q⟩ => ⟨F, I, ps, R, fun v H1 I1 g1 R1 d1 => ⟨F, I1, ps, R1, fun y H2 I2 g2 R2 d2 => ?_⟩⟩
  cases d2
  cases d1 with
  | lst k1 k2 =>
    refine ⟨rfl, _, _, rfl, .inl (rd_mono (g2.same.trans R2.si) k1), fun p hp => q p _ _ I2 (g1.trans g2) (R2.newOwn hp) (R2.si.free hp) (R2.sf.free hp) (fun i c => by obtain ⟨_, _, _, z⟩ := R2.own_at c; rw [hp] at z; cases z) upd_same ?_⟩
    rw [List.map_reverse]
    exact (DqAll_mono g2.same _ _ k2).rev
end
/-! ### == where texts are -/
class ShG (α : Type) [Enc α] where
  dp : Nat
  ok : α → Bool
  lay : ∀ x : α, ok x = true → (enc x).canLay0 = true
  dep : ∀ x : α, (enc x).depth ≤ dp
instance : ShG Int := ⟨0, fun _ => true, fun _ _ => rfl, fun _ => Nat.le_refl _⟩
instance : ShG Bool := ⟨0, fun _ => true, fun _ _ => rfl, fun _ => Nat.le_refl _⟩
instance : ShG Str := ⟨0, fun x => (PyData.str x).canLay0, fun _ h => h, fun _ => Nat.le_refl _⟩
theorem layAllG {α : Type} [Enc α] [S : ShG α] : ∀ l : List α, l.all S.ok = true → PyData.canLayAll0 (l.map enc) = true
  | [], _ => rfl
  | x :: xs, h => by
    rw [List.all_cons, Bool.and_eq_true] at h
    show (PyData.canLay0 (enc x) && PyData.canLayAll0 (xs.map enc)) = true
    rw [S.lay x h.1, layAllG xs h.2]; rfl
theorem depAllG {α : Type} [Enc α] [S : ShG α] : ∀ l : List α, PyData.depthAll (l.map enc) ≤ S.dp
  | [] => Nat.zero_le _
  | x :: xs => by
    show max (PyData.depth (enc x)) (PyData.depthAll (xs.map enc)) ≤ _
    have h1 := S.dep x
    have h2 := depAllG xs
    omega
instance {α : Type} [Enc α] [S : ShG α] : ShG (List α) := ⟨S.dp + 1, fun l => l.all S.ok, fun l h => layAllG l h, fun l => Nat.succ_le_succ (depAllG l)⟩
instance {α : Type} [Enc α] [S : ShG α] : ShG (Option α) := ⟨S.dp, fun o => match o with | none => true | some x => S.ok x, fun o h => by cases o with | none => rfl | some x => exact S.lay x h, fun o => by cases o with | none => exact Nat.zero_le _ | some x => exact S.dep x⟩
instance {α β : Type} [Enc α] [Enc β] [S : ShG α] [T : ShG β] : ShG (T2 α β) := ⟨max S.dp T.dp + 1, fun t => S.ok t.a && T.ok t.b, fun t h => by
  rw [Bool.and_eq_true] at h
  show (PyData.canLay0 (enc t.a) && (PyData.canLay0 (enc t.b) && true)) = true
  rw [S.lay _ h.1, T.lay _ h.2]; rfl, fun t => by
  show max (PyData.depth (enc t.a)) (max (PyData.depth (enc t.b)) 0) + 1 ≤ _
  have := S.dep t.a; have := T.dep t.b; omega⟩
instance {α β γ : Type} [Enc α] [Enc β] [Enc γ] [S : ShG α] [T : ShG β] [U : ShG γ] : ShG (T3 α β γ) := ⟨max S.dp (max T.dp U.dp) + 1, fun t => S.ok t.a && (T.ok t.b && U.ok t.c), fun t h => by
  rw [Bool.and_eq_true, Bool.and_eq_true] at h
  show (PyData.canLay0 (enc t.a) && (PyData.canLay0 (enc t.b) && (PyData.canLay0 (enc t.c) && true))) = true
  rw [S.lay _ h.1, T.lay _ h.2.1, U.lay _ h.2.2]; rfl, fun t => by
  show max (PyData.depth (enc t.a)) (max (PyData.depth (enc t.b)) (max (PyData.depth (enc t.c)) 0)) + 1 ≤ _
  have := S.dep t.a; have := T.dep t.b; have := U.dep t.c; omega⟩
theorem shaped_ofG {α : Type} [Enc α] [S : ShG α] (h : S.dp ≤ 60) (x : α) (hx : S.ok x = true) : SeqAt.shaped (enc x) = true := by
  unfold SeqAt.shaped
  have h2 : PyData.depth (enc x) ≤ 64 := Nat.le_trans (Nat.le_trans (S.dep x) h) (by decide)
  rw [S.lay x hx, decide_eq_true h2]; rfl
def eqG {α : Type} [Enc α] [DecidableEq α] [S : ShG α] (x y : α) : Option Bool := if S.ok x && S.ok y then some (decide (x = y)) else none
def neG {α : Type} [Enc α] [DecidableEq α] [S : ShG α] (x y : α) : Option Bool := if S.ok x && S.ok y then some (!decide (x = y)) else none
section
variable {X : Cx} {G : List Sl} {α : Type} [Enc α] {a b e : Expr} {N : List Str} {sc : Scope} {fs : Option Scope} {k : Nat}
theorem ec_of1 {op : CmpOp} {r : R2} {x y : α} {z : Bool} (h : OpR X (compareOp op) r) (w : ∀ (F : Hp) (G : List Sl) (σ : L2.St) (H I : Hp) (ps : Nat → Option Addr) (v u : V) (Q : VK), RS X.K F G σ H I ps → Dq I v (enc x) → Dq I u (enc y) → (∀ t H' I', Grow F I I' → RS X.K F G σ H' I' ps → Dq I' t (.bool z) → Q t H') → r v u H Q)
    (hm : behindInMarks op b = false) (ha : PE X a (tD X.K G (enc x))) (hb : PE X b (tD X.K G (enc y))) : ∃ r ta tb, OpR X (compareOp op) r ∧ PE X a ta ∧ PE X b tb ∧ behindInMarks op b = false ∧ ∀ σ H Q, tD X.K G (.bool z) σ H Q → tOp r ta tb σ H Q :=
  ⟨_, _, _, h, ha, hb, hm, fun σ H Q ⟨F, I, ps, R, q⟩ => ⟨F, I, ps, R, fun v H1 I1 g1 R1 d1 => ⟨F, I1, ps, R1, fun u H2 I2 g2 R2 d2 => w F G σ H2 I2 ps v u Q R2 (Dq_mono g2.same _ _ d1) d2 fun t H3 I3 g3 R3 d3 => q t H3 I3 (g1.trans (g2.trans g3)) R3 d3⟩⟩⟩
theorem ec_eqG [DecidableEq α] [EqL α] [S : ShG α] {oa ob : Option α} (C : Ctx X N sc fs k) (ha : ED X G a oa) (hb : ED X G b ob) (hd : S.dp ≤ 60 := by decide) : EC X G .Eq a b (bind2 eqG oa ob) := fun z hz => by
  obtain ⟨x, y, h1, h2, h3⟩ := bind2_get hz
  unfold eqG at h3
  obtain ⟨hc, h3⟩ := ite_get h3
  subst h3
  rw [Bool.and_eq_true] at hc
  exact ec_of1 (op_eqD C.rm.units) (fun F G σ H I ps v w Q R dv dw q => ⟨_, _, Dq_dp _ _ (Dq_mono R.si _ _ dv), Dq_dp _ _ (Dq_mono R.si _ _ dw), shaped_ofG hd x hc.1, shaped_ofG hd y hc.2, by rw [EqL.eqv]; exact q _ _ _ Grow.refl R (.bl _)⟩) (nomark _) (ha x h1) (hb y h2)
theorem ec_neG [DecidableEq α] [EqL α] [S : ShG α] {oa ob : Option α} (C : Ctx X N sc fs k) (ha : ED X G a oa) (hb : ED X G b ob) (hd : S.dp ≤ 60 := by decide) : EC X G .NotEq a b (bind2 neG oa ob) := fun z hz => by
  obtain ⟨x, y, h1, h2, h3⟩ := bind2_get hz
  unfold neG at h3
  obtain ⟨hc, h3⟩ := ite_get h3
  subst h3
  rw [Bool.and_eq_true] at hc
  exact ec_of1 (op_neD C.rm.units) (fun F G σ H I ps v w Q R dv dw q => ⟨_, _, Dq_dp _ _ (Dq_mono R.si _ _ dv), Dq_dp _ _ (Dq_mono R.si _ _ dw), shaped_ofG hd x hc.1, shaped_ofG hd y hc.2, by rw [EqL.eqv]; exact q _ _ _ Grow.refl R (.bl _)⟩) (nomark _) (ha x h1) (hb y h2)
end
/-- x in l, whatever the instance -/
def memD {α : Type} [DecidableEq α] (x : α) (l : List α) : Bool := decide (x ∈ l)
theorem memD_iff {α : Type} [DecidableEq α] {x : α} {l : List α} : memD x l = true ↔ x ∈ l := by unfold memD; simp
theorem memD_not {α : Type} [DecidableEq α] {x : α} {l : List α} : memD x l = false ↔ x ∉ l := by unfold memD; simp
section
variable {X : Cx} {G : List Sl} {N : List Str} {sc : Scope} {fs : Option Scope} {k : Nat} {α : Type} [Enc α] {a b : Expr}
theorem ec_inM [DecidableEq α] [EqL α] [S : Sh α] {oa : Option α} {ob : Option (List α)} (C : Ctx X N sc fs k) (ha : ED X G a oa) (hb : ER X G b ob) (hm : behindInMarks .In b = false := by rfl) (hd : S.dp ≤ 59 := by decide) : EC X G .In a b (lift2 memD oa ob) := ec_in C ha hb hm hd
theorem ec_notInM [DecidableEq α] [EqL α] [S : Sh α] {oa : Option α} {ob : Option (List α)} (C : Ctx X N sc fs k) (ha : ED X G a oa) (hb : ER X G b ob) (hm : behindInMarks .NotIn b = false := by rfl) (hd : S.dp ≤ 59 := by decide) : EC X G .NotIn a b (lift2 (fun x l => !memD x l) oa ob) := ec_notIn C ha hb hm hd
end
theorem ok_orD {α : Type} [Enc α] [Tru α] {a b : Option α} {P : α → Prop} : Ok (orD a b) P ↔ Ok a fun x => (Tru.tr x = true → P x) ∧ (Tru.tr x = false → Ok b P) := by unfold orD; simp only [ok_bind, ok_bif, ok_some]
end Lay

set_option Elab.async false
set_option linter.all false
set_option maxRecDepth 100000
/-! LayE9: which error comes first. -/
namespace Lay
open PySem PySem.Spec PyProof.Rows L2
open Lay.Enc (enc)
def erOf {α : Type} : Er ⊕ α → Option Er
  | .inl e => some e
  | .inr _ => none
/-- the def ends well, with this error (or none) -/
abbrev Rz {α : Type} (o : Option (Er ⊕ α)) (x : Option Er) : Prop := Ok o fun r => erOf r = x
section
variable {α β S S' B R : Type}
theorem fx_er {d : Option R} {P : Er ⊕ R → Prop} {e : Er} : FX d P (.er e) ↔ P (.inl e) := Iff.rfl
theorem fx_rt {d : Option R} {P : Er ⊕ R → Prop} {r : R} : FX d P (.rt r) ↔ P (.inr r) := Iff.rfl
theorem fx_nx {d : R} {P : Er ⊕ R → Prop} {s : Unit} : FX (some d) P (.nx s) ↔ P (.inr d) := ⟨fun ⟨x, e, h⟩ => by cases e; exact h, fun h => ⟨d, rfl, h⟩⟩
theorem er_inl {e : Er} : erOf (.inl e : Er ⊕ α) = some e := rfl
theorem er_inr {a : α} : erOf (.inr a : Er ⊕ α) = none := rfl
theorem ok_outR {o : Option (Er ⊕ α)} {k : α → Option (Out S B R)} {P : Out S B R → Prop} {x : Option Er} (h : Rz o x) (he : ∀ e, x = some e → P (.er e)) (hk : x = none → ∀ a, Ok (k a) P) : Ok (outX o k) P := by
  obtain ⟨r, e, hr⟩ := h
  refine ok_outX.mpr ⟨r, e, ?_⟩
  cases r with
  | inl er => exact he er hr.symm
  | inr a => exact hk hr.symm a
/-- .. and what it gives where there is no error -/
theorem ok_outV {o : Option (Er ⊕ α)} {k : α → Option (Out S B R)} {P : Out S B R → Prop} {a : α} (h : o = some (.inr a)) (hk : Ok (k a) P) : Ok (outX o k) P := ok_outX.mpr ⟨_, h, hk⟩
theorem rz_fin {d : Option R} {b : Option (Out Unit Unit R)} {x : Option Er} (h : Ok b (FX d fun r => erOf r = x)) : Rz (finX d b) x := ok_finX.mpr h
theorem ok_forE {step : Unit → α → Option (Out Unit Unit R)} {P : Out Unit B R → Prop} (p : α → Option Er) {l : List α} (hs : ∀ x, x ∈ l → step () x = some (match p x with | none => .nx () | some e => .er e)) (he : ∀ e, l.findSome? p = some e → P (.er e)) (hn : l.findSome? p = none → P (.nx ())) : Ok (forL step () l) P := by
  induction l with
  | nil => exact ⟨_, rfl, hn rfl⟩
  | cons x r ih =>
    unfold forL
    rw [hs x (by simp)]
    cases c : p x with
    | some e => exact ⟨_, rfl, he e (by rw [List.findSome?_cons, c])⟩
    | none => exact ih (fun y hy => hs y (List.mem_cons_of_mem _ hy)) (fun e h => he e (by rw [List.findSome?_cons, c]; exact h)) (fun h => hn (by rw [List.findSome?_cons, c]; exact h))
end
/-- a loop that may be left: G is what is known of the items that were passed -/
theorem ok_forU {α R B : Type} {step : Unit → α → Option (Out Unit Unit R)} {P : Out Unit B R → Prop} (G : α → Prop) {l : List α} (hs : ∀ (i : Nat) (x : α), l[i]? = some x → (∀ (j : Nat) (y : α), j < i → l[j]? = some y → G y) → Ok (step () x) (fun o => match o with | .nx _ => G x | .rt r => P (.rt r) | .er e => P (.er e) | _ => False)) (hn : (∀ x, x ∈ l → G x) → P (.nx ())) : Ok (forL step () l) P := by
  have key : ∀ (m : List α) (i : Nat), l.drop i = m → (∀ (j : Nat) (y : α), j < i → l[j]? = some y → G y) → Ok (forL (B := B) step () m) P := by
    intro m
    induction m with
    | nil =>
      intro i hm hj
      refine ⟨_, rfl, hn fun x hx => ?_⟩
      obtain ⟨j, hj2, e⟩ := List.getElem_of_mem hx
      have : l.length ≤ i := by
        have := congrArg List.length hm
        rw [List.length_drop] at this
        simp at this; omega
      exact hj j x (by omega) (by rw [List.getElem?_eq_getElem hj2, e])
    | cons x m ih =>
      intro i hm hj
      have hx : l[i]? = some x := by
        rw [← List.head?_drop, hm]; rfl
      obtain ⟨o, e1, h1⟩ := hs i x hx hj
      unfold forL
      rw [e1]
      cases o with
      | nx s1 =>
        refine ih (i + 1) (by rw [← List.tail_drop, hm]; rfl) fun j y hji hy => ?_
        by_cases c : j = i
        · subst c; rw [hx] at hy; cases hy; exact h1
        · exact hj j y (by omega) hy
      | bk b => exact False.elim h1
      | ct b => exact False.elim h1
      | rt r => exact ⟨_, rfl, h1⟩
      | er e => exact ⟨_, rfl, h1⟩
  exact key l 0 rfl fun j y h => by omega
theorem find_filter {α β : Type} (b : α → Bool) (f : α → β) : ∀ l : List α, l.findSome? (fun k => if b k = true then some (f k) else none) = ((l.filter b).head?).map f
  | [] => rfl
  | x :: r => by
    rw [List.findSome?_cons]
    cases c : b x with
    | true => simp [c]
    | false => simp [c, find_filter b f r]
theorem enumL_eqD {α : Type} (d : α) {l : List α} : enumL l = (rngL 0 l.length).map fun k => T2.mk k (l.getD k.toNat d) := by
  apply List.ext_getElem?
  intro i
  unfold enumL rngL
  simp only [List.getElem?_map, List.getElem?_range', List.getElem?_mapIdx]
  by_cases h : i < l.length
  · simp [h]
  · simp [h]
/-- the first item that is bad, by its place -/
theorem find_enum {α : Type} (d : α) (l : List α) (b : Int → α → Bool) (K : Str) : (enumL l).findSome? (fun y => if b y.a y.b = true then some (⟨K, y.a⟩ : Er) else none) = (((rngL 0 l.length).filter fun k => b k (l.getD k.toNat d)).head?).map fun k => ⟨K, k⟩ := by
  rw [enumL_eqD d, List.findSome?_map]
  exact find_filter (fun k => b k (l.getD k.toNat d)) (fun k => (⟨K, k⟩ : Er)) _
theorem ok_setG {α : Type} {l : List α} {i : Int} {x : α} {P : List α → Prop} (h : 0 ≤ i) (h2 : i < l.length) (p : P (l.set i.toNat x)) : Ok (setG l i x) P := by
  refine ⟨_, ?_, p⟩
  unfold setG ixN
  rw [if_pos h, if_pos h2]; rfl
/-- the error's word, told as data -/
def wdO (w : Str → Str) (x : Option Er) : Option (T2 Str Int) := x.map fun e => ⟨w e.k, e.a⟩
end Lay

set_option Elab.async false
set_option linter.all false
set_option maxRecDepth 100000
namespace Lay.K42
open PySem PySem.Spec PyProof.Rows L2 Lay
open Lay.Enc (enc)
def KS : List Str := ["WrongSize", "BadRow", "NotASet"]
def b__law_draws (a_script : (List Int)) : Option (Out Unit Unit (List Int)) := (Option.bind (Option.bind (some ([] : List Int)) szG) fun (v_draws_1 : (List Int)) => (Option.bind (Option.bind (lift2 (fun i j => if j < i then j else i) (some (63 : Int)) (lift1 (fun l => (l.length : Int)) (some a_script))) rng1) fun l => bindOut (forL (fun (s2 : (List Int)) (y3 : Int) => (Option.bind (lift1 (fun i => if i < 0 then -i else i) (Option.bind (some y3) fun j => atI a_script j)) fun (v_rest_4 : Int) => (Option.bind (lift2 (fun i j => decide (j ≤ i)) (some v_rest_4) (bind2 powG (some (10 : Int)) (some (18 : Int)))) fun t => bindOut (bif t then (Option.bind (Option.bind (some (60 : Int)) rng1) fun l => bindOut (forL (fun (s6 : ((List Int) × Int)) (y7 : Int) => (Option.bind (lift2 (fun i j => decide (j < i)) (some s6.2) (some (0 : Int))) fun t => bindOut (bif t then (Option.bind (Option.bind (bind2 modG (some s6.2) (some (65536 : Int))) (appG s6.1)) fun (v9 : (List Int)) => (Option.bind (bind2 divG (some s6.2) (some (65536 : Int))) fun (v_rest_10 : Int) => (some (Out.nx (v9, v_rest_10))))) else (some (Out.nx (s6.1, s6.2)))) fun (s8 : ((List Int) × Int)) => (some (Out.nx (s8.1, s8.2))))) (s2, v_rest_4) l) fun (s6 : ((List Int) × Int)) => (some (Out.nx s6.1))) else (Option.bind (bind2 modG (lift2 (· + ·) (bind2 mulG (some v_rest_4) (some (48271 : Int))) (bind2 mulG (lift2 (· + ·) (some y3) (some (1 : Int))) (some (69621 : Int)))) (some (2147483647 : Int))) fun (v_mixed_11 : Int) => (Option.bind (bind2 modG (lift2 (· + ·) (lift2 (· + ·) (bind2 mulG (some v_mixed_11) (some (16807 : Int))) (bind2 mulG (some (11 : Int)) (some y3))) (some (5 : Int))) (some (2147483629 : Int))) fun (v_mixed_12 : Int) => (Option.bind (Option.bind (bind2 modG (some v_mixed_12) (some (65536 : Int))) (appG s2)) fun (v13 : (List Int)) => (Option.bind (Option.bind (bind2 modG (bind2 divG (some v_mixed_12) (some (65536 : Int))) (some (32768 : Int))) (appG v13)) fun (v14 : (List Int)) => (some (Out.nx v14))))))) fun (s5 : (List Int)) => (some (Out.nx s5))))) v_draws_1 l) fun (s2 : (List Int)) => (Option.bind (some s2) fun r => some (Out.rt r))))
def m__law_draws (a_script : (List Int)) : Option (List Int) := finO none (b__law_draws a_script)
def b__law_mix (a_draws : (List Int)) (a_k : Int) (a_many : Int) : Option (Out Unit Unit Int) := (Option.bind (some (0 : Int)) fun (v_cell_1 : Int) => (Option.bind (lift2 (fun i j => decide (j < i)) (lift1 (fun l => (l.length : Int)) (some a_draws)) (some (0 : Int))) fun t => bindOut (bif t then (Option.bind (bind2 atI (some a_draws) (bind2 modG (some a_k) (lift1 (fun l => (l.length : Int)) (some a_draws)))) fun (v_cell_3 : Int) => (some (Out.nx v_cell_3))) else (some (Out.nx v_cell_1))) fun (s2 : Int) => (Option.bind (lift2 (fun i j => decide (i < j)) (some a_k) (lift1 (fun l => (l.length : Int)) (some a_draws))) fun t => bindOut (bif t then (Option.bind (bind2 modG (some s2) (some a_many)) fun r => some (Out.rt r)) else (some (Out.nx ()))) fun (s4 : Unit) => (Option.bind (bind2 modG (bind2 divG (lift2 (· + ·) (bind2 mulG (some s2) (some (7919 : Int))) (bind2 mulG (some a_k) (some (104729 : Int)))) (some (3 : Int))) (some a_many)) fun r => some (Out.rt r)))))
def m__law_mix (a_draws : (List Int)) (a_k : Int) (a_many : Int) : Option Int := finO none (b__law_mix a_draws a_k a_many)
def b__law_fault (a_table : (List (List Int))) : Option (Out Unit Unit (Option (T2 Str Int))) := (Option.bind (lift1 (fun x => !x) (chainG cLe cLe (some (1 : Int)) (lift1 (fun l => (l.length : Int)) (some a_table)) (some (5 : Int)))) fun t => bindOut (bif t then (Option.bind (lift1 (some : (T2 Str Int) → Option (T2 Str Int)) (lift2 T2.mk (some ("size" : Str)) (lift1 (fun l => (l.length : Int)) (some a_table)))) fun r => some (Out.rt r)) else (some (Out.nx ()))) fun (s1 : Unit) => (Option.bind (Option.bind (lift1 (fun l => (l.length : Int)) (some a_table)) rng1) fun l => bindOut (forL (fun (s2 : Unit) (y3 : Int) => (Option.bind (bind2 atI (some a_table) (some y3)) fun (v_row_4 : (List Int)) => (Option.bind (orG (lift1 (fun x => !x) (chainG cLe cLe (some (1 : Int)) (lift1 (fun l => (l.length : Int)) (some v_row_4)) (some (5 : Int)))) (orG (lift2 (fun i j => !decide (i = j)) (lift1 (fun l => (l.length : Int)) (some v_row_4)) (lift1 (fun l => (l.length : Int)) (bind2 atI (some a_table) (some (0 : Int))))) (lift2 (fun x y => !decide (x = y)) (Option.bind (some v_row_4) (lcL (fun (x5 : Int) => (lift2 (fun x l => !decide (x ∈ l)) (some x5) (Option.bind (lift2 List.cons (lift1 (fun i => -i) (some (1 : Int))) (lift2 List.cons (some (0 : Int)) (lift2 List.cons (some (1 : Int)) (some ([] : List Int))))) szG))) (fun (x5 : Int) => (some x5)))) (Option.bind (some ([] : List Int)) szG)))) fun t => bindOut (bif t then (Option.bind (lift1 (some : (T2 Str Int) → Option (T2 Str Int)) (lift2 T2.mk (some ("row" : Str)) (some y3))) fun r => some (Out.rt r)) else (some (Out.nx ()))) fun (s6 : Unit) => (some (Out.nx ()))))) () l) fun (s2 : Unit) => (Option.bind (some (none : (Option (T2 Str Int)))) fun r => some (Out.rt r))))
def m__law_fault (a_table : (List (List Int))) : Option (Option (T2 Str Int)) := finO none (b__law_fault a_table)
def b_check_table (a_table : (List (List Int))) : Option (Out Unit Unit Unit) := (Option.bind (lift1 (fun x => !x) (chainG cLe cLe (some (1 : Int)) (lift1 (fun l => (l.length : Int)) (some a_table)) (some (5 : Int)))) fun t => bindOut (bif t then (Option.bind (lift1 (fun l => (l.length : Int)) (some a_table)) fun n => some (Out.er ⟨"WrongSize", n⟩)) else (some (Out.nx ()))) fun (s1 : Unit) => (Option.bind (lift1 enumL (some a_table)) fun l => bindOut (forL (fun (s2 : Unit) (y3 : (T2 Int (List Int))) => (Option.bind (orG (lift1 (fun x => !x) (chainG cLe cLe (some (1 : Int)) (lift1 (fun l => (l.length : Int)) (some y3.b)) (some (5 : Int)))) (orG (lift2 (fun i j => !decide (i = j)) (lift1 (fun l => (l.length : Int)) (some y3.b)) (lift1 (fun l => (l.length : Int)) (bind2 atI (some a_table) (some (0 : Int))))) (lift1 (fun x => !x) (lift1 (fun l => l.all id) (Option.bind (some y3.b) (lcL (fun (x4 : Int) => (some true)) (fun (x4 : Int) => (chainG cLe cLe (lift1 (fun i => -i) (some (1 : Int))) (some x4) (some (1 : Int)))))))))) fun t => bindOut (bif t then (Option.bind (some y3.a) fun n => some (Out.er ⟨"BadRow", n⟩)) else (some (Out.nx ()))) fun (s5 : Unit) => (some (Out.nx ())))) () l) fun (s2 : Unit) => (some (Out.nx ()))))
def m_check_table (a_table : (List (List Int))) : Option (Er ⊕ Unit) := finX (some ()) (b_check_table a_table)
def b_choices (a_many : Int) (a_size : Int) : Option (Out Unit Unit (List (List Int))) := (Option.bind (Option.bind (lift2 List.cons (Option.bind (some ([] : List Int)) szG) (some ([] : List (List Int)))) szG) fun (v_found_1 : (List (List Int))) => (Option.bind (Option.bind (some a_many) rng1) fun l => bindOut (forL (fun (s2 : (List (List Int))) (y3 : Int) => (Option.bind (bind2 catG (some s2) (Option.bind (some s2) (lcL (fun (x5 : (List Int)) => (lift2 (fun i j => decide (i < j)) (lift1 (fun l => (l.length : Int)) (some x5)) (some a_size))) (fun (x5 : (List Int)) => (Option.bind (lift2 (· ++ ·) (some x5) (lift2 List.cons (some y3) (some ([] : List Int)))) szG))))) fun (v_found_4 : (List (List Int))) => (some (Out.nx v_found_4)))) v_found_1 l) fun (s2 : (List (List Int))) => (Option.bind (Option.bind (Option.bind (some s2) (lcL (fun (x6 : (List Int)) => (lift2 (fun i j => decide (i = j)) (lift1 (fun l => (l.length : Int)) (some x6)) (some a_size))) (fun (x6 : (List Int)) => (some x6)))) sortD) fun r => some (Out.rt r))))
def m_choices (a_many : Int) (a_size : Int) : Option (List (List Int)) := finO none (b_choices a_many a_size)
def b_measure_of (rec : (List (List Int)) → Option Int) (a_rows : (List (List Int))) : Option (Out Unit Unit Int) := (Option.bind (lift2 (fun i j => decide (i = j)) (lift1 (fun l => (l.length : Int)) (some a_rows)) (some (0 : Int))) fun t => bindOut (bif t then (Option.bind (some (1 : Int)) fun r => some (Out.rt r)) else (some (Out.nx ()))) fun (s1 : Unit) => (Option.bind (some (0 : Int)) fun (v_found_2 : Int) => (Option.bind (lift1 enumL (bind2 atI (some a_rows) (some (0 : Int)))) fun l => bindOut (forL (fun (s3 : Int) (y4 : (T2 Int Int)) => (Option.bind (lift2 (fun i j => !decide (i = j)) (some y4.b) (some (0 : Int))) fun t => bindOut (bif t then (Option.bind (Option.bind (lift3 cutL (some a_rows) (lift1 some (some (1 : Int))) (some none)) (lcL (fun (x7 : (List Int)) => (some true)) (fun (x7 : (List Int)) => (bind2 catG (lift3 cutL (some x7) (some none) (lift1 some (some y4.a))) (lift3 cutL (some x7) (lift1 some (lift2 (· + ·) (some y4.a) (some (1 : Int)))) (some none)))))) fun (v_rest_6 : (List (List Int))) => (Option.bind (lift2 (· + ·) (some s3) (bind2 mulG (Option.bind (lift2 (fun i j => decide (i = j)) (bind2 modG (some y4.a) (some (2 : Int))) (some (1 : Int))) fun t => bif t then (lift1 (fun i => -i) (some y4.b)) else (some y4.b)) (app1 rec (some v_rest_6)))) fun (v_found_8 : Int) => (some (Out.nx v_found_8)))) else (some (Out.nx s3))) fun (s5 : Int) => (some (Out.nx s5)))) v_found_2 l) fun (s3 : Int) => (Option.bind (some s3) fun r => some (Out.rt r)))))
def mF_measure_of : Nat → (List (List Int)) → Option Int
  | 0 => fun _ => none
  | n + 1 => fun x0 => finO none (b_measure_of (mF_measure_of n) x0)
def m_measure_of : (List (List Int)) → Option Int := mF_measure_of 6
def b_square_at (a_table : (List (List Int))) (a_rows : (List Int)) (a_columns : (List Int)) : Option (Out Unit Unit (List (List Int))) := (Option.bind (Option.bind (some a_rows) (lcL (fun (x1 : Int) => (some true)) (fun (x1 : Int) => (Option.bind (some a_columns) (lcL (fun (x2 : Int) => (some true)) (fun (x2 : Int) => (bind2 atI (bind2 atI (some a_table) (some x1)) (some x2)))))))) fun r => some (Out.rt r))
def m_square_at (a_table : (List (List Int))) (a_rows : (List Int)) (a_columns : (List Int)) : Option (List (List Int)) := finO none (b_square_at a_table a_rows a_columns)
def b_bad_of (a_table : (List (List Int))) : Option (Out Unit Unit (Option (T2 (List Int) (List Int)))) := (Option.bind (bind2 rng2 (some (1 : Int)) (lift2 (· + ·) (lift2 (fun i j => if j < i then j else i) (lift1 (fun l => (l.length : Int)) (some a_table)) (lift1 (fun l => (l.length : Int)) (bind2 atI (some a_table) (some (0 : Int))))) (some (1 : Int)))) fun l => bindOut (forL (fun (s1 : Unit) (y2 : Int) => (Option.bind (app2 m_choices (lift1 (fun l => (l.length : Int)) (some a_table)) (some y2)) fun l => bindOut (forL (fun (s3 : Unit) (y4 : (List Int)) => (Option.bind (app2 m_choices (lift1 (fun l => (l.length : Int)) (bind2 atI (some a_table) (some (0 : Int)))) (some y2)) fun l => bindOut (forL (fun (s5 : Unit) (y6 : (List Int)) => (Option.bind (lift2 (fun i j => decide (j < i)) (lift1 (fun i => if i < 0 then -i else i) (app1 m_measure_of (app3 m_square_at (some a_table) (some y4) (some y6)))) (some (1 : Int))) fun t => bindOut (bif t then (Option.bind (lift1 (some : (T2 (List Int) (List Int)) → Option (T2 (List Int) (List Int))) (lift2 T2.mk (some y4) (some y6))) fun r => some (Out.rt r)) else (some (Out.nx ()))) fun (s7 : Unit) => (some (Out.nx ())))) () l) fun (s5 : Unit) => (some (Out.nx ())))) () l) fun (s3 : Unit) => (some (Out.nx ())))) () l) fun (s1 : Unit) => (Option.bind (some (none : (Option (T2 (List Int) (List Int))))) fun r => some (Out.rt r)))
def m_bad_of (a_table : (List (List Int))) : Option (Option (T2 (List Int) (List Int))) := finO none (b_bad_of a_table)
def b_is_sure (a_table : (List (List Int))) : Option (Out Unit Unit Bool) := (outX (app1 m_check_table (some a_table)) fun _ => (Option.bind (lift1 Option.isNone (app1 m_bad_of (some a_table))) fun r => some (Out.rt r)))
def m_is_sure (a_table : (List (List Int))) : Option (Er ⊕ Bool) := finX none (b_is_sure a_table)
def b__law_word (er : Er) : Option (Out Unit Unit (T2 Str Int)) := (Option.bind (Option.bind (lift2 List.cons (lift2 T2.mk (some ("size" : Str)) (isErr KS er "WrongSize")) (lift2 List.cons (lift2 T2.mk (some ("row" : Str)) (isErr KS er "BadRow")) (lift2 List.cons (lift2 T2.mk (some ("set" : Str)) (isErr KS er "NotASet")) (some ([] : List (T2 Str Bool)))))) szG) fun (v_words_1 : (List (T2 Str Bool))) => (Option.bind (lift2 T2.mk (Option.bind (Option.bind (some v_words_1) (lcL (fun (x2 : (T2 Str Bool)) => (some x2.b)) (fun (x2 : (T2 Str Bool)) => (some x2.a)))) (joinG " ")) (atErr KS er)) fun r => some (Out.rt r)))
def m__law_word (er : Er) : Option (T2 Str Int) := finO none (b__law_word er)
def b_bad_square (a_table : (List (List Int))) : Option (Out Unit Unit (Option (T2 (List Int) (List Int)))) := (outX (app1 m_check_table (some a_table)) fun _ => (Option.bind (app1 m_bad_of (some a_table)) fun r => some (Out.rt r)))
def m_bad_square (a_table : (List (List Int))) : Option (Er ⊕ (Option (T2 (List Int) (List Int)))) := finX none (b_bad_square a_table)
def b_is_set (a_told : (List Int)) (a_many : Int) : Option (Out Unit Unit Bool) := (Option.bind (lift2 (fun x y => decide (x = y)) (some a_told) (Option.bind (Option.bind (some a_many) rng1) (lcL (fun (x1 : Int) => (lift2 (fun x l => decide (x ∈ l)) (some x1) (some a_told))) (fun (x1 : Int) => (some x1))))) fun r => some (Out.rt r))
def m_is_set (a_told : (List Int)) (a_many : Int) : Option Bool := finO none (b_is_set a_told a_many)
def b_measure (a_table : (List (List Int))) (a_rows : (List Int)) (a_columns : (List Int)) : Option (Out Unit Unit (Option Int)) := (outX (app1 m_check_table (some a_table)) fun _ => (Option.bind (orG (lift2 (fun i j => !decide (i = j)) (lift1 (fun l => (l.length : Int)) (some a_rows)) (lift1 (fun l => (l.length : Int)) (some a_columns))) (lift2 (fun i j => decide (i = j)) (lift1 (fun l => (l.length : Int)) (some a_rows)) (some (0 : Int)))) fun t => bindOut (bif t then (Option.bind (some (none : (Option Int))) fun r => some (Out.rt r)) else (some (Out.nx ()))) fun (s1 : Unit) => (Option.bind (orG (lift1 (fun x => !x) (app2 m_is_set (some a_rows) (lift1 (fun l => (l.length : Int)) (some a_table)))) (lift1 (fun x => !x) (app2 m_is_set (some a_columns) (lift1 (fun l => (l.length : Int)) (bind2 atI (some a_table) (some (0 : Int))))))) fun t => bindOut (bif t then (Option.bind (some (none : (Option Int))) fun r => some (Out.rt r)) else (some (Out.nx ()))) fun (s2 : Unit) => (Option.bind (lift1 (some : Int → Option Int) (app1 m_measure_of (app3 m_square_at (some a_table) (some a_rows) (some a_columns)))) fun r => some (Out.rt r)))))
def m_measure (a_table : (List (List Int))) (a_rows : (List Int)) (a_columns : (List Int)) : Option (Er ⊕ (Option Int)) := finX none (b_measure a_table a_rows a_columns)
def b_rows_from (a_numbers : (List Int)) (a_size : Int) : Option (Out Unit Unit (List (List Int))) := (Option.bind (Option.bind (lift2 List.cons (Option.bind (some ([] : List Int)) szG) (some ([] : List (List Int)))) szG) fun (v_found_1 : (List (List Int))) => (Option.bind (Option.bind (some a_size) rng1) fun l => bindOut (forL (fun (s2 : (List (List Int))) (y3 : Int) => (Option.bind (Option.bind (some s2) fun l => Option.bind (lc2L (fun (x5 : (List Int)) => (some true)) (fun (x5 : (List Int)) => (some a_numbers)) (fun (x5 : (List Int)) (y5 : Int) => (some true)) (fun (x5 : (List Int)) (y5 : Int) => (Option.bind (lift2 (· ++ ·) (some x5) (lift2 List.cons (some y5) (some ([] : List Int)))) szG)) l) szG) fun (v_found_4 : (List (List Int))) => (some (Out.nx v_found_4)))) v_found_1 l) fun (s2 : (List (List Int))) => (Option.bind (some s2) fun r => some (Out.rt r))))
def m_rows_from (a_numbers : (List Int)) (a_size : Int) : Option (List (List Int)) := finO none (b_rows_from a_numbers a_size)
def b_parting_of (a_table : (List (List Int))) (a_rows : (List Int)) : Option (Out Unit Unit (Option (List Int))) := (Option.bind (app2 m_rows_from (Option.bind (lift2 List.cons (lift1 (fun i => -i) (some (1 : Int))) (lift2 List.cons (some (1 : Int)) (some ([] : List Int)))) szG) (lift1 (fun l => (l.length : Int)) (some a_rows))) fun l => bindOut (forL (fun (s1 : Unit) (y2 : (List Int)) => (Option.bind (Option.bind (Option.bind (lift1 (fun l => (l.length : Int)) (bind2 atI (some a_table) (some (0 : Int)))) rng1) (lcL (fun (x4 : Int) => (some true)) (fun (x4 : Int) => (lift1 List.sum (Option.bind (lift2 zipL (some y2) (some a_rows)) (lcL (fun (x5 : (T2 Int Int)) => (some true)) (fun (x5 : (T2 Int Int)) => (bind2 mulG (some x5.a) (bind2 atI (bind2 atI (some a_table) (some x5.b)) (some x4)))))))))) fun (v_sums_3 : (List Int)) => (Option.bind (lift1 (fun l => l.all id) (Option.bind (some v_sums_3) (lcL (fun (x6 : Int) => (some true)) (fun (x6 : Int) => (chainG cLe cLe (lift1 (fun i => -i) (some (1 : Int))) (some x6) (some (1 : Int))))))) fun t => bindOut (bif t then (Option.bind (lift1 (some : (List Int) → Option (List Int)) (some y2)) fun r => some (Out.rt r)) else (some (Out.nx ()))) fun (s7 : Unit) => (some (Out.nx ()))))) () l) fun (s1 : Unit) => (Option.bind (some (none : (Option (List Int)))) fun r => some (Out.rt r)))
def m_parting_of (a_table : (List (List Int))) (a_rows : (List Int)) : Option (Option (List Int)) := finO none (b_parting_of a_table a_rows)
def b_unparted (a_table : (List (List Int))) : Option (Out Unit Unit (Option (List Int))) := (outX (app1 m_check_table (some a_table)) fun _ => (Option.bind (bind2 rng2 (some (1 : Int)) (lift2 (· + ·) (lift1 (fun l => (l.length : Int)) (some a_table)) (some (1 : Int)))) fun l => bindOut (forL (fun (s1 : Unit) (y2 : Int) => (Option.bind (app2 m_choices (lift1 (fun l => (l.length : Int)) (some a_table)) (some y2)) fun l => bindOut (forL (fun (s3 : Unit) (y4 : (List Int)) => (Option.bind (lift1 Option.isNone (app2 m_parting_of (some a_table) (some y4))) fun t => bindOut (bif t then (Option.bind (lift1 (some : (List Int) → Option (List Int)) (some y4)) fun r => some (Out.rt r)) else (some (Out.nx ()))) fun (s5 : Unit) => (some (Out.nx ())))) () l) fun (s3 : Unit) => (some (Out.nx ())))) () l) fun (s1 : Unit) => (Option.bind (some (none : (Option (List Int)))) fun r => some (Out.rt r))))
def m_unparted (a_table : (List (List Int))) : Option (Er ⊕ (Option (List Int))) := finX none (b_unparted a_table)
def b_is_stretch (a_row : (List Int)) : Option (Out Unit Unit Bool) := (Option.bind (Option.bind (lift1 enumL (some a_row)) (lcL (fun (x2 : (T2 Int Int)) => (lift2 (fun i j => decide (i = j)) (some x2.b) (some (1 : Int)))) (fun (x2 : (T2 Int Int)) => (some x2.a)))) fun (v_ones_1 : (List Int)) => (Option.bind (lift1 (fun l => l.any id) (Option.bind (some a_row) (lcL (fun (x3 : Int) => (some true)) (fun (x3 : Int) => (lift2 (fun i j => decide (i < j)) (some x3) (some (0 : Int))))))) fun t => bindOut (bif t then (Option.bind (some false) fun r => some (Out.rt r)) else (some (Out.nx ()))) fun (s4 : Unit) => (Option.bind (orG (lift2 (fun i j => decide (i = j)) (lift1 (fun l => (l.length : Int)) (some v_ones_1)) (some (0 : Int))) (lift2 (fun i j => decide (i = j)) (lift2 (· + ·) (lift2 (· - ·) (bind2 atI (some v_ones_1) (lift1 (fun i => -i) (some (1 : Int)))) (bind2 atI (some v_ones_1) (some (0 : Int)))) (some (1 : Int))) (lift1 (fun l => (l.length : Int)) (some v_ones_1)))) fun r => some (Out.rt r))))
def m_is_stretch (a_row : (List Int)) : Option Bool := finO none (b_is_stretch a_row)
def b_are_stretches (a_table : (List (List Int))) : Option (Out Unit Unit Bool) := (outX (app1 m_check_table (some a_table)) fun _ => (Option.bind (lift1 (fun l => l.all id) (Option.bind (some a_table) (lcL (fun (x1 : (List Int)) => (some true)) (fun (x1 : (List Int)) => (app1 m_is_stretch (some x1)))))) fun r => some (Out.rt r)))
def m_are_stretches (a_table : (List (List Int))) : Option (Er ⊕ Bool) := finX none (b_are_stretches a_table)
def b_fits (a_table : (List (List Int))) (a_told : (List Int)) : Option (Out Unit Unit Bool) := (Option.bind (Option.bind (lift1 (fun l => (l.length : Int)) (bind2 atI (some a_table) (some (0 : Int)))) rng1) fun l => bindOut (forL (fun (s1 : Unit) (y2 : Int) => (Option.bind (Option.bind (Option.bind (lift1 (fun l => (l.length : Int)) (some a_table)) rng1) (lcL (fun (x4 : Int) => (lift2 (fun i j => !decide (i = j)) (bind2 atI (bind2 atI (some a_table) (some x4)) (some y2)) (some (0 : Int)))) (fun (x4 : Int) => (some x4)))) fun (v_own_3 : (List Int)) => (Option.bind (andG (lift2 (fun i j => decide (i = j)) (lift1 (fun l => (l.length : Int)) (some v_own_3)) (some (2 : Int))) (lift2 (fun i j => i != j) (lift2 (fun i j => decide (i = j)) (bind2 atI (some a_told) (bind2 atI (some v_own_3) (some (0 : Int)))) (bind2 atI (some a_told) (bind2 atI (some v_own_3) (some (1 : Int))))) (lift2 (fun i j => !decide (i = j)) (bind2 atI (bind2 atI (some a_table) (bind2 atI (some v_own_3) (some (0 : Int)))) (some y2)) (bind2 atI (bind2 atI (some a_table) (bind2 atI (some v_own_3) (some (1 : Int)))) (some y2))))) fun t => bindOut (bif t then (Option.bind (some false) fun r => some (Out.rt r)) else (some (Out.nx ()))) fun (s5 : Unit) => (some (Out.nx ()))))) () l) fun (s1 : Unit) => (Option.bind (some true) fun r => some (Out.rt r)))
def m_fits (a_table : (List (List Int))) (a_told : (List Int)) : Option Bool := finO none (b_fits a_table a_told)
def b_sides (a_table : (List (List Int))) : Option (Out Unit Unit (Option (List Int))) := (outX (app1 m_check_table (some a_table)) fun _ => (Option.bind (app2 m_rows_from (Option.bind (lift2 List.cons (some (0 : Int)) (lift2 List.cons (some (1 : Int)) (some ([] : List Int)))) szG) (lift1 (fun l => (l.length : Int)) (some a_table))) fun l => bindOut (forL (fun (s1 : Unit) (y2 : (List Int)) => (Option.bind (app2 m_fits (some a_table) (some y2)) fun t => bindOut (bif t then (Option.bind (lift1 (some : (List Int) → Option (List Int)) (some y2)) fun r => some (Out.rt r)) else (some (Out.nx ()))) fun (s3 : Unit) => (some (Out.nx ())))) () l) fun (s1 : Unit) => (Option.bind (some (none : (Option (List Int)))) fun r => some (Out.rt r))))
def m_sides (a_table : (List (List Int))) : Option (Er ⊕ (Option (List Int))) := finX none (b_sides a_table)
def b_fraction (a_number : Int) (a_by : Int) : Option (Out Unit Unit (T2 Int Int)) := (Option.bind (lift2 (fun i j => decide (i < j)) (some a_by) (some (0 : Int))) fun t => bindOut (bif t then (Option.bind (lift1 (fun i => -i) (some a_number)) fun (v_number_2 : Int) => Option.bind (lift1 (fun i => -i) (some a_by)) fun (v_by_3 : Int) => (some (Out.nx (v_number_2, v_by_3)))) else (some (Out.nx (a_number, a_by)))) fun (s1 : (Int × Int)) => (Option.bind (lift2 gcdI (some s1.1) (some s1.2)) fun (v_common_4 : Int) => (Option.bind (lift2 T2.mk (bind2 divG (some s1.1) (some v_common_4)) (bind2 divG (some s1.2) (some v_common_4))) fun r => some (Out.rt r))))
def m_fraction (a_number : Int) (a_by : Int) : Option (T2 Int Int) := finO none (b_fraction a_number a_by)
def b_plus (a_one : (T2 Int Int)) (a_two : (T2 Int Int)) : Option (Out Unit Unit (T2 Int Int)) := (Option.bind (app2 m_fraction (lift2 (· + ·) (bind2 mulG (lift1 T2.a (some a_one)) (lift1 T2.b (some a_two))) (bind2 mulG (lift1 T2.a (some a_two)) (lift1 T2.b (some a_one)))) (bind2 mulG (lift1 T2.b (some a_one)) (lift1 T2.b (some a_two)))) fun r => some (Out.rt r))
def m_plus (a_one : (T2 Int Int)) (a_two : (T2 Int Int)) : Option (T2 Int Int) := finO none (b_plus a_one a_two)
def b_lifted (a_told : (List (T2 Int Int))) : Option (Out Unit Unit (List (T2 Int Int))) := (Option.bind (Option.bind (some a_told) (lcL (fun (x1 : (T2 Int Int)) => (some true)) (fun (x1 : (T2 Int Int)) => (Option.bind (lift2 (fun i j => decide (i < j)) (lift1 T2.a (some x1)) (some (0 : Int))) fun t => bif t then (app2 m_plus (some x1) (lift2 T2.mk (lift1 (fun i => -i) (bind2 divG (lift1 T2.a (some x1)) (lift1 T2.b (some x1)))) (some (1 : Int)))) else (some x1))))) fun r => some (Out.rt r))
def m_lifted (a_told : (List (T2 Int Int))) : Option (List (T2 Int Int)) := finO none (b_lifted a_told)
def b_column_of (a_table : (List (List Int))) (a_rows : (List Int)) (a_columns : (List Int)) (a_place : Int) : Option (Out Unit Unit (List (T2 Int Int))) := (Option.bind (app1 m_measure_of (app3 m_square_at (some a_table) (some a_rows) (some a_columns))) fun (v_whole_1 : Int) => (Option.bind (Option.bind (some ([] : List (T2 Int Int))) szG) fun (v_found_2 : (List (T2 Int Int))) => (Option.bind (Option.bind (lift1 (fun l => (l.length : Int)) (some a_columns)) rng1) fun l => bindOut (forL (fun (s3 : (List (T2 Int Int))) (y4 : Int) => (Option.bind (app3 m_square_at (some a_table) (bind2 catG (lift3 cutL (some a_rows) (some none) (lift1 some (some a_place))) (lift3 cutL (some a_rows) (lift1 some (lift2 (· + ·) (some a_place) (some (1 : Int)))) (some none))) (bind2 catG (lift3 cutL (some a_columns) (some none) (lift1 some (some y4))) (lift3 cutL (some a_columns) (lift1 some (lift2 (· + ·) (some y4) (some (1 : Int)))) (some none)))) fun (v_rest_5 : (List (List Int))) => (Option.bind (Option.bind (lift2 (fun i j => decide (i = j)) (bind2 modG (lift2 (· + ·) (some a_place) (some y4)) (some (2 : Int))) (some (1 : Int))) fun t => bif t then (lift1 (fun i => -i) (some (1 : Int))) else (some (1 : Int))) fun (v_sign_6 : Int) => (Option.bind (Option.bind (app2 m_fraction (bind2 mulG (some v_sign_6) (app1 m_measure_of (some v_rest_5))) (some v_whole_1)) (appG s3)) fun (v7 : (List (T2 Int Int))) => (some (Out.nx v7)))))) v_found_2 l) fun (s3 : (List (T2 Int Int))) => (Option.bind (some s3) fun r => some (Out.rt r)))))
def m_column_of (a_table : (List (List Int))) (a_rows : (List Int)) (a_columns : (List Int)) (a_place : Int) : Option (List (T2 Int Int)) := finO none (b_column_of a_table a_rows a_columns a_place)
def b_total (a_told : (List (T2 Int Int))) : Option (Out Unit Unit (T2 Int Int)) := (Option.bind (lift2 T2.mk (some (0 : Int)) (some (1 : Int))) fun (v_found_1 : (T2 Int Int)) => (Option.bind (some a_told) fun l => bindOut (forL (fun (s2 : (T2 Int Int)) (y3 : (T2 Int Int)) => (Option.bind (app2 m_plus (some s2) (some y3)) fun (v_found_4 : (T2 Int Int)) => (some (Out.nx v_found_4)))) v_found_1 l) fun (s2 : (T2 Int Int)) => (Option.bind (some s2) fun r => some (Out.rt r))))
def m_total (a_told : (List (T2 Int Int))) : Option (T2 Int Int) := finO none (b_total a_told)
def b_times (a_one : (T2 Int Int)) (a_two : (T2 Int Int)) : Option (Out Unit Unit (T2 Int Int)) := (Option.bind (app2 m_fraction (bind2 mulG (lift1 T2.a (some a_one)) (lift1 T2.a (some a_two))) (bind2 mulG (lift1 T2.b (some a_one)) (lift1 T2.b (some a_two)))) fun r => some (Out.rt r))
def m_times (a_one : (T2 Int Int)) (a_two : (T2 Int Int)) : Option (T2 Int Int) := finO none (b_times a_one a_two)
def b_sum_of (a_row : (List Int)) (a_told : (List (T2 Int Int))) : Option (Out Unit Unit (T2 Int Int)) := (Option.bind (app1 m_total (Option.bind (lift2 zipL (some a_row) (some a_told)) (lcL (fun (x1 : (T2 Int (T2 Int Int))) => (some true)) (fun (x1 : (T2 Int (T2 Int Int))) => (app2 m_times (lift2 T2.mk (some x1.a) (some (1 : Int))) (some x1.b)))))) fun r => some (Out.rt r))
def m_sum_of (a_row : (List Int)) (a_told : (List (T2 Int Int))) : Option (T2 Int Int) := finO none (b_sum_of a_row a_told)
def b_broken (a_table : (List (List Int))) : Option (Out Unit Unit (Option (T2 (List Int) (List (T2 Int Int))))) := (outX (app1 m_check_table (some a_table)) fun _ => (Option.bind (app1 m_bad_of (some a_table)) fun (v_square_1 : (Option (T2 (List Int) (List Int)))) => (Option.bind (lift1 Option.isNone (some v_square_1)) fun t => bindOut (bif t then (Option.bind (some (none : (Option (T2 (List Int) (List (T2 Int Int)))))) fun r => some (Out.rt r)) else (some (Out.nx ()))) fun (s2 : Unit) => (Option.bind (Option.bind (some v_square_1) id) fun (u3 : (T2 (List Int) (List Int))) => (Option.bind (Option.bind (Option.bind (lift1 (fun l => (l.length : Int)) (some u3.a)) rng1) (lcL (fun (x5 : Int) => (some true)) (fun (x5 : Int) => (app4 m_column_of (some a_table) (some u3.a) (some u3.b) (some x5))))) fun (v_columns_of_4 : (List (List (T2 Int Int)))) => (Option.bind (app1 m_lifted (bind2 atI (Option.bind (some v_columns_of_4) (lcL (fun (x7 : (List (T2 Int Int))) => (lift1 (fun l => l.any id) (Option.bind (some x7) (lcL (fun (x8 : (T2 Int Int)) => (some true)) (fun (x8 : (T2 Int Int)) => (lift2 (fun i j => decide (j < i)) (lift1 T2.b (some x8)) (some (1 : Int)))))))) (fun (x7 : (List (T2 Int Int))) => (some x7)))) (some (0 : Int)))) fun (v_own_6 : (List (T2 Int Int))) => (Option.bind (Option.bind (Option.bind (lift1 (fun l => (l.length : Int)) (bind2 atI (some a_table) (some (0 : Int)))) rng1) (lcL (fun (x10 : Int) => (some true)) (fun (x10 : Int) => (Option.bind (lift2 (fun x l => decide (x ∈ l)) (some x10) (some u3.b)) fun t => bif t then (bind2 atI (some v_own_6) (bind2 indexG (some u3.b) (some x10))) else (lift2 T2.mk (some (0 : Int)) (some (1 : Int))))))) fun (v_told_9 : (List (T2 Int Int))) => (Option.bind (Option.bind (some ([] : List Int)) szG) fun (v_limits_11 : (List Int)) => (Option.bind (lift1 enumL (some a_table)) fun l => bindOut (forL (fun (s12 : (List Int)) (y13 : (T2 Int (List Int))) => (Option.bind (app2 m_sum_of (some y13.b) (some v_told_9)) fun (v_here_14 : (T2 Int Int)) => (Option.bind (Option.bind (Option.bind (lift2 (fun x l => decide (x ∈ l)) (some y13.a) (some u3.a)) fun t => bif t then (lift1 T2.a (some v_here_14)) else (lift2 (· + ·) (bind2 divG (lift1 T2.a (some v_here_14)) (lift1 T2.b (some v_here_14))) (some (1 : Int)))) (appG s12)) fun (v15 : (List Int)) => (some (Out.nx v15))))) v_limits_11 l) fun (s12 : (List Int)) => (Option.bind (lift1 (some : (T2 (List Int) (List (T2 Int Int))) → Option (T2 (List Int) (List (T2 Int Int)))) (lift2 T2.mk (some s12) (some v_told_9))) fun r => some (Out.rt r)))))))))))
def m_broken (a_table : (List (List Int))) : Option (Er ⊕ (Option (T2 (List Int) (List (T2 Int Int))))) := finX none (b_broken a_table)
def b_is_less (a_one : (T2 Int Int)) (a_two : (T2 Int Int)) : Option (Out Unit Unit Bool) := (Option.bind (lift2 (fun i j => decide (i < j)) (bind2 mulG (lift1 T2.a (some a_one)) (lift1 T2.b (some a_two))) (bind2 mulG (lift1 T2.a (some a_two)) (lift1 T2.b (some a_one)))) fun r => some (Out.rt r))
def m_is_less (a_one : (T2 Int Int)) (a_two : (T2 Int Int)) : Option Bool := finO none (b_is_less a_one a_two)
def b_over (a_one : (T2 Int Int)) (a_two : (T2 Int Int)) : Option (Out Unit Unit (T2 Int Int)) := (Option.bind (app2 m_fraction (bind2 mulG (lift1 T2.a (some a_one)) (lift1 T2.b (some a_two))) (bind2 mulG (lift1 T2.b (some a_one)) (lift1 T2.a (some a_two)))) fun r => some (Out.rt r))
def m_over (a_one : (T2 Int Int)) (a_two : (T2 Int Int)) : Option (T2 Int Int) := finO none (b_over a_one a_two)
def b_minus (a_one : (T2 Int Int)) (a_two : (T2 Int Int)) : Option (Out Unit Unit (T2 Int Int)) := (Option.bind (app2 m_fraction (lift2 (· - ·) (bind2 mulG (lift1 T2.a (some a_one)) (lift1 T2.b (some a_two))) (bind2 mulG (lift1 T2.a (some a_two)) (lift1 T2.b (some a_one)))) (bind2 mulG (lift1 T2.b (some a_one)) (lift1 T2.b (some a_two)))) fun r => some (Out.rt r))
def m_minus (a_one : (T2 Int Int)) (a_two : (T2 Int Int)) : Option (T2 Int Int) := finO none (b_minus a_one a_two)
def b_rank_of (a_rows : (List (List (T2 Int Int)))) : Option (Out Unit Unit Int) := (Option.bind (Option.bind (some a_rows) (lcL (fun (x2 : (List (T2 Int Int))) => (some true)) (fun (x2 : (List (T2 Int Int))) => (some x2)))) fun (v_left_1 : (List (List (T2 Int Int)))) => (Option.bind (some (0 : Int)) fun (v_found_3 : Int) => (bindOut (whileF (fun (s4 : ((List (List (T2 Int Int))) × Int)) => (lift2 (fun i j => decide (j < i)) (lift1 (fun l => (l.length : Int)) (some s4.1)) (some (0 : Int)))) (fun (s4 : ((List (List (T2 Int Int))) × Int)) => (Option.bind (bind2 atI (some s4.1) (some (0 : Int))) fun (v_row_5 : (List (T2 Int Int))) => (Option.bind (lift3 cutL (some s4.1) (lift1 some (some (1 : Int))) (some none)) fun (v_left_6 : (List (List (T2 Int Int)))) => (Option.bind (Option.bind (lift1 enumL (some v_row_5)) (lcL (fun (x8 : (T2 Int (T2 Int Int))) => (lift2 (fun i j => !decide (i = j)) (lift1 T2.a (some x8.b)) (some (0 : Int)))) (fun (x8 : (T2 Int (T2 Int Int))) => (some x8.a)))) fun (v_places_7 : (List Int)) => (Option.bind (lift2 (fun i j => decide (j < i)) (lift1 (fun l => (l.length : Int)) (some v_places_7)) (some (0 : Int))) fun t => bindOut (bif t then (Option.bind (lift2 (· + ·) (some s4.2) (some (1 : Int))) fun (v_found_10 : Int) => (Option.bind (Option.bind (some v_left_6) (lcL (fun (x12 : (List (T2 Int Int))) => (some true)) (fun (x12 : (List (T2 Int Int))) => (app2 m_over (bind2 atI (some x12) (bind2 atI (some v_places_7) (some (0 : Int)))) (bind2 atI (some v_row_5) (bind2 atI (some v_places_7) (some (0 : Int)))))))) fun (v_by_11 : (List (T2 Int Int))) => (Option.bind (Option.bind (lift2 zipL (some v_left_6) (some v_by_11)) (lcL (fun (x14 : (T2 (List (T2 Int Int)) (T2 Int Int))) => (some true)) (fun (x14 : (T2 (List (T2 Int Int)) (T2 Int Int))) => (Option.bind (lift2 zipL (some x14.a) (some v_row_5)) (lcL (fun (x15 : (T2 (T2 Int Int) (T2 Int Int))) => (some true)) (fun (x15 : (T2 (T2 Int Int) (T2 Int Int))) => (app2 m_minus (some x15.a) (app2 m_times (some x14.b) (some x15.b))))))))) fun (v_left_13 : (List (List (T2 Int Int)))) => (some (Out.nx (v_left_13, v_found_10)))))) else (some (Out.nx (v_left_6, s4.2)))) fun (s9 : ((List (List (T2 Int Int))) × Int)) => (some (Out.nx (s9.1, s9.2)))))))) (v_left_1.length + v_found_3.natAbs + 2) (v_left_1, v_found_3)) fun (s4 : ((List (List (T2 Int Int))) × Int)) => (Option.bind (some s4.2) fun r => some (Out.rt r)))))
def m_rank_of (a_rows : (List (List (T2 Int Int)))) : Option Int := finO none (b_rank_of a_rows)
def b_is_fraction (a_told : (T2 Int Int)) : Option (Out Unit Unit Bool) := (Option.bind (andG (lift2 (fun i j => decide (j < i)) (lift1 T2.b (some a_told)) (some (0 : Int))) (lift2 (fun i j => decide (i = j)) (lift2 gcdI (lift1 T2.a (some a_told)) (lift1 T2.b (some a_told))) (some (1 : Int)))) fun r => some (Out.rt r))
def m_is_fraction (a_told : (T2 Int Int)) : Option Bool := finO none (b_is_fraction a_told)
def b_is_broken (a_table : (List (List Int))) (a_limits : (List Int)) (a_told : (List (T2 Int Int))) : Option (Out Unit Unit Bool) := (outX (app1 m_check_table (some a_table)) fun _ => (Option.bind (lift1 (fun l => (l.length : Int)) (bind2 atI (some a_table) (some (0 : Int)))) fun (v_many_1 : Int) => (Option.bind (orG (lift2 (fun i j => !decide (i = j)) (lift1 (fun l => (l.length : Int)) (some a_limits)) (lift1 (fun l => (l.length : Int)) (some a_table))) (orG (lift2 (fun i j => !decide (i = j)) (lift1 (fun l => (l.length : Int)) (some a_told)) (some v_many_1)) (lift1 (fun x => !x) (lift1 (fun l => l.all id) (Option.bind (some a_told) (lcL (fun (x2 : (T2 Int Int)) => (some true)) (fun (x2 : (T2 Int Int)) => (andG (app1 m_is_fraction (some x2)) (lift2 (fun i j => decide (j ≤ i)) (lift1 T2.a (some x2)) (some (0 : Int))))))))))) fun t => bindOut (bif t then (Option.bind (some false) fun r => some (Out.rt r)) else (some (Out.nx ()))) fun (s3 : Unit) => (Option.bind (lift1 (fun l => l.any id) (Option.bind (lift2 zipL (some a_table) (some a_limits)) (lcL (fun (x4 : (T2 (List Int) Int)) => (some true)) (fun (x4 : (T2 (List Int) Int)) => (app2 m_is_less (lift2 T2.mk (some x4.b) (some (1 : Int))) (app2 m_sum_of (some x4.a) (some a_told))))))) fun t => bindOut (bif t then (Option.bind (some false) fun r => some (Out.rt r)) else (some (Out.nx ()))) fun (s5 : Unit) => (Option.bind (Option.bind (lift2 zipL (some a_table) (some a_limits)) (lcL (fun (x7 : (T2 (List Int) Int)) => (lift2 (fun x y => decide (x = y)) (app2 m_sum_of (some x7.a) (some a_told)) (lift2 T2.mk (some x7.b) (some (1 : Int))))) (fun (x7 : (T2 (List Int) Int)) => (Option.bind (some x7.a) (lcL (fun (x8 : Int) => (some true)) (fun (x8 : Int) => (lift2 T2.mk (some x8) (some (1 : Int))))))))) fun (v_tight_6 : (List (List (T2 Int Int)))) => (Option.bind (bind2 catG (some v_tight_6) (Option.bind (Option.bind (some v_many_1) rng1) (lcL (fun (x10 : Int) => (lift2 (fun x y => decide (x = y)) (bind2 atI (some a_told) (some x10)) (lift2 T2.mk (some (0 : Int)) (some (1 : Int))))) (fun (x10 : Int) => (Option.bind (Option.bind (some v_many_1) rng1) (lcL (fun (x11 : Int) => (some true)) (fun (x11 : Int) => (lift2 T2.mk (lift1 (fun b => if b = true then (1 : Int) else 0) (lift2 (fun i j => decide (i = j)) (some x11) (some x10))) (some (1 : Int)))))))))) fun (v_tight_9 : (List (List (T2 Int Int)))) => (Option.bind (andG (lift2 (fun i j => decide (i = j)) (app1 m_rank_of (some v_tight_9)) (some v_many_1)) (lift1 (fun l => l.any id) (Option.bind (some a_told) (lcL (fun (x12 : (T2 Int Int)) => (some true)) (fun (x12 : (T2 Int Int)) => (lift2 (fun i j => decide (j < i)) (lift1 T2.b (some x12)) (some (1 : Int)))))))) fun r => some (Out.rt r))))))))
def m_is_broken (a_table : (List (List Int))) (a_limits : (List Int)) (a_told : (List (T2 Int Int))) : Option (Er ⊕ Bool) := finX none (b_is_broken a_table a_limits a_told)
def b_partings (a_table : (List (List Int))) (a_rows : (List Int)) : Option (Out Unit Unit (Option (List Int))) := (outX (app1 m_check_table (some a_table)) fun _ => (Option.bind (lift1 enumL (some a_rows)) fun l => bindOut (forL (fun (s1 : Unit) (y2 : (T2 Int Int)) => (Option.bind (orG (lift1 (fun x => !x) (chainG cLe cLt (some (0 : Int)) (some y2.b) (lift1 (fun l => (l.length : Int)) (some a_table)))) (andG (lift2 (fun i j => decide (j < i)) (some y2.a) (some (0 : Int))) (lift2 (fun i j => decide (j ≤ i)) (bind2 atI (some a_rows) (lift2 (· - ·) (some y2.a) (some (1 : Int)))) (some y2.b)))) fun t => bindOut (bif t then (Option.bind (some y2.a) fun n => some (Out.er ⟨"NotASet", n⟩)) else (some (Out.nx ()))) fun (s3 : Unit) => (some (Out.nx ())))) () l) fun (s1 : Unit) => (Option.bind (app2 m_parting_of (some a_table) (some a_rows)) fun r => some (Out.rt r))))
def m_partings (a_table : (List (List Int))) (a_rows : (List Int)) : Option (Er ⊕ (Option (List Int))) := finX none (b_partings a_table a_rows)
def b__law_of (a_way : Int) (a_table : (List (List Int))) (a_rows : (List Int)) : Option (Out Unit Unit (Option (T2 Str Int))) := (tryO (Option.bind (lift2 (fun i j => decide (i = j)) (some a_way) (some (0 : Int))) fun t => bindOut (bif t then (outX (app1 m_is_sure (some a_table)) fun _ => (some (Out.nx ()))) else (Option.bind (lift2 (fun i j => decide (i = j)) (some a_way) (some (1 : Int))) fun t => bindOut (bif t then (outX (app1 m_bad_square (some a_table)) fun _ => (some (Out.nx ()))) else (Option.bind (lift2 (fun i j => decide (i = j)) (some a_way) (some (2 : Int))) fun t => bindOut (bif t then (outX (app3 m_measure (some a_table) (some a_rows) (Option.bind (some ([] : List Int)) szG)) fun _ => (some (Out.nx ()))) else (Option.bind (lift2 (fun i j => decide (i = j)) (some a_way) (some (3 : Int))) fun t => bindOut (bif t then (outX (app1 m_unparted (some a_table)) fun _ => (some (Out.nx ()))) else (Option.bind (lift2 (fun i j => decide (i = j)) (some a_way) (some (4 : Int))) fun t => bindOut (bif t then (outX (app1 m_are_stretches (some a_table)) fun _ => (some (Out.nx ()))) else (Option.bind (lift2 (fun i j => decide (i = j)) (some a_way) (some (5 : Int))) fun t => bindOut (bif t then (outX (app1 m_sides (some a_table)) fun _ => (some (Out.nx ()))) else (Option.bind (lift2 (fun i j => decide (i = j)) (some a_way) (some (6 : Int))) fun t => bindOut (bif t then (outX (app1 m_broken (some a_table)) fun _ => (some (Out.nx ()))) else (Option.bind (lift2 (fun i j => decide (i = j)) (some a_way) (some (7 : Int))) fun t => bindOut (bif t then (outX (app3 m_is_broken (some a_table) (Option.bind (some ([] : List Int)) szG) (Option.bind (some ([] : List (T2 Int Int))) szG)) fun _ => (some (Out.nx ()))) else (outX (app2 m_partings (some a_table) (some a_rows)) fun _ => (some (Out.nx ())))) fun (s9 : Unit) => (some (Out.nx ())))) fun (s8 : Unit) => (some (Out.nx ())))) fun (s7 : Unit) => (some (Out.nx ())))) fun (s6 : Unit) => (some (Out.nx ())))) fun (s5 : Unit) => (some (Out.nx ())))) fun (s4 : Unit) => (some (Out.nx ())))) fun (s3 : Unit) => (some (Out.nx ())))) fun (s2 : Unit) => (some (Out.nx ()))) (fun e => lift1 some (inK KS m__law_word e)) fun (s1 : Unit) => (Option.bind (some (none : (Option (T2 Str Int)))) fun r => some (Out.rt r)))
def m__law_of (a_way : Int) (a_table : (List (List Int))) (a_rows : (List Int)) : Option (Option (T2 Str Int)) := finO none (b__law_of a_way a_table a_rows)
def b_law (a_script : (List Int)) : Option (Out Unit Unit Bool) := (Option.bind (m__law_draws a_script) fun (v_draws_1 : (List Int)) => (Option.bind (Option.bind (some (8 : Int)) rng1) fun l => bindOut (forL (fun (s2 : Unit) (y3 : Int) => (Option.bind (lift2 (· + ·) (some (10 : Int)) (bind2 mulG (some (60 : Int)) (some y3))) fun (v_at_4 : Int) => (Option.bind (lift2 (· + ·) (some (1 : Int)) (app3 m__law_mix (some v_draws_1) (some v_at_4) (some (4 : Int)))) fun (v_wide_5 : Int) => (Option.bind (Option.bind (Option.bind (lift2 (· + ·) (some (1 : Int)) (app3 m__law_mix (some v_draws_1) (lift2 (· + ·) (some v_at_4) (some (1 : Int))) (some (4 : Int)))) rng1) (lcL (fun (x7 : Int) => (some true)) (fun (x7 : Int) => (Option.bind (Option.bind (some v_wide_5) rng1) (lcL (fun (x8 : Int) => (some true)) (fun (x8 : Int) => (lift2 (· - ·) (app3 m__law_mix (some v_draws_1) (lift2 (· + ·) (lift2 (· + ·) (lift2 (· + ·) (some v_at_4) (some (5 : Int))) (bind2 mulG (some (4 : Int)) (some x7))) (some x8)) (some (3 : Int))) (some (1 : Int))))))))) fun (v_table_6 : (List (List Int))) => (Option.bind (app3 m__law_mix (some v_draws_1) (lift2 (· + ·) (some v_at_4) (some (2 : Int))) (lift1 (fun l => (l.length : Int)) (some v_table_6))) fun (v_spot_9 : Int) => (Option.bind (app3 m__law_mix (some v_draws_1) (lift2 (· + ·) (some v_at_4) (some (3 : Int))) (some (5 : Int))) fun (v_word_10 : Int) => (Option.bind (lift2 (fun i j => decide (i = j)) (some v_word_10) (some (0 : Int))) fun t => bindOut (bif t then (Option.bind (bind2 atI (Option.bind (lift2 List.cons (Option.bind (some ([] : List (List Int))) szG) (lift2 List.cons (bind2 repG (some v_table_6) (some (6 : Int))) (lift2 List.cons (Option.bind (lift2 List.cons (Option.bind (some ([] : List Int)) szG) (some ([] : List (List Int)))) szG) (lift2 List.cons (Option.bind (some v_table_6) (lcL (fun (x13 : (List Int)) => (some true)) (fun (x13 : (List Int)) => (bind2 repG (some x13) (some (6 : Int)))))) (some ([] : List (List (List Int)))))))) szG) (app3 m__law_mix (some v_draws_1) (lift2 (· + ·) (some v_at_4) (some (4 : Int))) (some (4 : Int)))) fun (v_table_12 : (List (List Int))) => (some (Out.nx v_table_12))) else (Option.bind (lift2 (fun i j => decide (i < j)) (some v_word_10) (some (3 : Int))) fun t => bindOut (bif t then (Option.bind (bind2 (fun v j => setG v_table_6 j v) (bind2 atI (Option.bind (lift2 List.cons (bind2 catG (Option.bind (some v_spot_9) fun j => atI v_table_6 j) (Option.bind (lift2 List.cons (some (1 : Int)) (some ([] : List Int))) szG)) (lift2 List.cons (lift3 cutL (Option.bind (some v_spot_9) fun j => atI v_table_6 j) (lift1 some (some (1 : Int))) (some none)) (lift2 List.cons (bind2 catG (Option.bind (lift2 List.cons (some (2 : Int)) (some ([] : List Int))) szG) (lift3 cutL (Option.bind (some v_spot_9) fun j => atI v_table_6 j) (lift1 some (some (1 : Int))) (some none))) (lift2 List.cons (bind2 catG (Option.bind (lift2 List.cons (lift1 (fun i => -i) (some (2 : Int))) (some ([] : List Int))) szG) (lift3 cutL (Option.bind (some v_spot_9) fun j => atI v_table_6 j) (lift1 some (some (1 : Int))) (some none))) (some ([] : List (List Int))))))) szG) (app3 m__law_mix (some v_draws_1) (lift2 (· + ·) (some v_at_4) (some (4 : Int))) (some (4 : Int)))) (some v_spot_9)) fun (v_table_15 : (List (List Int))) => (some (Out.nx v_table_15))) else (some (Out.nx v_table_6))) fun (s14 : (List (List Int))) => (some (Out.nx s14)))) fun (s11 : (List (List Int))) => (Option.bind (Option.bind (Option.bind (lift1 (fun l => (l.length : Int)) (some s11)) rng1) (lcL (fun (x17 : Int) => (lift2 (fun i j => decide (i = j)) (app3 m__law_mix (some v_draws_1) (lift2 (· + ·) (lift2 (· + ·) (some v_at_4) (some (25 : Int))) (some x17)) (some (2 : Int))) (some (0 : Int)))) (fun (x17 : Int) => (some x17)))) fun (v_rows_16 : (List Int)) => (Option.bind (bind2 atI (Option.bind (lift2 List.cons (some v_rows_16) (lift2 List.cons (some v_rows_16) (lift2 List.cons (lift1 List.reverse (some v_rows_16)) (lift2 List.cons (bind2 catG (some v_rows_16) (Option.bind (lift2 List.cons (lift1 (fun l => (l.length : Int)) (some s11)) (some ([] : List Int))) szG)) (lift2 List.cons (bind2 catG (Option.bind (lift2 List.cons (lift1 (fun i => -i) (some (1 : Int))) (some ([] : List Int))) szG) (some v_rows_16)) (lift2 List.cons (bind2 catG (some v_rows_16) (lift3 cutL (some v_rows_16) (some none) (lift1 some (some (1 : Int))))) (some ([] : List (List Int))))))))) szG) (app3 m__law_mix (some v_draws_1) (lift2 (· + ·) (some v_at_4) (some (24 : Int))) (some (6 : Int)))) fun (v_rows_18 : (List Int)) => (Option.bind (Option.bind (lift2 T2.mk (some s11) (some v_rows_18)) fun x => reprD (enc x)) fun (v_kept_19 : Str) => (Option.bind (app1 m__law_fault (some s11)) fun (v_fault_20 : (Option (T2 Str Int))) => (Option.bind (Option.bind (Option.bind (lift1 (fun l => (l.length : Int)) (some v_rows_18)) rng1) (lcL (fun (x22 : Int) => (orG (lift1 (fun x => !x) (chainG cLe cLt (some (0 : Int)) (bind2 atI (some v_rows_18) (some x22)) (lift1 (fun l => (l.length : Int)) (some s11)))) (andG (lift2 (fun i j => decide (j < i)) (some x22) (some (0 : Int))) (lift2 (fun i j => decide (j ≤ i)) (bind2 atI (some v_rows_18) (lift2 (· - ·) (some x22) (some (1 : Int)))) (bind2 atI (some v_rows_18) (some x22)))))) (fun (x22 : Int) => (some x22)))) fun (v_bad_21 : (List Int)) => (Option.bind (orD (some v_fault_20) (bind2 atI (Option.bind (lift2 List.cons (some (none : (Option (T2 Str Int)))) (lift2 List.cons (lift1 (some : (T2 Str Int) → Option (T2 Str Int)) (lift2 T2.mk (some ("set" : Str)) (bind2 atI (bind2 catG (some v_bad_21) (Option.bind (lift2 List.cons (some (0 : Int)) (some ([] : List Int))) szG)) (some (0 : Int))))) (some ([] : List (Option (T2 Str Int)))))) szG) (lift1 (fun b => if b = true then (1 : Int) else 0) (lift2 (fun x y => !decide (x = y)) (some v_bad_21) (Option.bind (some ([] : List Int)) szG))))) fun (v_last_23 : (Option (T2 Str Int))) => (Option.bind (orG (bind2 neG (Option.bind (Option.bind (some (9 : Int)) rng1) (lcL (fun (x24 : Int) => (some true)) (fun (x24 : Int) => (app3 m__law_of (some x24) (some s11) (some v_rows_18))))) (bind2 catG (bind2 repG (Option.bind (lift2 List.cons (some v_fault_20) (some ([] : List (Option (T2 Str Int))))) szG) (some (8 : Int))) (Option.bind (lift2 List.cons (some v_last_23) (some ([] : List (Option (T2 Str Int))))) szG))) (lift2 (fun i j => !decide (i = j)) (Option.bind (lift2 T2.mk (some s11) (some v_rows_18)) fun x => reprD (enc x)) (some v_kept_19))) fun t => bindOut (bif t then (Option.bind (some false) fun r => some (Out.rt r)) else (some (Out.nx ()))) fun (s25 : Unit) => (some (Out.nx ())))))))))))))))) () l) fun (s2 : Unit) => (Option.bind (some true) fun r => some (Out.rt r))))
def m_law (a_script : (List Int)) : Option Bool := finO none (b_law a_script)
end Lay.K42

set_option Elab.async false
set_option linter.all false
set_option maxRecDepth 100000
namespace Lay.K42
open PySem PySem.Spec PyProof.Rows L2 Lay
open Lay.Enc (enc)
def topS (i : Nat) : Stmt := PySem.Challenge.pw_wholebest_k42_errors_of_sure.main.body.getD i (.Pass ⟨0, 0, 0, 0⟩)
abbrev st__law_draws : Stmt := topS 42
abbrev N__law_draws : List Str := ["script", "draws", "k", "rest", "turn", "mixed"]
theorem fs__law_draws : FnScope N__law_draws ["script"] (defScope st__law_draws) := ⟨rfl, rfl, rfl, by decide +kernel, rfl, by decide +kernel, by decide +kernel⟩
abbrev st__law_mix : Stmt := topS 43
abbrev N__law_mix : List Str := ["draws", "k", "many", "cell"]
theorem fs__law_mix : FnScope N__law_mix ["draws", "k", "many"] (defScope st__law_mix) := ⟨rfl, rfl, rfl, by decide +kernel, rfl, by decide +kernel, by decide +kernel⟩
abbrev st__law_fault : Stmt := topS 46
abbrev N__law_fault : List Str := ["table", "i", "row", "one"]
theorem fs__law_fault : FnScope N__law_fault ["table"] (defScope st__law_fault) := ⟨rfl, rfl, rfl, by decide +kernel, rfl, by decide +kernel, by decide +kernel⟩
abbrev st_check_table : Stmt := topS 8
abbrev N_check_table : List Str := ["table", "i", "row", "one"]
theorem fs_check_table : FnScope N_check_table ["table"] (defScope st_check_table) := ⟨rfl, rfl, rfl, by decide +kernel, rfl, by decide +kernel, by decide +kernel⟩
abbrev st_choices : Stmt := topS 9
abbrev N_choices : List Str := ["many", "size", "found", "k", "told"]
theorem fs_choices : FnScope N_choices ["many", "size"] (defScope st_choices) := ⟨rfl, rfl, rfl, by decide +kernel, rfl, by decide +kernel, by decide +kernel⟩
abbrev st_measure_of : Stmt := topS 11
abbrev N_measure_of : List Str := ["rows", "found", "j", "number", "rest", "row"]
theorem fs_measure_of : FnScope N_measure_of ["rows"] (defScope st_measure_of) := ⟨rfl, rfl, rfl, by decide +kernel, rfl, by decide +kernel, by decide +kernel⟩
abbrev st_square_at : Stmt := topS 12
abbrev N_square_at : List Str := ["table", "rows", "columns", "i", "j"]
theorem fs_square_at : FnScope N_square_at ["table", "rows", "columns"] (defScope st_square_at) := ⟨rfl, rfl, rfl, by decide +kernel, rfl, by decide +kernel, by decide +kernel⟩
abbrev st_bad_of : Stmt := topS 13
abbrev N_bad_of : List Str := ["table", "size", "rows", "columns"]
theorem fs_bad_of : FnScope N_bad_of ["table"] (defScope st_bad_of) := ⟨rfl, rfl, rfl, by decide +kernel, rfl, by decide +kernel, by decide +kernel⟩
abbrev st_is_sure : Stmt := topS 14
abbrev N_is_sure : List Str := ["table"]
theorem fs_is_sure : FnScope N_is_sure ["table"] (defScope st_is_sure) := ⟨rfl, rfl, rfl, by decide +kernel, rfl, by decide +kernel, by decide +kernel⟩
abbrev st__law_word : Stmt := topS 44
abbrev N__law_word : List Str := ["e", "words", "word", "is_it"]
theorem fs__law_word : FnScope N__law_word ["e"] (defScope st__law_word) := ⟨rfl, rfl, rfl, by decide +kernel, rfl, by decide +kernel, by decide +kernel⟩
abbrev st_bad_square : Stmt := topS 15
abbrev N_bad_square : List Str := ["table"]
theorem fs_bad_square : FnScope N_bad_square ["table"] (defScope st_bad_square) := ⟨rfl, rfl, rfl, by decide +kernel, rfl, by decide +kernel, by decide +kernel⟩
abbrev st_is_set : Stmt := topS 16
abbrev N_is_set : List Str := ["told", "many", "k"]
theorem fs_is_set : FnScope N_is_set ["told", "many"] (defScope st_is_set) := ⟨rfl, rfl, rfl, by decide +kernel, rfl, by decide +kernel, by decide +kernel⟩
abbrev st_measure : Stmt := topS 17
abbrev N_measure : List Str := ["table", "rows", "columns"]
theorem fs_measure : FnScope N_measure ["table", "rows", "columns"] (defScope st_measure) := ⟨rfl, rfl, rfl, by decide +kernel, rfl, by decide +kernel, by decide +kernel⟩
abbrev st_rows_from : Stmt := topS 10
abbrev N_rows_from : List Str := ["numbers", "size", "found", "_", "told", "one"]
theorem fs_rows_from : FnScope N_rows_from ["numbers", "size"] (defScope st_rows_from) := ⟨rfl, rfl, rfl, by decide +kernel, rfl, by decide +kernel, by decide +kernel⟩
abbrev st_parting_of : Stmt := topS 18
abbrev N_parting_of : List Str := ["table", "rows", "signs", "sums", "j", "one", "sign", "i"]
theorem fs_parting_of : FnScope N_parting_of ["table", "rows"] (defScope st_parting_of) := ⟨rfl, rfl, rfl, by decide +kernel, rfl, by decide +kernel, by decide +kernel⟩
abbrev st_unparted : Stmt := topS 20
abbrev N_unparted : List Str := ["table", "size", "rows"]
theorem fs_unparted : FnScope N_unparted ["table"] (defScope st_unparted) := ⟨rfl, rfl, rfl, by decide +kernel, rfl, by decide +kernel, by decide +kernel⟩
abbrev st_is_stretch : Stmt := topS 31
abbrev N_is_stretch : List Str := ["row", "ones", "j", "one"]
theorem fs_is_stretch : FnScope N_is_stretch ["row"] (defScope st_is_stretch) := ⟨rfl, rfl, rfl, by decide +kernel, rfl, by decide +kernel, by decide +kernel⟩
abbrev st_are_stretches : Stmt := topS 32
abbrev N_are_stretches : List Str := ["table", "row"]
theorem fs_are_stretches : FnScope N_are_stretches ["table"] (defScope st_are_stretches) := ⟨rfl, rfl, rfl, by decide +kernel, rfl, by decide +kernel, by decide +kernel⟩
abbrev st_fits : Stmt := topS 33
abbrev N_fits : List Str := ["table", "told", "j", "own", "i"]
theorem fs_fits : FnScope N_fits ["table", "told"] (defScope st_fits) := ⟨rfl, rfl, rfl, by decide +kernel, rfl, by decide +kernel, by decide +kernel⟩
abbrev st_sides : Stmt := topS 34
abbrev N_sides : List Str := ["table", "told"]
theorem fs_sides : FnScope N_sides ["table"] (defScope st_sides) := ⟨rfl, rfl, rfl, by decide +kernel, rfl, by decide +kernel, by decide +kernel⟩
abbrev st_fraction : Stmt := topS 23
abbrev N_fraction : List Str := ["number", "by", "common"]
theorem fs_fraction : FnScope N_fraction ["number", "by"] (defScope st_fraction) := ⟨rfl, rfl, rfl, by decide +kernel, rfl, by decide +kernel, by decide +kernel⟩
abbrev st_plus : Stmt := topS 24
abbrev N_plus : List Str := ["one", "two"]
theorem fs_plus : FnScope N_plus ["one", "two"] (defScope st_plus) := ⟨rfl, rfl, rfl, by decide +kernel, rfl, by decide +kernel, by decide +kernel⟩
abbrev st_lifted : Stmt := topS 36
abbrev N_lifted : List Str := ["told", "one"]
theorem fs_lifted : FnScope N_lifted ["told"] (defScope st_lifted) := ⟨rfl, rfl, rfl, by decide +kernel, rfl, by decide +kernel, by decide +kernel⟩
abbrev st_column_of : Stmt := topS 35
abbrev N_column_of : List Str := ["table", "rows", "columns", "place", "whole", "found", "j", "rest", "sign"]
theorem fs_column_of : FnScope N_column_of ["table", "rows", "columns", "place"] (defScope st_column_of) := ⟨rfl, rfl, rfl, by decide +kernel, rfl, by decide +kernel, by decide +kernel⟩
abbrev st_total : Stmt := topS 29
abbrev N_total : List Str := ["told", "found", "one"]
theorem fs_total : FnScope N_total ["told"] (defScope st_total) := ⟨rfl, rfl, rfl, by decide +kernel, rfl, by decide +kernel, by decide +kernel⟩
abbrev st_times : Stmt := topS 26
abbrev N_times : List Str := ["one", "two"]
theorem fs_times : FnScope N_times ["one", "two"] (defScope st_times) := ⟨rfl, rfl, rfl, by decide +kernel, rfl, by decide +kernel, by decide +kernel⟩
abbrev st_sum_of : Stmt := topS 37
abbrev N_sum_of : List Str := ["row", "told", "one", "number"]
theorem fs_sum_of : FnScope N_sum_of ["row", "told"] (defScope st_sum_of) := ⟨rfl, rfl, rfl, by decide +kernel, rfl, by decide +kernel, by decide +kernel⟩
abbrev st_broken : Stmt := topS 38
abbrev N_broken : List Str := ["table", "square", "columns_of", "own", "told", "limits", "rows", "columns", "i", "row", "here", "place", "j", "one", "number"]
theorem fs_broken : FnScope N_broken ["table"] (defScope st_broken) := ⟨rfl, rfl, rfl, by decide +kernel, rfl, by decide +kernel, by decide +kernel⟩
abbrev st_is_less : Stmt := topS 28
abbrev N_is_less : List Str := ["one", "two"]
theorem fs_is_less : FnScope N_is_less ["one", "two"] (defScope st_is_less) := ⟨rfl, rfl, rfl, by decide +kernel, rfl, by decide +kernel, by decide +kernel⟩
abbrev st_over : Stmt := topS 27
abbrev N_over : List Str := ["one", "two"]
theorem fs_over : FnScope N_over ["one", "two"] (defScope st_over) := ⟨rfl, rfl, rfl, by decide +kernel, rfl, by decide +kernel, by decide +kernel⟩
abbrev st_minus : Stmt := topS 25
abbrev N_minus : List Str := ["one", "two"]
theorem fs_minus : FnScope N_minus ["one", "two"] (defScope st_minus) := ⟨rfl, rfl, rfl, by decide +kernel, rfl, by decide +kernel, by decide +kernel⟩
abbrev st_rank_of : Stmt := topS 39
abbrev N_rank_of : List Str := ["rows", "left", "found", "row", "places", "by", "j", "one", "other", "share", "two"]
theorem fs_rank_of : FnScope N_rank_of ["rows"] (defScope st_rank_of) := ⟨rfl, rfl, rfl, by decide +kernel, rfl, by decide +kernel, by decide +kernel⟩
abbrev st_is_fraction : Stmt := topS 22
abbrev N_is_fraction : List Str := ["told"]
theorem fs_is_fraction : FnScope N_is_fraction ["told"] (defScope st_is_fraction) := ⟨rfl, rfl, rfl, by decide +kernel, rfl, by decide +kernel, by decide +kernel⟩
abbrev st_is_broken : Stmt := topS 40
abbrev N_is_broken : List Str := ["table", "limits", "told", "many", "tight", "one", "row", "limit", "k", "j"]
theorem fs_is_broken : FnScope N_is_broken ["table", "limits", "told"] (defScope st_is_broken) := ⟨rfl, rfl, rfl, by decide +kernel, rfl, by decide +kernel, by decide +kernel⟩
abbrev st_partings : Stmt := topS 19
abbrev N_partings : List Str := ["table", "rows", "k", "row"]
theorem fs_partings : FnScope N_partings ["table", "rows"] (defScope st_partings) := ⟨rfl, rfl, rfl, by decide +kernel, rfl, by decide +kernel, by decide +kernel⟩
abbrev st__law_of : Stmt := topS 45
abbrev N__law_of : List Str := ["way", "table", "rows", "e"]
theorem fs__law_of : FnScope N__law_of ["way", "table", "rows"] (defScope st__law_of) := ⟨rfl, rfl, rfl, by decide +kernel, rfl, by decide +kernel, by decide +kernel⟩
abbrev st_law : Stmt := topS 47
abbrev N_law : List Str := ["script", "draws", "turn", "at", "wide", "table", "spot", "word", "rows", "kept", "fault", "bad", "last", "i", "k", "j", "way", "row"]
theorem fs_law : FnScope N_law ["script"] (defScope st_law) := ⟨rfl, rfl, rfl, by decide +kernel, rfl, by decide +kernel, by decide +kernel⟩
abbrev st_ini : Stmt := inClass (topS 2) 0
theorem ini_ok {P : Program} {w : World} {K : PySem.W.Frag} {mg : Str → Option Value} {base : Heap} {f cc D cda : Addr} {oc dV kV doc pm ct : Value} {od an : Option Addr} {osl : Array (Option Value)} (lk : K.lookup f = some (⟨oc, od, .func (PySem.W.fnX "__init__" "WholeError.__init__" (defArgs st_ini) (defBody st_ini) (defScope st_ini) [(("__class__" : Str), cc)] dV kV doc pm an (.ref cda) ct), osl⟩ : Obj)) (hcd : PySem.W.codeIn K (.ref cda) "WholeError.__init__" = true) (SF : HX.SupF P K f cda cc D) (hmg : mg "super" = none) :
    FnOk P w K mg base CX0 1 f (PySem.W.fnX "__init__" "WholeError.__init__" (defArgs st_ini) (defBody st_ini) (defScope st_ini) [(("__class__" : Str), cc)] dV kV doc pm an (.ref cda) ct) ["self", "at"] (HX.spIni K D) :=
  HX.init_fn (F := ⟨"__init__", "WholeError.__init__", defArgs st_ini, defBody st_ini, defScope st_ini, [(("__class__" : Str), cc)], cda⟩) (N := ["self", "at", "__class__"]) lk hcd SF rfl rfl (NdefX.nscope_by (sc := defScope st_ini) (by decide +kernel)) rfl rfl rfl hmg (fun _ => rfl) (fun _ => rfl) (fun _ => rfl) (fun _ => rfl)
structure Facts (mg : Str → Option Value) : Prop where
  abs_ : mg "abs" = none
  all_ : mg "all" = none
  any_ : mg "any" = none
  c_MOST_LINES_ : ∃ t, mg "MOST_LINES" = some (.int 5 t)
  enumerate_ : mg "enumerate" = none
  gcd_ : mg "gcd" = some (.builtin "math.gcd")
  int_ : mg "int" = none
  isinstance_ : mg "isinstance" = none
  len_ : mg "len" = none
  list_ : mg "list" = none
  min_ : mg "min" = none
  range_ : mg "range" = none
  repr_ : mg "repr" = none
  sorted_ : mg "sorted" = none
  sum_ : mg "sum" = none
  zip_ : mg "zip" = none
end Lay.K42

set_option Elab.async false
set_option linter.all false
set_option maxRecDepth 100000
namespace Lay.K42
open PySem PySem.Spec PyProof.Rows L2 Lay
open Lay.Enc (enc)
set_option maxHeartbeats 0
theorem bk__law_draws {X : Cx} (C : Ctx X N__law_draws (defScope st__law_draws) none 0) (hF : Facts X.mg)  (a_script : (List Int)) :
    SV X (.rd (a_script.map enc) :: List.replicate 5 .un) (defBody st__law_draws) (fun _ : Unit => List.replicate 6 .un) (fun _ : Unit => List.replicate 6 .un) ⟨.dd, false⟩ (b__law_draws a_script) := by
  unfold b__law_draws
  refine sv_setO (i := 1) C (by decide +kernel) (Nat.le_of_ble_eq_true rfl) (eo_list (al_nil (α := Int))) fun v_draws_1 => ?_
  refine sv_for (S1 := (List Int)) (P1 := fun s2 => [.rd (a_script.map enc), .own (s2.map enc), .un, .un, .un, .un]) (s0 := v_draws_1) C (it_rng1 C (by decide +kernel) hF.range_ (ed_min2 C (by decide +kernel) hF.min_ ed_num (ed_len C (by decide +kernel) hF.len_ (er_rd (i := 0) C (by decide +kernel) rfl)))) (pgN (i := 2) C (by decide +kernel)) (tgt_name (i := 2)) (fun s2 => rfl) (wk_ops [] rfl) (fun s2 y3 => ?_) (fun s2 => ?_)
  · refine sv_set (i := 3) C (by decide +kernel) (ed_abs C (by decide +kernel) hF.abs_ (ed_ixR (i := 0) C (by decide +kernel) rfl (ed_var (i := 2) C (by decide +kernel) rfl))) fun v_rest_4 => ?_
    refine sv_if (S' := (List Int)) (P' := fun s5 => [.rd (a_script.map enc), .own (s5.map enc), .dat (enc y3), .un, .un, .un]) (eb_cmp (ec_ge (ed_var (i := 3) C (by decide +kernel) rfl) (ed_pow ed_num ed_num))) ?_ ?_ fun s5 => ?_
    · refine sv_for (S1 := ((List Int) × Int)) (P1 := fun s6 => [.rd (a_script.map enc), .own (s6.1.map enc), .dat (enc y3), .dat (enc s6.2), .un, .un]) (s0 := (s2, v_rest_4)) C (it_rng1 C (by decide +kernel) hF.range_ ed_num) (pgN (i := 4) C (by decide +kernel)) (tgt_name (i := 4)) (fun s6 => rfl) (wk_ops [] rfl) (fun s6 y7 => ?_) (fun s6 => ?_)
      · refine sv_if (S' := ((List Int) × Int)) (P' := fun s8 => [.rd (a_script.map enc), .own (s8.1.map enc), .dat (enc y3), .dat (enc s8.2), .dat (enc y7), .un]) (eb_cmp (ec_gt (ed_var (i := 3) C (by decide +kernel) rfl) ed_num)) ?_ ?_ fun s8 => ?_
        · refine sv_app (i := 1) C (by decide +kernel) rfl (ed_mod (ed_int C (by decide +kernel) hF.int_ (ed_var (i := 3) C (by decide +kernel) rfl)) ed_num) fun v9 => ?_
          refine sv_set (i := 3) C (by decide +kernel) (ed_fdiv (ed_var (i := 3) C (by decide +kernel) rfl) ed_num) fun v_rest_10 => ?_
          exact sv_nil (wk_ops [] rfl)
        · exact sv_nil (wk_ops [] rfl)
        exact sv_nil (wk_ops [.un 4] rfl)
      exact sv_nil (wk_ops [.un 3] rfl)
    · refine sv_set (i := 5) C (by decide +kernel) (ed_mod (ed_int C (by decide +kernel) hF.int_ (ed_add (ed_mul (ed_var (i := 3) C (by decide +kernel) rfl) ed_num) (ed_mul (ed_add (ed_var (i := 2) C (by decide +kernel) rfl) ed_num) ed_num))) ed_num) fun v_mixed_11 => ?_
      refine sv_wk (G' := [.rd (a_script.map enc), .own (s2.map enc), .dat (enc y3), .dat (enc v_rest_4), .un, .dat (enc v_mixed_11)]) (wk_ops [] rfl) ?_
      refine sv_set (i := 5) C (by decide +kernel) (ed_mod (ed_int C (by decide +kernel) hF.int_ (ed_add (ed_add (ed_mul (ed_var (i := 5) C (by decide +kernel) rfl) ed_num) (ed_mul ed_num (ed_var (i := 2) C (by decide +kernel) rfl))) ed_num)) ed_num) fun v_mixed_12 => ?_
      refine sv_app (i := 1) C (by decide +kernel) rfl (ed_mod (ed_int C (by decide +kernel) hF.int_ (ed_var (i := 5) C (by decide +kernel) rfl)) ed_num) fun v13 => ?_
      refine sv_app (i := 1) C (by decide +kernel) rfl (ed_mod (ed_int C (by decide +kernel) hF.int_ (ed_fdiv (ed_var (i := 5) C (by decide +kernel) rfl) ed_num)) ed_num) fun v14 => ?_
      exact sv_nil (wk_ops [.un 3, .un 5] rfl)
    exact sv_nil (wk_ops [.un 2] rfl)
  refine sv_wk (wk_ops [.fz 1] rfl) ?_
  exact sv_ret (ed_var (i := 1) C (by decide +kernel) rfl)
theorem ok__law_draws {P : Program} {w : World} {K : PySem.W.Frag} {mg : Str → Option Value} {base : Heap} {f : Addr} {fd : FuncData} (F : Fun K "_law_draws" "_law_draws" st__law_draws f fd) (hF : Facts mg)  : FnG P w K mg base CX0 1 f fd ["script"] (spR K .dd m__law_draws) :=
  ok_rd F fs__law_draws 6 rfl (by decide) fun X h1 h2 h3 h4 h5 C l r hr => by subst h1 h2 h3 h4 h5; exact body_of (bk__law_draws C hF  l) hr (fun x h => nomatch h)
theorem bk__law_mix {X : Cx} (C : Ctx X N__law_mix (defScope st__law_mix) none 0) (hF : Facts X.mg)  (a_draws : (List Int)) (a_k : Int) (a_many : Int) :
    SV X (dats 4 [enc a_draws, enc a_k, enc a_many]) (defBody st__law_mix) (fun _ : Unit => List.replicate 4 .un) (fun _ : Unit => List.replicate 4 .un) ⟨.dd, false⟩ (b__law_mix a_draws a_k a_many) := by
  unfold b__law_mix
  refine sv_set (i := 3) C (by decide +kernel) ed_num fun v_cell_1 => ?_
  refine sv_if (S' := Int) (P' := fun s2 => [.dat (enc a_draws), .dat (enc a_k), .dat (enc a_many), .dat (enc s2)]) (eb_cmp (ec_gt (ed_len C (by decide +kernel) hF.len_ (er_of_ed (ed_var (i := 0) C (by decide +kernel) rfl))) ed_num)) ?_ ?_ fun s2 => ?_
  · refine sv_set (i := 3) C (by decide +kernel) (ed_ix (ed_var (i := 0) C (by decide +kernel) rfl) (ed_mod (ed_int C (by decide +kernel) hF.int_ (ed_var (i := 1) C (by decide +kernel) rfl)) (ed_len C (by decide +kernel) hF.len_ (er_of_ed (ed_var (i := 0) C (by decide +kernel) rfl))))) fun v_cell_3 => ?_
    exact sv_nil (wk_ops [] rfl)
  · exact sv_nil (wk_ops [] rfl)
  refine sv_wk (G' := [.dat (enc a_draws), .dat (enc a_k), .dat (enc a_many), .dat (enc s2)]) (wk_ops [] rfl) ?_
  refine sv_if (S' := Unit) (P' := fun s4 => [.dat (enc a_draws), .dat (enc a_k), .dat (enc a_many), .dat (enc s2)]) (eb_cmp (ec_lt (ed_var (i := 1) C (by decide +kernel) rfl) (ed_len C (by decide +kernel) hF.len_ (er_of_ed (ed_var (i := 0) C (by decide +kernel) rfl))))) ?_ ?_ fun s4 => ?_
  · exact sv_ret (ed_mod (ed_int C (by decide +kernel) hF.int_ (ed_var (i := 3) C (by decide +kernel) rfl)) (ed_var (i := 2) C (by decide +kernel) rfl))
  · exact sv_nil (wk_ops [] rfl)
  exact sv_ret (ed_mod (ed_int C (by decide +kernel) hF.int_ (ed_fdiv (ed_int C (by decide +kernel) hF.int_ (ed_add (ed_mul (ed_var (i := 3) C (by decide +kernel) rfl) ed_num) (ed_mul (ed_var (i := 1) C (by decide +kernel) rfl) ed_num))) ed_num)) (ed_var (i := 2) C (by decide +kernel) rfl))
theorem ok__law_mix {P : Program} {w : World} {K : PySem.W.Frag} {mg : Str → Option Value} {base : Heap} {f : Addr} {fd : FuncData} (F : Fun K "_law_mix" "_law_mix" st__law_mix f fd) (hF : Facts mg)  : FnG P w K mg base CX0 1 f fd ["draws", "k", "many"] (spD K .dd (g3 m__law_mix)) :=
  ok_def F fs__law_mix (fun ds r h => by obtain ⟨x0, x1, x2, y, e, _, _⟩ := h; rw [e]; rfl) 4 rfl (by decide) fun X h1 h2 h3 h4 h5 C ds r h => by subst h1 h2 h3 h4 h5; obtain ⟨x0, x1, x2, y, e1, e2, e3⟩ := h; subst e1 e3; exact body_of (bk__law_mix C hF  x0 x1 x2) e2 (fun x h => nomatch h)
theorem bk__law_fault {X : Cx} (C : Ctx X N__law_fault (defScope st__law_fault) none 0) (hF : Facts X.mg)  (a_table : (List (List Int))) :
    SV X (dats 4 [enc a_table]) (defBody st__law_fault) (fun _ : Unit => List.replicate 4 .un) (fun _ : Unit => List.replicate 4 .un) ⟨.dd, false⟩ (b__law_fault a_table) := by
  unfold b__law_fault
  refine sv_if (S' := Unit) (P' := fun s1 => [.dat (enc a_table), .un, .un, .un]) (eb_not (eb_chLeLe rfl ed_num (ed_len C (by decide +kernel) hF.len_ (er_of_ed (ed_var (i := 0) C (by decide +kernel) rfl))) ed_num)) ?_ ?_ fun s1 => ?_
  · exact sv_ret (ed_some (ed_t2 ed_str (ed_len C (by decide +kernel) hF.len_ (er_of_ed (ed_var (i := 0) C (by decide +kernel) rfl)))))
  · exact sv_nil (wk_ops [] rfl)
  refine sv_for (S1 := Unit) (P1 := fun s2 => [.dat (enc a_table), .un, .un, .un]) (s0 := ()) C (it_rng1 C (by decide +kernel) hF.range_ (ed_len C (by decide +kernel) hF.len_ (er_of_ed (ed_var (i := 0) C (by decide +kernel) rfl)))) (pgN (i := 1) C (by decide +kernel)) (tgt_name (i := 1)) (fun s2 => rfl) (wk_ops [] rfl) (fun s2 y3 => ?_) (fun s2 => ?_)
  · refine sv_set (i := 2) C (by decide +kernel) (ed_ix (ed_var (i := 0) C (by decide +kernel) rfl) (ed_var (i := 1) C (by decide +kernel) rfl)) fun v_row_4 => ?_
    refine sv_if (S' := Unit) (P' := fun s6 => [.dat (enc a_table), .dat (enc y3), .dat (enc v_row_4), .un]) (eb_bool (ew_or (eb_not (eb_chLeLe rfl ed_num (ed_len C (by decide +kernel) hF.len_ (er_of_ed (ed_var (i := 2) C (by decide +kernel) rfl))) ed_num)) (ew_or (eb_cmp (ec_neI (ed_len C (by decide +kernel) hF.len_ (er_of_ed (ed_var (i := 2) C (by decide +kernel) rfl))) (ed_len C (by decide +kernel) hF.len_ (er_of_ed (ed_ix (ed_var (i := 0) C (by decide +kernel) rfl) ed_num))))) (ew_or1 (eb_cmp (ec_neD C (ed_of_eo (eo_lc (lc_mk (own := [("one", 3)]) C (it_list (ed_var (i := 2) C (by decide +kernel) rfl)) (by decide +kernel) (fun s5 H5 Ca5 cl5 fp5 => (pgN (i := 3) (Ctx.blk C s5 H5 _ Ca5 cl5 fp5 rfl) (by decide +kernel))) (tgt_name (i := 3)) (by decide) rfl (fun s5 H5 Ca5 cl5 fp5 x5 => (ets_one (eb_cmp (ec_notIn (Ctx.blk C s5 H5 _ Ca5 cl5 fp5 rfl) (ed_var (i := 3) (Ctx.blk C s5 H5 _ Ca5 cl5 fp5 rfl) (by decide +kernel) rfl) (er_of_eo (eo_list (al_cons (ed_neg ed_num) (al_cons ed_num (al_cons ed_num (al_nil (α := Int))))))))))) (fun s5 H5 Ca5 cl5 fp5 x5 => (ed_var (i := 3) (Ctx.blk C s5 H5 _ Ca5 cl5 fp5 rfl) (by decide +kernel) rfl))))) (ed_of_eo (eo_list (al_nil (α := Int)))))))))) ?_ ?_ fun s6 => ?_
    · exact sv_ret (ed_some (ed_t2 ed_str (ed_var (i := 1) C (by decide +kernel) rfl)))
    · exact sv_nil (wk_ops [] rfl)
    exact sv_nil (wk_ops [.un 1, .un 2] rfl)
  exact sv_ret ed_none
theorem ok__law_fault {P : Program} {w : World} {K : PySem.W.Frag} {mg : Str → Option Value} {base : Heap} {f : Addr} {fd : FuncData} (F : Fun K "_law_fault" "_law_fault" st__law_fault f fd) (hF : Facts mg)  : FnG P w K mg base CX0 1 f fd ["table"] (spD K .dd (g1 m__law_fault)) :=
  ok_def F fs__law_fault (fun ds r h => by obtain ⟨x0, y, e, _, _⟩ := h; rw [e]; rfl) 4 rfl (by decide) fun X h1 h2 h3 h4 h5 C ds r h => by subst h1 h2 h3 h4 h5; obtain ⟨x0, y, e1, e2, e3⟩ := h; subst e1 e3; exact body_of (bk__law_fault C hF  x0) e2 (fun x h => nomatch h)
theorem bk_check_table {X : Cx} (C : Ctx X N_check_table (defScope st_check_table) none 2) (hF : Facts X.mg) (hE : ErrK X.prog X.w X.K X.mg X.base KS) (a_table : (List (List Int))) :
    SV X (dats 4 [enc a_table]) (defBody st_check_table) (fun _ : Unit => List.replicate 4 .un) (fun _ : Unit => List.replicate 4 .un) ⟨.dd, false⟩ (b_check_table a_table) := by
  unfold b_check_table
  refine sv_if (S' := Unit) (P' := fun s1 => [.dat (enc a_table), .un, .un, .un]) (eb_not (eb_chLeLe rfl ed_num (ed_len C (by decide +kernel) hF.len_ (er_of_ed (ed_var (i := 0) C (by decide +kernel) rfl))) (ed_glb C (by decide +kernel) hF.c_MOST_LINES_))) ?_ ?_ fun s1 => ?_
  · exact sv_raiseK C hE (by decide +kernel) (by decide +kernel) (ed_len C (by decide +kernel) hF.len_ (er_of_ed (ed_var (i := 0) C (by decide +kernel) rfl)))
  · exact sv_nil (wk_ops [] rfl)
  refine sv_for (S1 := Unit) (P1 := fun s2 => [.dat (enc a_table), .un, .un, .un]) (s0 := ()) C (it_enum C (by decide +kernel) hF.enumerate_ (ed_var (i := 0) C (by decide +kernel) rfl)) (pg_tup (Ctx.calm C) (pgs_cons (pgN (i := 1) C (by decide +kernel)) (pgs_cons (pgN (i := 2) C (by decide +kernel)) pgs_nil))) (tgt_t2 (tgt_name (i := 1)) (tgt_name (i := 2))) (fun s2 => rfl) (wk_ops [] rfl) (fun s2 y3 => ?_) (fun s2 => ?_)
  · refine sv_if (S' := Unit) (P' := fun s5 => [.dat (enc a_table), .dat (enc y3.a), .dat (enc y3.b), .un]) (eb_bool (ew_or (eb_not (eb_chLeLe rfl ed_num (ed_len C (by decide +kernel) hF.len_ (er_of_ed (ed_var (i := 2) C (by decide +kernel) rfl))) (ed_glb C (by decide +kernel) hF.c_MOST_LINES_))) (ew_or (eb_cmp (ec_neI (ed_len C (by decide +kernel) hF.len_ (er_of_ed (ed_var (i := 2) C (by decide +kernel) rfl))) (ed_len C (by decide +kernel) hF.len_ (er_of_ed (ed_ix (ed_var (i := 0) C (by decide +kernel) rfl) ed_num))))) (ew_or1 (eb_not (eb_of_ed (ed_all C (by decide +kernel) hF.all_ (er_of_eo (eo_lc (lc_mk (own := [("one", 3)]) C (it_list (ed_var (i := 2) C (by decide +kernel) rfl)) (by decide +kernel) (fun s4 H4 Ca4 cl4 fp4 => (pgN (i := 3) (Ctx.blk C s4 H4 _ Ca4 cl4 fp4 rfl) (by decide +kernel))) (tgt_name (i := 3)) (by decide) rfl (fun s4 H4 Ca4 cl4 fp4 x4 => ets_nil) (fun s4 H4 Ca4 cl4 fp4 x4 => (ed_chLeLe rfl (ed_neg ed_num) (ed_var (i := 3) (Ctx.blk C s4 H4 _ Ca4 cl4 fp4 rfl) (by decide +kernel) rfl) ed_num)))))))))))) ?_ ?_ fun s5 => ?_
    · exact sv_raiseK C hE (by decide +kernel) (by decide +kernel) (ed_var (i := 1) C (by decide +kernel) rfl)
    · exact sv_nil (wk_ops [] rfl)
    exact sv_nil (wk_ops [.un 1, .un 2] rfl)
  exact sv_nil (wkR_all rfl)
theorem ok_check_table {P : Program} {w : World} {K : PySem.W.Frag} {mg : Str → Option Value} {base : Heap} {f : Addr} {fd : FuncData} (F : Fun K "check_table" "check_table" st_check_table f fd) (hF : Facts mg) (hE : ErrK P w K mg base KS) : FnG P w K mg base (L2N.CX P w) 3 f fd ["table"] (spE K mg .dd (gX1 m_check_table)) :=
  ok_defE F fs_check_table (fun ds r h => by obtain ⟨x0, y, e, _, _⟩ := h; rw [e]; rfl) 4 rfl (by decide) fun X h1 h2 h3 h4 h5 C ds r h => by subst h1 h2 h3 h4 h5; obtain ⟨x0, y, e1, e2, e3⟩ := h; subst e1 e3; exact body_ofE (bk_check_table C hF hE x0) e2 (fun x h => by cases h; exact ⟨rfl, rfl⟩)
theorem bk_choices {X : Cx} (C : Ctx X N_choices (defScope st_choices) none 0) (hF : Facts X.mg)  (a_many : Int) (a_size : Int) :
    SV X (dats 5 [enc a_many, enc a_size]) (defBody st_choices) (fun _ : Unit => List.replicate 5 .un) (fun _ : Unit => List.replicate 5 .un) ⟨.dd, false⟩ (b_choices a_many a_size) := by
  unfold b_choices
  refine sv_set (i := 2) C (by decide +kernel) (ed_of_eo (eo_list (al_cons (ed_of_eo (eo_list (al_nil (α := Int)))) (al_nil (α := (List Int)))))) fun v_found_1 => ?_
  refine sv_for (S1 := (List (List Int))) (P1 := fun s2 => [.dat (enc a_many), .dat (enc a_size), .dat (enc s2), .un, .un]) (s0 := v_found_1) C (it_rng1 C (by decide +kernel) hF.range_ (ed_var (i := 0) C (by decide +kernel) rfl)) (pgN (i := 3) C (by decide +kernel)) (tgt_name (i := 3)) (fun s2 => rfl) (wk_ops [] rfl) (fun s2 y3 => ?_) (fun s2 => ?_)
  · refine sv_set (i := 2) C (by decide +kernel) (ed_of_eo (eo_cat (ed_var (i := 2) C (by decide +kernel) rfl) (ed_of_eo (eo_lc (lc_mk (own := [("told", 4)]) C (it_list (ed_var (i := 2) C (by decide +kernel) rfl)) (by decide +kernel) (fun s5 H5 Ca5 cl5 fp5 => (pgN (i := 4) (Ctx.blk C s5 H5 _ Ca5 cl5 fp5 rfl) (by decide +kernel))) (tgt_name (i := 4)) (by decide) rfl (fun s5 H5 Ca5 cl5 fp5 x5 => (ets_one (eb_cmp (ec_lt (ed_len (Ctx.blk C s5 H5 _ Ca5 cl5 fp5 rfl) (by decide +kernel) hF.len_ (er_of_ed (ed_var (i := 4) (Ctx.blk C s5 H5 _ Ca5 cl5 fp5 rfl) (by decide +kernel) rfl))) (ed_var (i := 1) (Ctx.blk C s5 H5 _ Ca5 cl5 fp5 rfl) (by decide +kernel) rfl))))) (fun s5 H5 Ca5 cl5 fp5 x5 => (ed_of_eo (eo_list (al_star (ed_var (i := 4) (Ctx.blk C s5 H5 _ Ca5 cl5 fp5 rfl) (by decide +kernel) rfl) (al_cons (ed_var (i := 3) (Ctx.blk C s5 H5 _ Ca5 cl5 fp5 rfl) (by decide +kernel) rfl) (al_nil (α := Int)))))))))))) fun v_found_4 => ?_
    exact sv_nil (wk_ops [.un 3] rfl)
  refine sv_wk (G' := [.dat (enc a_many), .dat (enc a_size), .dat (enc s2), .un, .un]) (wk_ops [] rfl) ?_
  exact sv_ret (ed_of_eo (eo_sortedD C (by decide +kernel) hF.sorted_ (er_of_eo (eo_lc (lc_mk (own := [("told", 4)]) C (it_list (ed_var (i := 2) C (by decide +kernel) rfl)) (by decide +kernel) (fun s6 H6 Ca6 cl6 fp6 => (pgN (i := 4) (Ctx.blk C s6 H6 _ Ca6 cl6 fp6 rfl) (by decide +kernel))) (tgt_name (i := 4)) (by decide) rfl (fun s6 H6 Ca6 cl6 fp6 x6 => (ets_one (eb_cmp (ec_eqI (ed_len (Ctx.blk C s6 H6 _ Ca6 cl6 fp6 rfl) (by decide +kernel) hF.len_ (er_of_ed (ed_var (i := 4) (Ctx.blk C s6 H6 _ Ca6 cl6 fp6 rfl) (by decide +kernel) rfl))) (ed_var (i := 1) (Ctx.blk C s6 H6 _ Ca6 cl6 fp6 rfl) (by decide +kernel) rfl))))) (fun s6 H6 Ca6 cl6 fp6 x6 => (ed_var (i := 4) (Ctx.blk C s6 H6 _ Ca6 cl6 fp6 rfl) (by decide +kernel) rfl)))))))
theorem ok_choices {P : Program} {w : World} {K : PySem.W.Frag} {mg : Str → Option Value} {base : Heap} {f : Addr} {fd : FuncData} (F : Fun K "choices" "choices" st_choices f fd) (hF : Facts mg)  : FnG P w K mg base CX0 1 f fd ["many", "size"] (spD K .dd (g2 m_choices)) :=
  ok_def F fs_choices (fun ds r h => by obtain ⟨x0, x1, y, e, _, _⟩ := h; rw [e]; rfl) 5 rfl (by decide) fun X h1 h2 h3 h4 h5 C ds r h => by subst h1 h2 h3 h4 h5; obtain ⟨x0, x1, y, e1, e2, e3⟩ := h; subst e1 e3; exact body_of (bk_choices C hF  x0 x1) e2 (fun x h => nomatch h)
theorem bk_measure_of {X : Cx} {k : Nat} (hk : 0 ≤ k) (C : Ctx X N_measure_of (defScope st_measure_of) none k) (hF : Facts X.mg)  {rec : (List (List Int)) → Option Int} (hC_rec : Cal X.prog X.w X.K X.mg X.base CX0 k "measure_of" ["rows"] (spD X.K .dd (g1 rec))) (a_rows : (List (List Int))) :
    SV X (dats 6 [enc a_rows]) (defBody st_measure_of) (fun _ : Unit => List.replicate 6 .un) (fun _ : Unit => List.replicate 6 .un) ⟨.dd, false⟩ (b_measure_of rec a_rows) := by
  unfold b_measure_of
  refine sv_if (S' := Unit) (P' := fun s1 => [.dat (enc a_rows), .un, .un, .un, .un, .un]) (eb_cmp (ec_eqI (ed_len C (by decide +kernel) hF.len_ (er_of_ed (ed_var (i := 0) C (by decide +kernel) rfl))) ed_num)) ?_ ?_ fun s1 => ?_
  · exact sv_ret ed_num
  · exact sv_nil (wk_ops [] rfl)
  refine sv_set (i := 1) C (by decide +kernel) ed_num fun v_found_2 => ?_
  refine sv_for (S1 := Int) (P1 := fun s3 => [.dat (enc a_rows), .dat (enc s3), .un, .un, .un, .un]) (s0 := v_found_2) C (it_enum C (by decide +kernel) hF.enumerate_ (ed_ix (ed_var (i := 0) C (by decide +kernel) rfl) ed_num)) (pg_tup (Ctx.calm C) (pgs_cons (pgN (i := 2) C (by decide +kernel)) (pgs_cons (pgN (i := 3) C (by decide +kernel)) pgs_nil))) (tgt_t2 (tgt_name (i := 2)) (tgt_name (i := 3))) (fun s3 => rfl) (wk_ops [] rfl) (fun s3 y4 => ?_) (fun s3 => ?_)
  · refine sv_wk (G' := [.dat (enc a_rows), .dat (enc s3), .dat (enc y4.a), .dat (enc y4.b), .un, .un]) (wk_ops [] rfl) ?_
    refine sv_if (S' := Int) (P' := fun s5 => [.dat (enc a_rows), .dat (enc s5), .dat (enc y4.a), .dat (enc y4.b), .un, .un]) (eb_cmp (ec_neI (ed_var (i := 3) C (by decide +kernel) rfl) ed_num)) ?_ ?_ fun s5 => ?_
    · refine sv_wk (G' := [.dat (enc a_rows), .dat (enc s3), .dat (enc y4.a), .dat (enc y4.b), .un, .un]) (wk_ops [] rfl) ?_
      refine sv_setL (i := 4) C (by decide +kernel) (by decide +kernel) (lc_mk (own := [("row", 5)]) C (it_list (ed_of_eo (eo_slice (ed_var (i := 0) C (by decide +kernel) rfl) (ep_some ed_num) ep_none))) (by decide +kernel) (fun s7 H7 Ca7 cl7 fp7 => (pgN (i := 5) (Ctx.blk C s7 H7 _ Ca7 cl7 fp7 rfl) (by decide +kernel))) (tgt_name (i := 5)) (by decide) rfl (fun s7 H7 Ca7 cl7 fp7 x7 => ets_nil) (fun s7 H7 Ca7 cl7 fp7 x7 => (ed_of_eo (eo_cat (ed_of_eo (eo_slice (ed_var (i := 5) (Ctx.blk C s7 H7 _ Ca7 cl7 fp7 rfl) (by decide +kernel) rfl) ep_none (ep_some (ed_var (i := 2) (Ctx.blk C s7 H7 _ Ca7 cl7 fp7 rfl) (by decide +kernel) rfl)))) (ed_of_eo (eo_slice (ed_var (i := 5) (Ctx.blk C s7 H7 _ Ca7 cl7 fp7 rfl) (by decide +kernel) rfl) (ep_some (ed_add (ed_var (i := 2) (Ctx.blk C s7 H7 _ Ca7 cl7 fp7 rfl) (by decide +kernel) rfl) ed_num)) ep_none)))))) fun v_rest_6 => ?_
      refine sv_set (i := 1) C (by decide +kernel) (ed_add (ed_var (i := 1) C (by decide +kernel) rfl) (ed_mul (ed_if (eb_cmp (ec_eqI (ed_mod (ed_var (i := 2) C (by decide +kernel) rfl) ed_num) ed_num)) (ed_neg (ed_var (i := 3) C (by decide +kernel) rfl)) (ed_var (i := 3) C (by decide +kernel) rfl)) (ed_call C hC_rec (by omega) (by decide +kernel) (ad_cons (ed_var (i := 4) C (by decide +kernel) rfl) ad_nil) go1))) fun v_found_8 => ?_
      exact sv_nil (wk_ops [.un 4] rfl)
    · exact sv_nil (wk_ops [] rfl)
    exact sv_nil (wk_ops [.un 2, .un 3] rfl)
  refine sv_wk (G' := [.dat (enc a_rows), .dat (enc s3), .un, .un, .un, .un]) (wk_ops [] rfl) ?_
  exact sv_ret (ed_var (i := 1) C (by decide +kernel) rfl)
theorem ok_measure_of {P : Program} {w : World} {K : PySem.W.Frag} {mg : Str → Option Value} {base : Heap} {f : Addr} {fd : FuncData} (F : Fun K "measure_of" "measure_of" st_measure_of f fd) (hm : mg "measure_of" = some (.ref f)) (hb : Binds K fd ["rows"] []) (hF : Facts mg)  : ∀ n, FnG P w K mg base CX0 (0 + n) f fd ["rows"] (spD K .dd (g1 (mF_measure_of n)))
  | 0 => ⟨fun vs H Q E ⟨ds, r, I, ⟨x0, y, e, h, _⟩, _⟩ => (by cases h), fun A out s H args us vs Q E _ _ _ _ _ ⟨ds, r, I, ⟨x0, y, e, h, _⟩, _⟩ => (by cases h)⟩
  | n + 1 => ok_def F fs_measure_of (fun ds r h => by obtain ⟨x0, y, e, _, _⟩ := h; rw [e]; rfl) 6 rfl (by decide) fun X h1 h2 h3 h4 h5 C ds r h => by subst h1 h2 h3 h4 h5; obtain ⟨x0, y, e1, e2, e3⟩ := h; subst e1 e3; exact body_of (bk_measure_of (by omega) C hF  (cal_of (ok_measure_of F hm hb hF  n) F hm hb) x0) e2 (fun x h => nomatch h)
theorem bk_square_at {X : Cx} (C : Ctx X N_square_at (defScope st_square_at) none 0) (hF : Facts X.mg)  (a_table : (List (List Int))) (a_rows : (List Int)) (a_columns : (List Int)) :
    SV X (dats 5 [enc a_table, enc a_rows, enc a_columns]) (defBody st_square_at) (fun _ : Unit => List.replicate 5 .un) (fun _ : Unit => List.replicate 5 .un) ⟨.dd, false⟩ (b_square_at a_table a_rows a_columns) := by
  unfold b_square_at
  exact sv_ret (ed_of_eo (eo_lc (lc_mk (own := [("i", 3)]) C (it_list (ed_var (i := 1) C (by decide +kernel) rfl)) (by decide +kernel) (fun s1 H1 Ca1 cl1 fp1 => (pgN (i := 3) (Ctx.blk C s1 H1 _ Ca1 cl1 fp1 rfl) (by decide +kernel))) (tgt_name (i := 3)) (by decide) rfl (fun s1 H1 Ca1 cl1 fp1 x1 => ets_nil) (fun s1 H1 Ca1 cl1 fp1 x1 => (ed_of_eo (eo_lc (lc_mk (own := [("j", 4)]) (Ctx.blk C s1 H1 _ Ca1 cl1 fp1 rfl) (it_list (ed_var (i := 2) (Ctx.blk C s1 H1 _ Ca1 cl1 fp1 rfl) (by decide +kernel) rfl)) (by decide +kernel) (fun s2 H2 Ca2 cl2 fp2 => (pgN (i := 4) (Ctx.blk (Ctx.blk C s1 H1 _ Ca1 cl1 fp1 rfl) s2 H2 _ Ca2 cl2 fp2 rfl) (by decide +kernel))) (tgt_name (i := 4)) (by decide) rfl (fun s2 H2 Ca2 cl2 fp2 x2 => ets_nil) (fun s2 H2 Ca2 cl2 fp2 x2 => (ed_ix (ed_ix (ed_var (i := 0) (Ctx.blk (Ctx.blk C s1 H1 _ Ca1 cl1 fp1 rfl) s2 H2 _ Ca2 cl2 fp2 rfl) (by decide +kernel) rfl) (ed_var (i := 3) (Ctx.blk (Ctx.blk C s1 H1 _ Ca1 cl1 fp1 rfl) s2 H2 _ Ca2 cl2 fp2 rfl) (by decide +kernel) rfl)) (ed_var (i := 4) (Ctx.blk (Ctx.blk C s1 H1 _ Ca1 cl1 fp1 rfl) s2 H2 _ Ca2 cl2 fp2 rfl) (by decide +kernel) rfl))))))))))
theorem ok_square_at {P : Program} {w : World} {K : PySem.W.Frag} {mg : Str → Option Value} {base : Heap} {f : Addr} {fd : FuncData} (F : Fun K "square_at" "square_at" st_square_at f fd) (hF : Facts mg)  : FnG P w K mg base CX0 1 f fd ["table", "rows", "columns"] (spD K .dd (g3 m_square_at)) :=
  ok_def F fs_square_at (fun ds r h => by obtain ⟨x0, x1, x2, y, e, _, _⟩ := h; rw [e]; rfl) 5 rfl (by decide) fun X h1 h2 h3 h4 h5 C ds r h => by subst h1 h2 h3 h4 h5; obtain ⟨x0, x1, x2, y, e1, e2, e3⟩ := h; subst e1 e3; exact body_of (bk_square_at C hF  x0 x1 x2) e2 (fun x h => nomatch h)
theorem bk_bad_of {X : Cx} (C : Ctx X N_bad_of (defScope st_bad_of) none 6) (hF : Facts X.mg) (hC_choices : Cal X.prog X.w X.K X.mg X.base CX0 1 "choices" ["many", "size"] (spD X.K .dd (g2 m_choices))) (hC_measure_of : Cal X.prog X.w X.K X.mg X.base CX0 6 "measure_of" ["rows"] (spD X.K .dd (g1 m_measure_of))) (hC_square_at : Cal X.prog X.w X.K X.mg X.base CX0 1 "square_at" ["table", "rows", "columns"] (spD X.K .dd (g3 m_square_at))) (a_table : (List (List Int))) :
    SV X (dats 4 [enc a_table]) (defBody st_bad_of) (fun _ : Unit => List.replicate 4 .un) (fun _ : Unit => List.replicate 4 .un) ⟨.dd, false⟩ (b_bad_of a_table) := by
  unfold b_bad_of
  refine sv_for (S1 := Unit) (P1 := fun s1 => [.dat (enc a_table), .un, .un, .un]) (s0 := ()) C (it_rng2 C (by decide +kernel) hF.range_ ed_num (ed_add (ed_min2 C (by decide +kernel) hF.min_ (ed_len C (by decide +kernel) hF.len_ (er_of_ed (ed_var (i := 0) C (by decide +kernel) rfl))) (ed_len C (by decide +kernel) hF.len_ (er_of_ed (ed_ix (ed_var (i := 0) C (by decide +kernel) rfl) ed_num)))) ed_num)) (pgN (i := 1) C (by decide +kernel)) (tgt_name (i := 1)) (fun s1 => rfl) (wk_ops [] rfl) (fun s1 y2 => ?_) (fun s1 => ?_)
  · refine sv_for (S1 := Unit) (P1 := fun s3 => [.dat (enc a_table), .dat (enc y2), .un, .un]) (s0 := ()) C (it_list (ed_call C hC_choices (by decide) (by decide +kernel) (ad_cons (ed_len C (by decide +kernel) hF.len_ (er_of_ed (ed_var (i := 0) C (by decide +kernel) rfl))) (ad_cons (ed_var (i := 1) C (by decide +kernel) rfl) ad_nil)) go2)) (pgN (i := 2) C (by decide +kernel)) (tgt_name (i := 2)) (fun s3 => rfl) (wk_ops [] rfl) (fun s3 y4 => ?_) (fun s3 => ?_)
    · refine sv_for (S1 := Unit) (P1 := fun s5 => [.dat (enc a_table), .dat (enc y2), .dat (enc y4), .un]) (s0 := ()) C (it_list (ed_call C hC_choices (by decide) (by decide +kernel) (ad_cons (ed_len C (by decide +kernel) hF.len_ (er_of_ed (ed_ix (ed_var (i := 0) C (by decide +kernel) rfl) ed_num))) (ad_cons (ed_var (i := 1) C (by decide +kernel) rfl) ad_nil)) go2)) (pgN (i := 3) C (by decide +kernel)) (tgt_name (i := 3)) (fun s5 => rfl) (wk_ops [] rfl) (fun s5 y6 => ?_) (fun s5 => ?_)
      · refine sv_if (S' := Unit) (P' := fun s7 => [.dat (enc a_table), .dat (enc y2), .dat (enc y4), .dat (enc y6)]) (eb_cmp (ec_gt (ed_abs C (by decide +kernel) hF.abs_ (ed_call C hC_measure_of (by decide) (by decide +kernel) (ad_cons (ed_call C hC_square_at (by decide) (by decide +kernel) (ad_cons (ed_var (i := 0) C (by decide +kernel) rfl) (ad_cons (ed_var (i := 2) C (by decide +kernel) rfl) (ad_cons (ed_var (i := 3) C (by decide +kernel) rfl) ad_nil))) go3) ad_nil) go1)) ed_num)) ?_ ?_ fun s7 => ?_
        · exact sv_ret (ed_some (ed_t2 (ed_var (i := 2) C (by decide +kernel) rfl) (ed_var (i := 3) C (by decide +kernel) rfl)))
        · exact sv_nil (wk_ops [] rfl)
        exact sv_nil (wk_ops [.un 3] rfl)
      exact sv_nil (wk_ops [.un 2] rfl)
    exact sv_nil (wk_ops [.un 1] rfl)
  exact sv_ret ed_none
theorem ok_bad_of {P : Program} {w : World} {K : PySem.W.Frag} {mg : Str → Option Value} {base : Heap} {f : Addr} {fd : FuncData} (F : Fun K "bad_of" "bad_of" st_bad_of f fd) (hF : Facts mg) (hC_choices : Cal P w K mg base CX0 1 "choices" ["many", "size"] (spD K .dd (g2 m_choices))) (hC_measure_of : Cal P w K mg base CX0 6 "measure_of" ["rows"] (spD K .dd (g1 m_measure_of))) (hC_square_at : Cal P w K mg base CX0 1 "square_at" ["table", "rows", "columns"] (spD K .dd (g3 m_square_at))) : FnG P w K mg base CX0 7 f fd ["table"] (spD K .dd (g1 m_bad_of)) :=
  ok_def F fs_bad_of (fun ds r h => by obtain ⟨x0, y, e, _, _⟩ := h; rw [e]; rfl) 4 rfl (by decide) fun X h1 h2 h3 h4 h5 C ds r h => by subst h1 h2 h3 h4 h5; obtain ⟨x0, y, e1, e2, e3⟩ := h; subst e1 e3; exact body_of (bk_bad_of C hF hC_choices hC_measure_of hC_square_at x0) e2 (fun x h => nomatch h)
theorem bk_is_sure {X : Cx} (C : Ctx X N_is_sure (defScope st_is_sure) none 7) (hF : Facts X.mg) (hE : ErrK X.prog X.w X.K X.mg X.base KS) (hC_check_table : Cal X.prog X.w X.K X.mg X.base (L2N.CX X.prog X.w) 3 "check_table" ["table"] (spE X.K X.mg .dd (gX1 m_check_table))) (hC_bad_of : Cal X.prog X.w X.K X.mg X.base CX0 7 "bad_of" ["table"] (spD X.K .dd (g1 m_bad_of))) (a_table : (List (List Int))) :
    SV X (dats 1 [enc a_table]) (defBody st_is_sure) (fun _ : Unit => List.replicate 1 .un) (fun _ : Unit => List.replicate 1 .un) ⟨.dd, false⟩ (b_is_sure a_table) := by
  unfold b_is_sure
  refine sv_exprE (ex_call C hC_check_table (by decide) (by decide +kernel) (ad_cons (ed_var (i := 0) C (by decide +kernel) rfl) ad_nil) goX1) ?_
  exact sv_ret (ed_cmp (ec_isN (ed_call C hC_bad_of (by decide) (by decide +kernel) (ad_cons (ed_var (i := 0) C (by decide +kernel) rfl) ad_nil) go1)))
theorem ok_is_sure {P : Program} {w : World} {K : PySem.W.Frag} {mg : Str → Option Value} {base : Heap} {f : Addr} {fd : FuncData} (F : Fun K "is_sure" "is_sure" st_is_sure f fd) (hF : Facts mg) (hE : ErrK P w K mg base KS) (hC_check_table : Cal P w K mg base (L2N.CX P w) 3 "check_table" ["table"] (spE K mg .dd (gX1 m_check_table))) (hC_bad_of : Cal P w K mg base CX0 7 "bad_of" ["table"] (spD K .dd (g1 m_bad_of))) : FnG P w K mg base (L2N.CX P w) 8 f fd ["table"] (spE K mg .dd (gX1 m_is_sure)) :=
  ok_defE F fs_is_sure (fun ds r h => by obtain ⟨x0, y, e, _, _⟩ := h; rw [e]; rfl) 1 rfl (by decide) fun X h1 h2 h3 h4 h5 C ds r h => by subst h1 h2 h3 h4 h5; obtain ⟨x0, y, e1, e2, e3⟩ := h; subst e1 e3; exact body_ofE (bk_is_sure C hF hE hC_check_table hC_bad_of x0) e2 (fun x h => nomatch h)
theorem bk__law_word {X : Cx} {a dd : Addr} {er : Er} (C : CtxH X N__law_word (defScope st__law_word) KS a dd er) (hF : Facts X.mg) :
    SV X (xcG 4 a dd er.a) (defBody st__law_word) (fun _ : Unit => List.replicate 4 .un) (fun _ : Unit => List.replicate 4 .un) ⟨.dd, false⟩ (b__law_word er) := by
  unfold b__law_word
  refine sv_setH (i := 1) C.c (by decide +kernel) (ed_of_eo (eo_list (al_cons (ed_t2 ed_str (ed_isH (i := 0) C (by decide +kernel) rfl (by decide +kernel) hF.isinstance_ (by decide +kernel))) (al_cons (ed_t2 ed_str (ed_isH (i := 0) C (by decide +kernel) rfl (by decide +kernel) hF.isinstance_ (by decide +kernel))) (al_cons (ed_t2 ed_str (ed_isH (i := 0) C (by decide +kernel) rfl (by decide +kernel) hF.isinstance_ (by decide +kernel))) (al_nil (α := (T2 Str Bool)))))))) fun v_words_1 => ?_
  exact sv_ret (ed_t2 (ed_join (eo_lcH (own := [("is_it", 3), ("word", 2)]) C.c C.hot (ed_varH (i := 1) C.c (by decide +kernel) rfl) (by decide +kernel) (fun s2 H2 Ca2 cl2 fp2 => (HX.pgh_tup (pgs_cons (pgNH (i := 2) (CtxN.blk C.c s2 H2 _ Ca2 cl2 fp2 rfl) (by decide +kernel)) (pgs_cons (pgNH (i := 3) (CtxN.blk C.c s2 H2 _ Ca2 cl2 fp2 rfl) (by decide +kernel)) pgs_nil)))) (tgt_t2 (tgt_name (i := 2)) (tgt_name (i := 3))) (by decide) rfl (fun s2 H2 Ca2 cl2 fp2 x2 => (ets_one (eb_of_ed (ed_varH (i := 3) (CtxN.blk C.c s2 H2 _ Ca2 cl2 fp2 rfl) (by decide +kernel) rfl)))) (fun s2 H2 Ca2 cl2 fp2 x2 => (ed_varH (i := 2) (CtxN.blk C.c s2 H2 _ Ca2 cl2 fp2 rfl) (by decide +kernel) rfl)))) (ed_atH (i := 0) C (by decide +kernel) rfl))

theorem bk_bad_square {X : Cx} (C : Ctx X N_bad_square (defScope st_bad_square) none 7) (hF : Facts X.mg) (hE : ErrK X.prog X.w X.K X.mg X.base KS) (hC_check_table : Cal X.prog X.w X.K X.mg X.base (L2N.CX X.prog X.w) 3 "check_table" ["table"] (spE X.K X.mg .dd (gX1 m_check_table))) (hC_bad_of : Cal X.prog X.w X.K X.mg X.base CX0 7 "bad_of" ["table"] (spD X.K .dd (g1 m_bad_of))) (a_table : (List (List Int))) :
    SV X (dats 1 [enc a_table]) (defBody st_bad_square) (fun _ : Unit => List.replicate 1 .un) (fun _ : Unit => List.replicate 1 .un) ⟨.dd, false⟩ (b_bad_square a_table) := by
  unfold b_bad_square
  refine sv_exprE (ex_call C hC_check_table (by decide) (by decide +kernel) (ad_cons (ed_var (i := 0) C (by decide +kernel) rfl) ad_nil) goX1) ?_
  exact sv_ret (ed_call C hC_bad_of (by decide) (by decide +kernel) (ad_cons (ed_var (i := 0) C (by decide +kernel) rfl) ad_nil) go1)
theorem ok_bad_square {P : Program} {w : World} {K : PySem.W.Frag} {mg : Str → Option Value} {base : Heap} {f : Addr} {fd : FuncData} (F : Fun K "bad_square" "bad_square" st_bad_square f fd) (hF : Facts mg) (hE : ErrK P w K mg base KS) (hC_check_table : Cal P w K mg base (L2N.CX P w) 3 "check_table" ["table"] (spE K mg .dd (gX1 m_check_table))) (hC_bad_of : Cal P w K mg base CX0 7 "bad_of" ["table"] (spD K .dd (g1 m_bad_of))) : FnG P w K mg base (L2N.CX P w) 8 f fd ["table"] (spE K mg .dd (gX1 m_bad_square)) :=
  ok_defE F fs_bad_square (fun ds r h => by obtain ⟨x0, y, e, _, _⟩ := h; rw [e]; rfl) 1 rfl (by decide) fun X h1 h2 h3 h4 h5 C ds r h => by subst h1 h2 h3 h4 h5; obtain ⟨x0, y, e1, e2, e3⟩ := h; subst e1 e3; exact body_ofE (bk_bad_square C hF hE hC_check_table hC_bad_of x0) e2 (fun x h => nomatch h)
theorem bk_is_set {X : Cx} (C : Ctx X N_is_set (defScope st_is_set) none 0) (hF : Facts X.mg)  (a_told : (List Int)) (a_many : Int) :
    SV X (dats 3 [enc a_told, enc a_many]) (defBody st_is_set) (fun _ : Unit => List.replicate 3 .un) (fun _ : Unit => List.replicate 3 .un) ⟨.dd, false⟩ (b_is_set a_told a_many) := by
  unfold b_is_set
  exact sv_ret (ed_cmp (ec_eqD C (ed_var (i := 0) C (by decide +kernel) rfl) (ed_of_eo (eo_lc (lc_mk (own := [("k", 2)]) C (it_rng1 C (by decide +kernel) hF.range_ (ed_var (i := 1) C (by decide +kernel) rfl)) (by decide +kernel) (fun s1 H1 Ca1 cl1 fp1 => (pgN (i := 2) (Ctx.blk C s1 H1 _ Ca1 cl1 fp1 rfl) (by decide +kernel))) (tgt_name (i := 2)) (by decide) rfl (fun s1 H1 Ca1 cl1 fp1 x1 => (ets_one (eb_cmp (ec_in (Ctx.blk C s1 H1 _ Ca1 cl1 fp1 rfl) (ed_var (i := 2) (Ctx.blk C s1 H1 _ Ca1 cl1 fp1 rfl) (by decide +kernel) rfl) (er_of_ed (ed_var (i := 0) (Ctx.blk C s1 H1 _ Ca1 cl1 fp1 rfl) (by decide +kernel) rfl)))))) (fun s1 H1 Ca1 cl1 fp1 x1 => (ed_var (i := 2) (Ctx.blk C s1 H1 _ Ca1 cl1 fp1 rfl) (by decide +kernel) rfl)))))))
theorem ok_is_set {P : Program} {w : World} {K : PySem.W.Frag} {mg : Str → Option Value} {base : Heap} {f : Addr} {fd : FuncData} (F : Fun K "is_set" "is_set" st_is_set f fd) (hF : Facts mg)  : FnG P w K mg base CX0 1 f fd ["told", "many"] (spD K .dd (g2 m_is_set)) :=
  ok_def F fs_is_set (fun ds r h => by obtain ⟨x0, x1, y, e, _, _⟩ := h; rw [e]; rfl) 3 rfl (by decide) fun X h1 h2 h3 h4 h5 C ds r h => by subst h1 h2 h3 h4 h5; obtain ⟨x0, x1, y, e1, e2, e3⟩ := h; subst e1 e3; exact body_of (bk_is_set C hF  x0 x1) e2 (fun x h => nomatch h)
theorem bk_measure {X : Cx} (C : Ctx X N_measure (defScope st_measure) none 6) (hF : Facts X.mg) (hE : ErrK X.prog X.w X.K X.mg X.base KS) (hC_check_table : Cal X.prog X.w X.K X.mg X.base (L2N.CX X.prog X.w) 3 "check_table" ["table"] (spE X.K X.mg .dd (gX1 m_check_table))) (hC_is_set : Cal X.prog X.w X.K X.mg X.base CX0 1 "is_set" ["told", "many"] (spD X.K .dd (g2 m_is_set))) (hC_measure_of : Cal X.prog X.w X.K X.mg X.base CX0 6 "measure_of" ["rows"] (spD X.K .dd (g1 m_measure_of))) (hC_square_at : Cal X.prog X.w X.K X.mg X.base CX0 1 "square_at" ["table", "rows", "columns"] (spD X.K .dd (g3 m_square_at))) (a_table : (List (List Int))) (a_rows : (List Int)) (a_columns : (List Int)) :
    SV X (dats 3 [enc a_table, enc a_rows, enc a_columns]) (defBody st_measure) (fun _ : Unit => List.replicate 3 .un) (fun _ : Unit => List.replicate 3 .un) ⟨.dd, false⟩ (b_measure a_table a_rows a_columns) := by
  unfold b_measure
  refine sv_exprE (ex_call C hC_check_table (by decide) (by decide +kernel) (ad_cons (ed_var (i := 0) C (by decide +kernel) rfl) ad_nil) goX1) ?_
  refine sv_if (S' := Unit) (P' := fun s1 => [.dat (enc a_table), .dat (enc a_rows), .dat (enc a_columns)]) (eb_bool (ew_or (eb_cmp (ec_neI (ed_len C (by decide +kernel) hF.len_ (er_of_ed (ed_var (i := 1) C (by decide +kernel) rfl))) (ed_len C (by decide +kernel) hF.len_ (er_of_ed (ed_var (i := 2) C (by decide +kernel) rfl))))) (ew_or1 (eb_cmp (ec_eqI (ed_len C (by decide +kernel) hF.len_ (er_of_ed (ed_var (i := 1) C (by decide +kernel) rfl))) ed_num))))) ?_ ?_ fun s1 => ?_
  · exact sv_ret ed_none
  · exact sv_nil (wk_ops [] rfl)
  refine sv_if (S' := Unit) (P' := fun s2 => [.dat (enc a_table), .dat (enc a_rows), .dat (enc a_columns)]) (eb_bool (ew_or (eb_not (eb_of_ed (ed_call C hC_is_set (by decide) (by decide +kernel) (ad_cons (ed_var (i := 1) C (by decide +kernel) rfl) (ad_cons (ed_len C (by decide +kernel) hF.len_ (er_of_ed (ed_var (i := 0) C (by decide +kernel) rfl))) ad_nil)) go2))) (ew_or1 (eb_not (eb_of_ed (ed_call C hC_is_set (by decide) (by decide +kernel) (ad_cons (ed_var (i := 2) C (by decide +kernel) rfl) (ad_cons (ed_len C (by decide +kernel) hF.len_ (er_of_ed (ed_ix (ed_var (i := 0) C (by decide +kernel) rfl) ed_num))) ad_nil)) go2)))))) ?_ ?_ fun s2 => ?_
  · exact sv_ret ed_none
  · exact sv_nil (wk_ops [] rfl)
  exact sv_ret (ed_some (ed_call C hC_measure_of (by decide) (by decide +kernel) (ad_cons (ed_call C hC_square_at (by decide) (by decide +kernel) (ad_cons (ed_var (i := 0) C (by decide +kernel) rfl) (ad_cons (ed_var (i := 1) C (by decide +kernel) rfl) (ad_cons (ed_var (i := 2) C (by decide +kernel) rfl) ad_nil))) go3) ad_nil) go1))
theorem ok_measure {P : Program} {w : World} {K : PySem.W.Frag} {mg : Str → Option Value} {base : Heap} {f : Addr} {fd : FuncData} (F : Fun K "measure" "measure" st_measure f fd) (hF : Facts mg) (hE : ErrK P w K mg base KS) (hC_check_table : Cal P w K mg base (L2N.CX P w) 3 "check_table" ["table"] (spE K mg .dd (gX1 m_check_table))) (hC_is_set : Cal P w K mg base CX0 1 "is_set" ["told", "many"] (spD K .dd (g2 m_is_set))) (hC_measure_of : Cal P w K mg base CX0 6 "measure_of" ["rows"] (spD K .dd (g1 m_measure_of))) (hC_square_at : Cal P w K mg base CX0 1 "square_at" ["table", "rows", "columns"] (spD K .dd (g3 m_square_at))) : FnG P w K mg base (L2N.CX P w) 7 f fd ["table", "rows", "columns"] (spE K mg .dd (gX3 m_measure)) :=
  ok_defE F fs_measure (fun ds r h => by obtain ⟨x0, x1, x2, y, e, _, _⟩ := h; rw [e]; rfl) 3 rfl (by decide) fun X h1 h2 h3 h4 h5 C ds r h => by subst h1 h2 h3 h4 h5; obtain ⟨x0, x1, x2, y, e1, e2, e3⟩ := h; subst e1 e3; exact body_ofE (bk_measure C hF hE hC_check_table hC_is_set hC_measure_of hC_square_at x0 x1 x2) e2 (fun x h => nomatch h)
theorem bk_rows_from {X : Cx} (C : Ctx X N_rows_from (defScope st_rows_from) none 0) (hF : Facts X.mg)  (a_numbers : (List Int)) (a_size : Int) :
    SV X (dats 6 [enc a_numbers, enc a_size]) (defBody st_rows_from) (fun _ : Unit => List.replicate 6 .un) (fun _ : Unit => List.replicate 6 .un) ⟨.dd, false⟩ (b_rows_from a_numbers a_size) := by
  unfold b_rows_from
  refine sv_set (i := 2) C (by decide +kernel) (ed_of_eo (eo_list (al_cons (ed_of_eo (eo_list (al_nil (α := Int)))) (al_nil (α := (List Int)))))) fun v_found_1 => ?_
  refine sv_for (S1 := (List (List Int))) (P1 := fun s2 => [.dat (enc a_numbers), .dat (enc a_size), .dat (enc s2), .un, .un, .un]) (s0 := v_found_1) C (it_rng1 C (by decide +kernel) hF.range_ (ed_var (i := 1) C (by decide +kernel) rfl)) (pgN (i := 3) C (by decide +kernel)) (tgt_name (i := 3)) (fun s2 => rfl) (wk_ops [] rfl) (fun s2 y3 => ?_) (fun s2 => ?_)
  · refine sv_setL (i := 2) C (by decide +kernel) (by decide +kernel) (lc2_mk (own := [("one", 5), ("told", 4)]) (vs1 := [5]) C (it_list (ed_var (i := 2) C (by decide +kernel) rfl)) (by decide +kernel) (fun s5 H5 Ca5 cl5 fp5 => (pgN (i := 4) (Ctx.blk C s5 H5 _ Ca5 cl5 fp5 rfl) (by decide +kernel))) (tgt_name (i := 4)) (by decide) rfl (fun s5 H5 Ca5 cl5 fp5 x5 => ets_nil) (fun s5 H5 Ca5 cl5 fp5 x5 => (it_list (ed_var (i := 0) (Ctx.blk C s5 H5 _ Ca5 cl5 fp5 rfl) (by decide +kernel) rfl))) (fun s5 H5 Ca5 cl5 fp5 => (pgN (i := 5) (Ctx.blk C s5 H5 _ Ca5 cl5 fp5 rfl) (by decide +kernel))) (tgt_name (i := 5)) (by decide) (by decide) (fun _ => rfl) (fun s5 H5 Ca5 cl5 fp5 x5 y5 => ets_nil) (fun s5 H5 Ca5 cl5 fp5 x5 y5 => (ed_of_eo (eo_list (al_star (ed_var (i := 4) (Ctx.blk C s5 H5 _ Ca5 cl5 fp5 rfl) (by decide +kernel) rfl) (al_cons (ed_var (i := 5) (Ctx.blk C s5 H5 _ Ca5 cl5 fp5 rfl) (by decide +kernel) rfl) (al_nil (α := Int)))))))) fun v_found_4 => ?_
    exact sv_nil (wk_ops [.un 3] rfl)
  refine sv_wk (G' := [.dat (enc a_numbers), .dat (enc a_size), .dat (enc s2), .un, .un, .un]) (wk_ops [] rfl) ?_
  exact sv_ret (ed_var (i := 2) C (by decide +kernel) rfl)
theorem ok_rows_from {P : Program} {w : World} {K : PySem.W.Frag} {mg : Str → Option Value} {base : Heap} {f : Addr} {fd : FuncData} (F : Fun K "rows_from" "rows_from" st_rows_from f fd) (hF : Facts mg)  : FnG P w K mg base CX0 1 f fd ["numbers", "size"] (spD K .dd (g2 m_rows_from)) :=
  ok_def F fs_rows_from (fun ds r h => by obtain ⟨x0, x1, y, e, _, _⟩ := h; rw [e]; rfl) 6 rfl (by decide) fun X h1 h2 h3 h4 h5 C ds r h => by subst h1 h2 h3 h4 h5; obtain ⟨x0, x1, y, e1, e2, e3⟩ := h; subst e1 e3; exact body_of (bk_rows_from C hF  x0 x1) e2 (fun x h => nomatch h)
theorem bk_parting_of {X : Cx} (C : Ctx X N_parting_of (defScope st_parting_of) none 1) (hF : Facts X.mg) (hC_rows_from : Cal X.prog X.w X.K X.mg X.base CX0 1 "rows_from" ["numbers", "size"] (spD X.K .dd (g2 m_rows_from))) (a_table : (List (List Int))) (a_rows : (List Int)) :
    SV X (dats 8 [enc a_table, enc a_rows]) (defBody st_parting_of) (fun _ : Unit => List.replicate 8 .un) (fun _ : Unit => List.replicate 8 .un) ⟨.dd, false⟩ (b_parting_of a_table a_rows) := by
  unfold b_parting_of
  refine sv_for (S1 := Unit) (P1 := fun s1 => [.dat (enc a_table), .dat (enc a_rows), .un, .un, .un, .un, .un, .un]) (s0 := ()) C (it_list (ed_call C hC_rows_from (by decide) (by decide +kernel) (ad_cons (ed_of_eo (eo_list (al_cons (ed_neg ed_num) (al_cons ed_num (al_nil (α := Int)))))) (ad_cons (ed_len C (by decide +kernel) hF.len_ (er_of_ed (ed_var (i := 1) C (by decide +kernel) rfl))) ad_nil)) go2)) (pgN (i := 2) C (by decide +kernel)) (tgt_name (i := 2)) (fun s1 => rfl) (wk_ops [] rfl) (fun s1 y2 => ?_) (fun s1 => ?_)
  · refine sv_setL (i := 3) C (by decide +kernel) (by decide +kernel) (lc_mk (own := [("j", 4)]) C (it_rng1 C (by decide +kernel) hF.range_ (ed_len C (by decide +kernel) hF.len_ (er_of_ed (ed_ix (ed_var (i := 0) C (by decide +kernel) rfl) ed_num)))) (by decide +kernel) (fun s4 H4 Ca4 cl4 fp4 => (pgN (i := 4) (Ctx.blk C s4 H4 _ Ca4 cl4 fp4 rfl) (by decide +kernel))) (tgt_name (i := 4)) (by decide) rfl (fun s4 H4 Ca4 cl4 fp4 x4 => ets_nil) (fun s4 H4 Ca4 cl4 fp4 x4 => (ed_sum (Ctx.blk C s4 H4 _ Ca4 cl4 fp4 rfl) (by decide +kernel) hF.sum_ (er_of_eo (eo_lc (lc_mk (own := [("i", 7), ("sign", 6)]) (Ctx.blk C s4 H4 _ Ca4 cl4 fp4 rfl) (it_zip (Ctx.blk C s4 H4 _ Ca4 cl4 fp4 rfl) (by decide +kernel) hF.zip_ (ed_var (i := 2) (Ctx.blk C s4 H4 _ Ca4 cl4 fp4 rfl) (by decide +kernel) rfl) (ed_var (i := 1) (Ctx.blk C s4 H4 _ Ca4 cl4 fp4 rfl) (by decide +kernel) rfl)) (by decide +kernel) (fun s5 H5 Ca5 cl5 fp5 => (pg_tup (Ctx.calm (Ctx.blk (Ctx.blk C s4 H4 _ Ca4 cl4 fp4 rfl) s5 H5 _ Ca5 cl5 fp5 rfl)) (pgs_cons (pgN (i := 6) (Ctx.blk (Ctx.blk C s4 H4 _ Ca4 cl4 fp4 rfl) s5 H5 _ Ca5 cl5 fp5 rfl) (by decide +kernel)) (pgs_cons (pgN (i := 7) (Ctx.blk (Ctx.blk C s4 H4 _ Ca4 cl4 fp4 rfl) s5 H5 _ Ca5 cl5 fp5 rfl) (by decide +kernel)) pgs_nil)))) (tgt_t2 (tgt_name (i := 6)) (tgt_name (i := 7))) (by decide) rfl (fun s5 H5 Ca5 cl5 fp5 x5 => ets_nil) (fun s5 H5 Ca5 cl5 fp5 x5 => (ed_mul (ed_var (i := 6) (Ctx.blk (Ctx.blk C s4 H4 _ Ca4 cl4 fp4 rfl) s5 H5 _ Ca5 cl5 fp5 rfl) (by decide +kernel) rfl) (ed_ix (ed_ix (ed_var (i := 0) (Ctx.blk (Ctx.blk C s4 H4 _ Ca4 cl4 fp4 rfl) s5 H5 _ Ca5 cl5 fp5 rfl) (by decide +kernel) rfl) (ed_var (i := 7) (Ctx.blk (Ctx.blk C s4 H4 _ Ca4 cl4 fp4 rfl) s5 H5 _ Ca5 cl5 fp5 rfl) (by decide +kernel) rfl)) (ed_var (i := 4) (Ctx.blk (Ctx.blk C s4 H4 _ Ca4 cl4 fp4 rfl) s5 H5 _ Ca5 cl5 fp5 rfl) (by decide +kernel) rfl)))))))))) fun v_sums_3 => ?_
    refine sv_if (S' := Unit) (P' := fun s7 => [.dat (enc a_table), .dat (enc a_rows), .dat (enc y2), .dat (enc v_sums_3), .un, .un, .un, .un]) (eb_of_ed (ed_all C (by decide +kernel) hF.all_ (er_of_eo (eo_lc (lc_mk (own := [("one", 5)]) C (it_list (ed_var (i := 3) C (by decide +kernel) rfl)) (by decide +kernel) (fun s6 H6 Ca6 cl6 fp6 => (pgN (i := 5) (Ctx.blk C s6 H6 _ Ca6 cl6 fp6 rfl) (by decide +kernel))) (tgt_name (i := 5)) (by decide) rfl (fun s6 H6 Ca6 cl6 fp6 x6 => ets_nil) (fun s6 H6 Ca6 cl6 fp6 x6 => (ed_chLeLe rfl (ed_neg ed_num) (ed_var (i := 5) (Ctx.blk C s6 H6 _ Ca6 cl6 fp6 rfl) (by decide +kernel) rfl) ed_num))))))) ?_ ?_ fun s7 => ?_
    · exact sv_ret (ed_some (ed_var (i := 2) C (by decide +kernel) rfl))
    · exact sv_nil (wk_ops [] rfl)
    exact sv_nil (wk_ops [.un 2, .un 3] rfl)
  exact sv_ret ed_none
theorem ok_parting_of {P : Program} {w : World} {K : PySem.W.Frag} {mg : Str → Option Value} {base : Heap} {f : Addr} {fd : FuncData} (F : Fun K "parting_of" "parting_of" st_parting_of f fd) (hF : Facts mg) (hC_rows_from : Cal P w K mg base CX0 1 "rows_from" ["numbers", "size"] (spD K .dd (g2 m_rows_from))) : FnG P w K mg base CX0 2 f fd ["table", "rows"] (spD K .dd (g2 m_parting_of)) :=
  ok_def F fs_parting_of (fun ds r h => by obtain ⟨x0, x1, y, e, _, _⟩ := h; rw [e]; rfl) 8 rfl (by decide) fun X h1 h2 h3 h4 h5 C ds r h => by subst h1 h2 h3 h4 h5; obtain ⟨x0, x1, y, e1, e2, e3⟩ := h; subst e1 e3; exact body_of (bk_parting_of C hF hC_rows_from x0 x1) e2 (fun x h => nomatch h)
theorem bk_unparted {X : Cx} (C : Ctx X N_unparted (defScope st_unparted) none 3) (hF : Facts X.mg) (hE : ErrK X.prog X.w X.K X.mg X.base KS) (hC_check_table : Cal X.prog X.w X.K X.mg X.base (L2N.CX X.prog X.w) 3 "check_table" ["table"] (spE X.K X.mg .dd (gX1 m_check_table))) (hC_choices : Cal X.prog X.w X.K X.mg X.base CX0 1 "choices" ["many", "size"] (spD X.K .dd (g2 m_choices))) (hC_parting_of : Cal X.prog X.w X.K X.mg X.base CX0 2 "parting_of" ["table", "rows"] (spD X.K .dd (g2 m_parting_of))) (a_table : (List (List Int))) :
    SV X (dats 3 [enc a_table]) (defBody st_unparted) (fun _ : Unit => List.replicate 3 .un) (fun _ : Unit => List.replicate 3 .un) ⟨.dd, false⟩ (b_unparted a_table) := by
  unfold b_unparted
  refine sv_exprE (ex_call C hC_check_table (by decide) (by decide +kernel) (ad_cons (ed_var (i := 0) C (by decide +kernel) rfl) ad_nil) goX1) ?_
  refine sv_for (S1 := Unit) (P1 := fun s1 => [.dat (enc a_table), .un, .un]) (s0 := ()) C (it_rng2 C (by decide +kernel) hF.range_ ed_num (ed_add (ed_len C (by decide +kernel) hF.len_ (er_of_ed (ed_var (i := 0) C (by decide +kernel) rfl))) ed_num)) (pgN (i := 1) C (by decide +kernel)) (tgt_name (i := 1)) (fun s1 => rfl) (wk_ops [] rfl) (fun s1 y2 => ?_) (fun s1 => ?_)
  · refine sv_for (S1 := Unit) (P1 := fun s3 => [.dat (enc a_table), .dat (enc y2), .un]) (s0 := ()) C (it_list (ed_call C hC_choices (by decide) (by decide +kernel) (ad_cons (ed_len C (by decide +kernel) hF.len_ (er_of_ed (ed_var (i := 0) C (by decide +kernel) rfl))) (ad_cons (ed_var (i := 1) C (by decide +kernel) rfl) ad_nil)) go2)) (pgN (i := 2) C (by decide +kernel)) (tgt_name (i := 2)) (fun s3 => rfl) (wk_ops [] rfl) (fun s3 y4 => ?_) (fun s3 => ?_)
    · refine sv_if (S' := Unit) (P' := fun s5 => [.dat (enc a_table), .dat (enc y2), .dat (enc y4)]) (eb_cmp (ec_isN (ed_call C hC_parting_of (by decide) (by decide +kernel) (ad_cons (ed_var (i := 0) C (by decide +kernel) rfl) (ad_cons (ed_var (i := 2) C (by decide +kernel) rfl) ad_nil)) go2))) ?_ ?_ fun s5 => ?_
      · exact sv_ret (ed_some (ed_var (i := 2) C (by decide +kernel) rfl))
      · exact sv_nil (wk_ops [] rfl)
      exact sv_nil (wk_ops [.un 2] rfl)
    exact sv_nil (wk_ops [.un 1] rfl)
  exact sv_ret ed_none
theorem ok_unparted {P : Program} {w : World} {K : PySem.W.Frag} {mg : Str → Option Value} {base : Heap} {f : Addr} {fd : FuncData} (F : Fun K "unparted" "unparted" st_unparted f fd) (hF : Facts mg) (hE : ErrK P w K mg base KS) (hC_check_table : Cal P w K mg base (L2N.CX P w) 3 "check_table" ["table"] (spE K mg .dd (gX1 m_check_table))) (hC_choices : Cal P w K mg base CX0 1 "choices" ["many", "size"] (spD K .dd (g2 m_choices))) (hC_parting_of : Cal P w K mg base CX0 2 "parting_of" ["table", "rows"] (spD K .dd (g2 m_parting_of))) : FnG P w K mg base (L2N.CX P w) 4 f fd ["table"] (spE K mg .dd (gX1 m_unparted)) :=
  ok_defE F fs_unparted (fun ds r h => by obtain ⟨x0, y, e, _, _⟩ := h; rw [e]; rfl) 3 rfl (by decide) fun X h1 h2 h3 h4 h5 C ds r h => by subst h1 h2 h3 h4 h5; obtain ⟨x0, y, e1, e2, e3⟩ := h; subst e1 e3; exact body_ofE (bk_unparted C hF hE hC_check_table hC_choices hC_parting_of x0) e2 (fun x h => nomatch h)
theorem bk_is_stretch {X : Cx} (C : Ctx X N_is_stretch (defScope st_is_stretch) none 0) (hF : Facts X.mg)  (a_row : (List Int)) :
    SV X (dats 4 [enc a_row]) (defBody st_is_stretch) (fun _ : Unit => List.replicate 4 .un) (fun _ : Unit => List.replicate 4 .un) ⟨.dd, false⟩ (b_is_stretch a_row) := by
  unfold b_is_stretch
  refine sv_setL (i := 1) C (by decide +kernel) (by decide +kernel) (lc_mk (own := [("j", 2), ("one", 3)]) C (it_enum C (by decide +kernel) hF.enumerate_ (ed_var (i := 0) C (by decide +kernel) rfl)) (by decide +kernel) (fun s2 H2 Ca2 cl2 fp2 => (pg_tup (Ctx.calm (Ctx.blk C s2 H2 _ Ca2 cl2 fp2 rfl)) (pgs_cons (pgN (i := 2) (Ctx.blk C s2 H2 _ Ca2 cl2 fp2 rfl) (by decide +kernel)) (pgs_cons (pgN (i := 3) (Ctx.blk C s2 H2 _ Ca2 cl2 fp2 rfl) (by decide +kernel)) pgs_nil)))) (tgt_t2 (tgt_name (i := 2)) (tgt_name (i := 3))) (by decide) rfl (fun s2 H2 Ca2 cl2 fp2 x2 => (ets_one (eb_cmp (ec_eqI (ed_var (i := 3) (Ctx.blk C s2 H2 _ Ca2 cl2 fp2 rfl) (by decide +kernel) rfl) ed_num)))) (fun s2 H2 Ca2 cl2 fp2 x2 => (ed_var (i := 2) (Ctx.blk C s2 H2 _ Ca2 cl2 fp2 rfl) (by decide +kernel) rfl))) fun v_ones_1 => ?_
  refine sv_if (S' := Unit) (P' := fun s4 => [.dat (enc a_row), .dat (enc v_ones_1), .un, .un]) (eb_of_ed (ed_any C (by decide +kernel) hF.any_ (er_of_eo (eo_lc (lc_mk (own := [("one", 3)]) C (it_list (ed_var (i := 0) C (by decide +kernel) rfl)) (by decide +kernel) (fun s3 H3 Ca3 cl3 fp3 => (pgN (i := 3) (Ctx.blk C s3 H3 _ Ca3 cl3 fp3 rfl) (by decide +kernel))) (tgt_name (i := 3)) (by decide) rfl (fun s3 H3 Ca3 cl3 fp3 x3 => ets_nil) (fun s3 H3 Ca3 cl3 fp3 x3 => (ed_cmp (ec_lt (ed_var (i := 3) (Ctx.blk C s3 H3 _ Ca3 cl3 fp3 rfl) (by decide +kernel) rfl) ed_num)))))))) ?_ ?_ fun s4 => ?_
  · exact sv_ret ed_bl
  · exact sv_nil (wk_ops [] rfl)
  exact sv_ret (ed_or (ed_cmp (ec_eqI (ed_len C (by decide +kernel) hF.len_ (er_of_ed (ed_var (i := 1) C (by decide +kernel) rfl))) ed_num)) (ed_one (ed_cmp (ec_eqI (ed_add (ed_sub (ed_ix (ed_var (i := 1) C (by decide +kernel) rfl) (ed_neg ed_num)) (ed_ix (ed_var (i := 1) C (by decide +kernel) rfl) ed_num)) ed_num) (ed_len C (by decide +kernel) hF.len_ (er_of_ed (ed_var (i := 1) C (by decide +kernel) rfl)))))))
theorem ok_is_stretch {P : Program} {w : World} {K : PySem.W.Frag} {mg : Str → Option Value} {base : Heap} {f : Addr} {fd : FuncData} (F : Fun K "is_stretch" "is_stretch" st_is_stretch f fd) (hF : Facts mg)  : FnG P w K mg base CX0 1 f fd ["row"] (spD K .dd (g1 m_is_stretch)) :=
  ok_def F fs_is_stretch (fun ds r h => by obtain ⟨x0, y, e, _, _⟩ := h; rw [e]; rfl) 4 rfl (by decide) fun X h1 h2 h3 h4 h5 C ds r h => by subst h1 h2 h3 h4 h5; obtain ⟨x0, y, e1, e2, e3⟩ := h; subst e1 e3; exact body_of (bk_is_stretch C hF  x0) e2 (fun x h => nomatch h)
theorem bk_are_stretches {X : Cx} (C : Ctx X N_are_stretches (defScope st_are_stretches) none 3) (hF : Facts X.mg) (hE : ErrK X.prog X.w X.K X.mg X.base KS) (hC_check_table : Cal X.prog X.w X.K X.mg X.base (L2N.CX X.prog X.w) 3 "check_table" ["table"] (spE X.K X.mg .dd (gX1 m_check_table))) (hC_is_stretch : Cal X.prog X.w X.K X.mg X.base CX0 1 "is_stretch" ["row"] (spD X.K .dd (g1 m_is_stretch))) (a_table : (List (List Int))) :
    SV X (dats 2 [enc a_table]) (defBody st_are_stretches) (fun _ : Unit => List.replicate 2 .un) (fun _ : Unit => List.replicate 2 .un) ⟨.dd, false⟩ (b_are_stretches a_table) := by
  unfold b_are_stretches
  refine sv_exprE (ex_call C hC_check_table (by decide) (by decide +kernel) (ad_cons (ed_var (i := 0) C (by decide +kernel) rfl) ad_nil) goX1) ?_
  exact sv_ret (ed_all C (by decide +kernel) hF.all_ (er_of_eo (eo_lc (lc_mk (own := [("row", 1)]) C (it_list (ed_var (i := 0) C (by decide +kernel) rfl)) (by decide +kernel) (fun s1 H1 Ca1 cl1 fp1 => (pgN (i := 1) (Ctx.blk C s1 H1 _ Ca1 cl1 fp1 rfl) (by decide +kernel))) (tgt_name (i := 1)) (by decide) rfl (fun s1 H1 Ca1 cl1 fp1 x1 => ets_nil) (fun s1 H1 Ca1 cl1 fp1 x1 => (ed_call (Ctx.blk C s1 H1 _ Ca1 cl1 fp1 rfl) hC_is_stretch (by decide) (by decide +kernel) (ad_cons (ed_var (i := 1) (Ctx.blk C s1 H1 _ Ca1 cl1 fp1 rfl) (by decide +kernel) rfl) ad_nil) go1))))))
theorem ok_are_stretches {P : Program} {w : World} {K : PySem.W.Frag} {mg : Str → Option Value} {base : Heap} {f : Addr} {fd : FuncData} (F : Fun K "are_stretches" "are_stretches" st_are_stretches f fd) (hF : Facts mg) (hE : ErrK P w K mg base KS) (hC_check_table : Cal P w K mg base (L2N.CX P w) 3 "check_table" ["table"] (spE K mg .dd (gX1 m_check_table))) (hC_is_stretch : Cal P w K mg base CX0 1 "is_stretch" ["row"] (spD K .dd (g1 m_is_stretch))) : FnG P w K mg base (L2N.CX P w) 4 f fd ["table"] (spE K mg .dd (gX1 m_are_stretches)) :=
  ok_defE F fs_are_stretches (fun ds r h => by obtain ⟨x0, y, e, _, _⟩ := h; rw [e]; rfl) 2 rfl (by decide) fun X h1 h2 h3 h4 h5 C ds r h => by subst h1 h2 h3 h4 h5; obtain ⟨x0, y, e1, e2, e3⟩ := h; subst e1 e3; exact body_ofE (bk_are_stretches C hF hE hC_check_table hC_is_stretch x0) e2 (fun x h => nomatch h)
theorem bk_fits {X : Cx} (C : Ctx X N_fits (defScope st_fits) none 0) (hF : Facts X.mg)  (a_table : (List (List Int))) (a_told : (List Int)) :
    SV X (dats 5 [enc a_table, enc a_told]) (defBody st_fits) (fun _ : Unit => List.replicate 5 .un) (fun _ : Unit => List.replicate 5 .un) ⟨.dd, false⟩ (b_fits a_table a_told) := by
  unfold b_fits
  refine sv_for (S1 := Unit) (P1 := fun s1 => [.dat (enc a_table), .dat (enc a_told), .un, .un, .un]) (s0 := ()) C (it_rng1 C (by decide +kernel) hF.range_ (ed_len C (by decide +kernel) hF.len_ (er_of_ed (ed_ix (ed_var (i := 0) C (by decide +kernel) rfl) ed_num)))) (pgN (i := 2) C (by decide +kernel)) (tgt_name (i := 2)) (fun s1 => rfl) (wk_ops [] rfl) (fun s1 y2 => ?_) (fun s1 => ?_)
  · refine sv_setL (i := 3) C (by decide +kernel) (by decide +kernel) (lc_mk (own := [("i", 4)]) C (it_rng1 C (by decide +kernel) hF.range_ (ed_len C (by decide +kernel) hF.len_ (er_of_ed (ed_var (i := 0) C (by decide +kernel) rfl)))) (by decide +kernel) (fun s4 H4 Ca4 cl4 fp4 => (pgN (i := 4) (Ctx.blk C s4 H4 _ Ca4 cl4 fp4 rfl) (by decide +kernel))) (tgt_name (i := 4)) (by decide) rfl (fun s4 H4 Ca4 cl4 fp4 x4 => (ets_one (eb_cmp (ec_neI (ed_ix (ed_ix (ed_var (i := 0) (Ctx.blk C s4 H4 _ Ca4 cl4 fp4 rfl) (by decide +kernel) rfl) (ed_var (i := 4) (Ctx.blk C s4 H4 _ Ca4 cl4 fp4 rfl) (by decide +kernel) rfl)) (ed_var (i := 2) (Ctx.blk C s4 H4 _ Ca4 cl4 fp4 rfl) (by decide +kernel) rfl)) ed_num)))) (fun s4 H4 Ca4 cl4 fp4 x4 => (ed_var (i := 4) (Ctx.blk C s4 H4 _ Ca4 cl4 fp4 rfl) (by decide +kernel) rfl))) fun v_own_3 => ?_
    refine sv_if (S' := Unit) (P' := fun s5 => [.dat (enc a_table), .dat (enc a_told), .dat (enc y2), .dat (enc v_own_3), .un]) (eb_bool (ew_and (eb_cmp (ec_eqI (ed_len C (by decide +kernel) hF.len_ (er_of_ed (ed_var (i := 3) C (by decide +kernel) rfl))) ed_num)) (ew_and1 (eb_cmp (ec_neB (ed_cmp (ec_eqI (ed_ix (ed_var (i := 1) C (by decide +kernel) rfl) (ed_ix (ed_var (i := 3) C (by decide +kernel) rfl) ed_num)) (ed_ix (ed_var (i := 1) C (by decide +kernel) rfl) (ed_ix (ed_var (i := 3) C (by decide +kernel) rfl) ed_num)))) (ed_cmp (ec_neI (ed_ix (ed_ix (ed_var (i := 0) C (by decide +kernel) rfl) (ed_ix (ed_var (i := 3) C (by decide +kernel) rfl) ed_num)) (ed_var (i := 2) C (by decide +kernel) rfl)) (ed_ix (ed_ix (ed_var (i := 0) C (by decide +kernel) rfl) (ed_ix (ed_var (i := 3) C (by decide +kernel) rfl) ed_num)) (ed_var (i := 2) C (by decide +kernel) rfl))))))))) ?_ ?_ fun s5 => ?_
    · exact sv_ret ed_bl
    · exact sv_nil (wk_ops [] rfl)
    exact sv_nil (wk_ops [.un 2, .un 3] rfl)
  exact sv_ret ed_bl
theorem ok_fits {P : Program} {w : World} {K : PySem.W.Frag} {mg : Str → Option Value} {base : Heap} {f : Addr} {fd : FuncData} (F : Fun K "fits" "fits" st_fits f fd) (hF : Facts mg)  : FnG P w K mg base CX0 1 f fd ["table", "told"] (spD K .dd (g2 m_fits)) :=
  ok_def F fs_fits (fun ds r h => by obtain ⟨x0, x1, y, e, _, _⟩ := h; rw [e]; rfl) 5 rfl (by decide) fun X h1 h2 h3 h4 h5 C ds r h => by subst h1 h2 h3 h4 h5; obtain ⟨x0, x1, y, e1, e2, e3⟩ := h; subst e1 e3; exact body_of (bk_fits C hF  x0 x1) e2 (fun x h => nomatch h)
theorem bk_sides {X : Cx} (C : Ctx X N_sides (defScope st_sides) none 3) (hF : Facts X.mg) (hE : ErrK X.prog X.w X.K X.mg X.base KS) (hC_check_table : Cal X.prog X.w X.K X.mg X.base (L2N.CX X.prog X.w) 3 "check_table" ["table"] (spE X.K X.mg .dd (gX1 m_check_table))) (hC_rows_from : Cal X.prog X.w X.K X.mg X.base CX0 1 "rows_from" ["numbers", "size"] (spD X.K .dd (g2 m_rows_from))) (hC_fits : Cal X.prog X.w X.K X.mg X.base CX0 1 "fits" ["table", "told"] (spD X.K .dd (g2 m_fits))) (a_table : (List (List Int))) :
    SV X (dats 2 [enc a_table]) (defBody st_sides) (fun _ : Unit => List.replicate 2 .un) (fun _ : Unit => List.replicate 2 .un) ⟨.dd, false⟩ (b_sides a_table) := by
  unfold b_sides
  refine sv_exprE (ex_call C hC_check_table (by decide) (by decide +kernel) (ad_cons (ed_var (i := 0) C (by decide +kernel) rfl) ad_nil) goX1) ?_
  refine sv_for (S1 := Unit) (P1 := fun s1 => [.dat (enc a_table), .un]) (s0 := ()) C (it_list (ed_call C hC_rows_from (by decide) (by decide +kernel) (ad_cons (ed_of_eo (eo_list (al_cons ed_num (al_cons ed_num (al_nil (α := Int)))))) (ad_cons (ed_len C (by decide +kernel) hF.len_ (er_of_ed (ed_var (i := 0) C (by decide +kernel) rfl))) ad_nil)) go2)) (pgN (i := 1) C (by decide +kernel)) (tgt_name (i := 1)) (fun s1 => rfl) (wk_ops [] rfl) (fun s1 y2 => ?_) (fun s1 => ?_)
  · refine sv_if (S' := Unit) (P' := fun s3 => [.dat (enc a_table), .dat (enc y2)]) (eb_of_ed (ed_call C hC_fits (by decide) (by decide +kernel) (ad_cons (ed_var (i := 0) C (by decide +kernel) rfl) (ad_cons (ed_var (i := 1) C (by decide +kernel) rfl) ad_nil)) go2)) ?_ ?_ fun s3 => ?_
    · exact sv_ret (ed_some (ed_var (i := 1) C (by decide +kernel) rfl))
    · exact sv_nil (wk_ops [] rfl)
    exact sv_nil (wk_ops [.un 1] rfl)
  exact sv_ret ed_none
theorem ok_sides {P : Program} {w : World} {K : PySem.W.Frag} {mg : Str → Option Value} {base : Heap} {f : Addr} {fd : FuncData} (F : Fun K "sides" "sides" st_sides f fd) (hF : Facts mg) (hE : ErrK P w K mg base KS) (hC_check_table : Cal P w K mg base (L2N.CX P w) 3 "check_table" ["table"] (spE K mg .dd (gX1 m_check_table))) (hC_rows_from : Cal P w K mg base CX0 1 "rows_from" ["numbers", "size"] (spD K .dd (g2 m_rows_from))) (hC_fits : Cal P w K mg base CX0 1 "fits" ["table", "told"] (spD K .dd (g2 m_fits))) : FnG P w K mg base (L2N.CX P w) 4 f fd ["table"] (spE K mg .dd (gX1 m_sides)) :=
  ok_defE F fs_sides (fun ds r h => by obtain ⟨x0, y, e, _, _⟩ := h; rw [e]; rfl) 2 rfl (by decide) fun X h1 h2 h3 h4 h5 C ds r h => by subst h1 h2 h3 h4 h5; obtain ⟨x0, y, e1, e2, e3⟩ := h; subst e1 e3; exact body_ofE (bk_sides C hF hE hC_check_table hC_rows_from hC_fits x0) e2 (fun x h => nomatch h)
theorem bk_fraction {X : Cx} (C : Ctx X N_fraction (defScope st_fraction) none 0) (hF : Facts X.mg)  (a_number : Int) (a_by : Int) :
    SV X (dats 3 [enc a_number, enc a_by]) (defBody st_fraction) (fun _ : Unit => List.replicate 3 .un) (fun _ : Unit => List.replicate 3 .un) ⟨.dd, false⟩ (b_fraction a_number a_by) := by
  unfold b_fraction
  refine sv_if (S' := (Int × Int)) (P' := fun s1 => [.dat (enc s1.1), .dat (enc s1.2), .un]) (eb_cmp (ec_lt (ed_var (i := 1) C (by decide +kernel) rfl) ed_num)) ?_ ?_ fun s1 => ?_
  · refine sv_par (i := 0) (j := 1) C (by decide +kernel) (by decide +kernel) (by decide) (by decide +kernel) (by decide +kernel) (ed_neg (ed_var (i := 0) C (by decide +kernel) rfl)) (ed_neg (ed_var (i := 1) C (by decide +kernel) rfl)) fun v_number_2 v_by_3 => ?_
    exact sv_nil (wk_ops [] rfl)
  · exact sv_nil (wk_ops [] rfl)
  refine sv_wk (G' := [.dat (enc s1.1), .dat (enc s1.2), .un]) (wk_ops [] rfl) ?_
  refine sv_set (i := 2) C (by decide +kernel) (ed_gcd C (by decide +kernel) hF.gcd_ (ed_var (i := 0) C (by decide +kernel) rfl) (ed_var (i := 1) C (by decide +kernel) rfl)) fun v_common_4 => ?_
  exact sv_ret (ed_t2 (ed_fdiv (ed_var (i := 0) C (by decide +kernel) rfl) (ed_var (i := 2) C (by decide +kernel) rfl)) (ed_fdiv (ed_var (i := 1) C (by decide +kernel) rfl) (ed_var (i := 2) C (by decide +kernel) rfl)))
theorem ok_fraction {P : Program} {w : World} {K : PySem.W.Frag} {mg : Str → Option Value} {base : Heap} {f : Addr} {fd : FuncData} (F : Fun K "fraction" "fraction" st_fraction f fd) (hF : Facts mg)  : FnG P w K mg base CX0 1 f fd ["number", "by"] (spD K .dd (g2 m_fraction)) :=
  ok_def F fs_fraction (fun ds r h => by obtain ⟨x0, x1, y, e, _, _⟩ := h; rw [e]; rfl) 3 rfl (by decide) fun X h1 h2 h3 h4 h5 C ds r h => by subst h1 h2 h3 h4 h5; obtain ⟨x0, x1, y, e1, e2, e3⟩ := h; subst e1 e3; exact body_of (bk_fraction C hF  x0 x1) e2 (fun x h => nomatch h)
theorem bk_plus {X : Cx} (C : Ctx X N_plus (defScope st_plus) none 1) (hF : Facts X.mg) (hC_fraction : Cal X.prog X.w X.K X.mg X.base CX0 1 "fraction" ["number", "by"] (spD X.K .dd (g2 m_fraction))) (a_one : (T2 Int Int)) (a_two : (T2 Int Int)) :
    SV X (dats 2 [enc a_one, enc a_two]) (defBody st_plus) (fun _ : Unit => List.replicate 2 .un) (fun _ : Unit => List.replicate 2 .un) ⟨.dd, false⟩ (b_plus a_one a_two) := by
  unfold b_plus
  exact sv_ret (ed_call C hC_fraction (by decide) (by decide +kernel) (ad_cons (ed_add (ed_mul (ed_20 (ed_var (i := 0) C (by decide +kernel) rfl)) (ed_21 (ed_var (i := 1) C (by decide +kernel) rfl))) (ed_mul (ed_20 (ed_var (i := 1) C (by decide +kernel) rfl)) (ed_21 (ed_var (i := 0) C (by decide +kernel) rfl)))) (ad_cons (ed_mul (ed_21 (ed_var (i := 0) C (by decide +kernel) rfl)) (ed_21 (ed_var (i := 1) C (by decide +kernel) rfl))) ad_nil)) go2)
theorem ok_plus {P : Program} {w : World} {K : PySem.W.Frag} {mg : Str → Option Value} {base : Heap} {f : Addr} {fd : FuncData} (F : Fun K "plus" "plus" st_plus f fd) (hF : Facts mg) (hC_fraction : Cal P w K mg base CX0 1 "fraction" ["number", "by"] (spD K .dd (g2 m_fraction))) : FnG P w K mg base CX0 2 f fd ["one", "two"] (spD K .dd (g2 m_plus)) :=
  ok_def F fs_plus (fun ds r h => by obtain ⟨x0, x1, y, e, _, _⟩ := h; rw [e]; rfl) 2 rfl (by decide) fun X h1 h2 h3 h4 h5 C ds r h => by subst h1 h2 h3 h4 h5; obtain ⟨x0, x1, y, e1, e2, e3⟩ := h; subst e1 e3; exact body_of (bk_plus C hF hC_fraction x0 x1) e2 (fun x h => nomatch h)
theorem bk_lifted {X : Cx} (C : Ctx X N_lifted (defScope st_lifted) none 2) (hF : Facts X.mg) (hC_plus : Cal X.prog X.w X.K X.mg X.base CX0 2 "plus" ["one", "two"] (spD X.K .dd (g2 m_plus))) (a_told : (List (T2 Int Int))) :
    SV X (dats 2 [enc a_told]) (defBody st_lifted) (fun _ : Unit => List.replicate 2 .un) (fun _ : Unit => List.replicate 2 .un) ⟨.dd, false⟩ (b_lifted a_told) := by
  unfold b_lifted
  exact sv_ret (ed_of_eo (eo_lc (lc_mk (own := [("one", 1)]) C (it_list (ed_var (i := 0) C (by decide +kernel) rfl)) (by decide +kernel) (fun s1 H1 Ca1 cl1 fp1 => (pgN (i := 1) (Ctx.blk C s1 H1 _ Ca1 cl1 fp1 rfl) (by decide +kernel))) (tgt_name (i := 1)) (by decide) rfl (fun s1 H1 Ca1 cl1 fp1 x1 => ets_nil) (fun s1 H1 Ca1 cl1 fp1 x1 => (ed_if (eb_cmp (ec_lt (ed_20 (ed_var (i := 1) (Ctx.blk C s1 H1 _ Ca1 cl1 fp1 rfl) (by decide +kernel) rfl)) ed_num)) (ed_call (Ctx.blk C s1 H1 _ Ca1 cl1 fp1 rfl) hC_plus (by decide) (by decide +kernel) (ad_cons (ed_var (i := 1) (Ctx.blk C s1 H1 _ Ca1 cl1 fp1 rfl) (by decide +kernel) rfl) (ad_cons (ed_t2 (ed_neg (ed_fdiv (ed_20 (ed_var (i := 1) (Ctx.blk C s1 H1 _ Ca1 cl1 fp1 rfl) (by decide +kernel) rfl)) (ed_21 (ed_var (i := 1) (Ctx.blk C s1 H1 _ Ca1 cl1 fp1 rfl) (by decide +kernel) rfl)))) ed_num) ad_nil)) go2) (ed_var (i := 1) (Ctx.blk C s1 H1 _ Ca1 cl1 fp1 rfl) (by decide +kernel) rfl))))))
theorem ok_lifted {P : Program} {w : World} {K : PySem.W.Frag} {mg : Str → Option Value} {base : Heap} {f : Addr} {fd : FuncData} (F : Fun K "lifted" "lifted" st_lifted f fd) (hF : Facts mg) (hC_plus : Cal P w K mg base CX0 2 "plus" ["one", "two"] (spD K .dd (g2 m_plus))) : FnG P w K mg base CX0 3 f fd ["told"] (spD K .dd (g1 m_lifted)) :=
  ok_def F fs_lifted (fun ds r h => by obtain ⟨x0, y, e, _, _⟩ := h; rw [e]; rfl) 2 rfl (by decide) fun X h1 h2 h3 h4 h5 C ds r h => by subst h1 h2 h3 h4 h5; obtain ⟨x0, y, e1, e2, e3⟩ := h; subst e1 e3; exact body_of (bk_lifted C hF hC_plus x0) e2 (fun x h => nomatch h)
theorem bk_column_of {X : Cx} (C : Ctx X N_column_of (defScope st_column_of) none 6) (hF : Facts X.mg) (hC_measure_of : Cal X.prog X.w X.K X.mg X.base CX0 6 "measure_of" ["rows"] (spD X.K .dd (g1 m_measure_of))) (hC_square_at : Cal X.prog X.w X.K X.mg X.base CX0 1 "square_at" ["table", "rows", "columns"] (spD X.K .dd (g3 m_square_at))) (hC_fraction : Cal X.prog X.w X.K X.mg X.base CX0 1 "fraction" ["number", "by"] (spD X.K .dd (g2 m_fraction))) (a_table : (List (List Int))) (a_rows : (List Int)) (a_columns : (List Int)) (a_place : Int) :
    SV X (dats 9 [enc a_table, enc a_rows, enc a_columns, enc a_place]) (defBody st_column_of) (fun _ : Unit => List.replicate 9 .un) (fun _ : Unit => List.replicate 9 .un) ⟨.dd, false⟩ (b_column_of a_table a_rows a_columns a_place) := by
  unfold b_column_of
  refine sv_set (i := 4) C (by decide +kernel) (ed_call C hC_measure_of (by decide) (by decide +kernel) (ad_cons (ed_call C hC_square_at (by decide) (by decide +kernel) (ad_cons (ed_var (i := 0) C (by decide +kernel) rfl) (ad_cons (ed_var (i := 1) C (by decide +kernel) rfl) (ad_cons (ed_var (i := 2) C (by decide +kernel) rfl) ad_nil))) go3) ad_nil) go1) fun v_whole_1 => ?_
  refine sv_setO (i := 5) C (by decide +kernel) (Nat.le_of_ble_eq_true rfl) (eo_list (al_nil (α := (T2 Int Int)))) fun v_found_2 => ?_
  refine sv_wk (G' := [.dat (enc a_table), .dat (enc a_rows), .dat (enc a_columns), .dat (enc a_place), .dat (enc v_whole_1), .own (v_found_2.map enc), .un, .un, .un]) (wk_ops [] rfl) ?_
  refine sv_for (S1 := (List (T2 Int Int))) (P1 := fun s3 => [.dat (enc a_table), .dat (enc a_rows), .dat (enc a_columns), .dat (enc a_place), .dat (enc v_whole_1), .own (s3.map enc), .un, .un, .un]) (s0 := v_found_2) C (it_rng1 C (by decide +kernel) hF.range_ (ed_len C (by decide +kernel) hF.len_ (er_of_ed (ed_var (i := 2) C (by decide +kernel) rfl)))) (pgN (i := 6) C (by decide +kernel)) (tgt_name (i := 6)) (fun s3 => rfl) (wk_ops [] rfl) (fun s3 y4 => ?_) (fun s3 => ?_)
  · refine sv_set (i := 7) C (by decide +kernel) (ed_call C hC_square_at (by decide) (by decide +kernel) (ad_cons (ed_var (i := 0) C (by decide +kernel) rfl) (ad_cons (ed_of_eo (eo_cat (ed_of_eo (eo_slice (ed_var (i := 1) C (by decide +kernel) rfl) ep_none (ep_some (ed_var (i := 3) C (by decide +kernel) rfl)))) (ed_of_eo (eo_slice (ed_var (i := 1) C (by decide +kernel) rfl) (ep_some (ed_add (ed_var (i := 3) C (by decide +kernel) rfl) ed_num)) ep_none)))) (ad_cons (ed_of_eo (eo_cat (ed_of_eo (eo_slice (ed_var (i := 2) C (by decide +kernel) rfl) ep_none (ep_some (ed_var (i := 6) C (by decide +kernel) rfl)))) (ed_of_eo (eo_slice (ed_var (i := 2) C (by decide +kernel) rfl) (ep_some (ed_add (ed_var (i := 6) C (by decide +kernel) rfl) ed_num)) ep_none)))) ad_nil))) go3) fun v_rest_5 => ?_
    refine sv_set (i := 8) C (by decide +kernel) (ed_if (eb_cmp (ec_eqI (ed_mod (ed_add (ed_var (i := 3) C (by decide +kernel) rfl) (ed_var (i := 6) C (by decide +kernel) rfl)) ed_num) ed_num)) (ed_neg ed_num) ed_num) fun v_sign_6 => ?_
    refine sv_wk (G' := [.dat (enc a_table), .dat (enc a_rows), .dat (enc a_columns), .dat (enc a_place), .dat (enc v_whole_1), .own (s3.map enc), .dat (enc y4), .dat (enc v_rest_5), .dat (enc v_sign_6)]) (wk_ops [] rfl) ?_
    refine sv_app (i := 5) C (by decide +kernel) rfl (ed_call C hC_fraction (by decide) (by decide +kernel) (ad_cons (ed_mul (ed_var (i := 8) C (by decide +kernel) rfl) (ed_call C hC_measure_of (by decide) (by decide +kernel) (ad_cons (ed_var (i := 7) C (by decide +kernel) rfl) ad_nil) go1)) (ad_cons (ed_var (i := 4) C (by decide +kernel) rfl) ad_nil)) go2) fun v7 => ?_
    exact sv_nil (wk_mask [false, false, false, false, false, false, true, true, true] [] rfl)
  refine sv_wk (wk_ops [.fz 5] rfl) ?_
  exact sv_ret (ed_var (i := 5) C (by decide +kernel) rfl)
theorem ok_column_of {P : Program} {w : World} {K : PySem.W.Frag} {mg : Str → Option Value} {base : Heap} {f : Addr} {fd : FuncData} (F : Fun K "column_of" "column_of" st_column_of f fd) (hF : Facts mg) (hC_measure_of : Cal P w K mg base CX0 6 "measure_of" ["rows"] (spD K .dd (g1 m_measure_of))) (hC_square_at : Cal P w K mg base CX0 1 "square_at" ["table", "rows", "columns"] (spD K .dd (g3 m_square_at))) (hC_fraction : Cal P w K mg base CX0 1 "fraction" ["number", "by"] (spD K .dd (g2 m_fraction))) : FnG P w K mg base CX0 7 f fd ["table", "rows", "columns", "place"] (spD K .dd (g4 m_column_of)) :=
  ok_def F fs_column_of (fun ds r h => by obtain ⟨x0, x1, x2, x3, y, e, _, _⟩ := h; rw [e]; rfl) 9 rfl (by decide) fun X h1 h2 h3 h4 h5 C ds r h => by subst h1 h2 h3 h4 h5; obtain ⟨x0, x1, x2, x3, y, e1, e2, e3⟩ := h; subst e1 e3; exact body_of (bk_column_of C hF hC_measure_of hC_square_at hC_fraction x0 x1 x2 x3) e2 (fun x h => nomatch h)
theorem bk_total {X : Cx} (C : Ctx X N_total (defScope st_total) none 2) (hF : Facts X.mg) (hC_plus : Cal X.prog X.w X.K X.mg X.base CX0 2 "plus" ["one", "two"] (spD X.K .dd (g2 m_plus))) (a_told : (List (T2 Int Int))) :
    SV X (dats 3 [enc a_told]) (defBody st_total) (fun _ : Unit => List.replicate 3 .un) (fun _ : Unit => List.replicate 3 .un) ⟨.dd, false⟩ (b_total a_told) := by
  unfold b_total
  refine sv_set (i := 1) C (by decide +kernel) (ed_t2 ed_num ed_num) fun v_found_1 => ?_
  refine sv_for (S1 := (T2 Int Int)) (P1 := fun s2 => [.dat (enc a_told), .dat (enc s2), .un]) (s0 := v_found_1) C (it_list (ed_var (i := 0) C (by decide +kernel) rfl)) (pgN (i := 2) C (by decide +kernel)) (tgt_name (i := 2)) (fun s2 => rfl) (wk_ops [] rfl) (fun s2 y3 => ?_) (fun s2 => ?_)
  · refine sv_set (i := 1) C (by decide +kernel) (ed_call C hC_plus (by decide) (by decide +kernel) (ad_cons (ed_var (i := 1) C (by decide +kernel) rfl) (ad_cons (ed_var (i := 2) C (by decide +kernel) rfl) ad_nil)) go2) fun v_found_4 => ?_
    exact sv_nil (wk_ops [.un 2] rfl)
  refine sv_wk (G' := [.dat (enc a_told), .dat (enc s2), .un]) (wk_ops [] rfl) ?_
  exact sv_ret (ed_var (i := 1) C (by decide +kernel) rfl)
theorem ok_total {P : Program} {w : World} {K : PySem.W.Frag} {mg : Str → Option Value} {base : Heap} {f : Addr} {fd : FuncData} (F : Fun K "total" "total" st_total f fd) (hF : Facts mg) (hC_plus : Cal P w K mg base CX0 2 "plus" ["one", "two"] (spD K .dd (g2 m_plus))) : FnG P w K mg base CX0 3 f fd ["told"] (spD K .dd (g1 m_total)) :=
  ok_def F fs_total (fun ds r h => by obtain ⟨x0, y, e, _, _⟩ := h; rw [e]; rfl) 3 rfl (by decide) fun X h1 h2 h3 h4 h5 C ds r h => by subst h1 h2 h3 h4 h5; obtain ⟨x0, y, e1, e2, e3⟩ := h; subst e1 e3; exact body_of (bk_total C hF hC_plus x0) e2 (fun x h => nomatch h)
theorem bk_times {X : Cx} (C : Ctx X N_times (defScope st_times) none 1) (hF : Facts X.mg) (hC_fraction : Cal X.prog X.w X.K X.mg X.base CX0 1 "fraction" ["number", "by"] (spD X.K .dd (g2 m_fraction))) (a_one : (T2 Int Int)) (a_two : (T2 Int Int)) :
    SV X (dats 2 [enc a_one, enc a_two]) (defBody st_times) (fun _ : Unit => List.replicate 2 .un) (fun _ : Unit => List.replicate 2 .un) ⟨.dd, false⟩ (b_times a_one a_two) := by
  unfold b_times
  exact sv_ret (ed_call C hC_fraction (by decide) (by decide +kernel) (ad_cons (ed_mul (ed_20 (ed_var (i := 0) C (by decide +kernel) rfl)) (ed_20 (ed_var (i := 1) C (by decide +kernel) rfl))) (ad_cons (ed_mul (ed_21 (ed_var (i := 0) C (by decide +kernel) rfl)) (ed_21 (ed_var (i := 1) C (by decide +kernel) rfl))) ad_nil)) go2)
theorem ok_times {P : Program} {w : World} {K : PySem.W.Frag} {mg : Str → Option Value} {base : Heap} {f : Addr} {fd : FuncData} (F : Fun K "times" "times" st_times f fd) (hF : Facts mg) (hC_fraction : Cal P w K mg base CX0 1 "fraction" ["number", "by"] (spD K .dd (g2 m_fraction))) : FnG P w K mg base CX0 2 f fd ["one", "two"] (spD K .dd (g2 m_times)) :=
  ok_def F fs_times (fun ds r h => by obtain ⟨x0, x1, y, e, _, _⟩ := h; rw [e]; rfl) 2 rfl (by decide) fun X h1 h2 h3 h4 h5 C ds r h => by subst h1 h2 h3 h4 h5; obtain ⟨x0, x1, y, e1, e2, e3⟩ := h; subst e1 e3; exact body_of (bk_times C hF hC_fraction x0 x1) e2 (fun x h => nomatch h)
theorem bk_sum_of {X : Cx} (C : Ctx X N_sum_of (defScope st_sum_of) none 3) (hF : Facts X.mg) (hC_total : Cal X.prog X.w X.K X.mg X.base CX0 3 "total" ["told"] (spD X.K .dd (g1 m_total))) (hC_times : Cal X.prog X.w X.K X.mg X.base CX0 2 "times" ["one", "two"] (spD X.K .dd (g2 m_times))) (a_row : (List Int)) (a_told : (List (T2 Int Int))) :
    SV X (dats 4 [enc a_row, enc a_told]) (defBody st_sum_of) (fun _ : Unit => List.replicate 4 .un) (fun _ : Unit => List.replicate 4 .un) ⟨.dd, false⟩ (b_sum_of a_row a_told) := by
  unfold b_sum_of
  exact sv_ret (ed_call C hC_total (by decide) (by decide +kernel) (ad_cons (ed_of_eo (eo_lc (lc_mk (own := [("number", 3), ("one", 2)]) C (it_zip C (by decide +kernel) hF.zip_ (ed_var (i := 0) C (by decide +kernel) rfl) (ed_var (i := 1) C (by decide +kernel) rfl)) (by decide +kernel) (fun s1 H1 Ca1 cl1 fp1 => (pg_tup (Ctx.calm (Ctx.blk C s1 H1 _ Ca1 cl1 fp1 rfl)) (pgs_cons (pgN (i := 2) (Ctx.blk C s1 H1 _ Ca1 cl1 fp1 rfl) (by decide +kernel)) (pgs_cons (pgN (i := 3) (Ctx.blk C s1 H1 _ Ca1 cl1 fp1 rfl) (by decide +kernel)) pgs_nil)))) (tgt_t2 (tgt_name (i := 2)) (tgt_name (i := 3))) (by decide) rfl (fun s1 H1 Ca1 cl1 fp1 x1 => ets_nil) (fun s1 H1 Ca1 cl1 fp1 x1 => (ed_call (Ctx.blk C s1 H1 _ Ca1 cl1 fp1 rfl) hC_times (by decide) (by decide +kernel) (ad_cons (ed_t2 (ed_var (i := 2) (Ctx.blk C s1 H1 _ Ca1 cl1 fp1 rfl) (by decide +kernel) rfl) ed_num) (ad_cons (ed_var (i := 3) (Ctx.blk C s1 H1 _ Ca1 cl1 fp1 rfl) (by decide +kernel) rfl) ad_nil)) go2))))) ad_nil) go1)
theorem ok_sum_of {P : Program} {w : World} {K : PySem.W.Frag} {mg : Str → Option Value} {base : Heap} {f : Addr} {fd : FuncData} (F : Fun K "sum_of" "sum_of" st_sum_of f fd) (hF : Facts mg) (hC_total : Cal P w K mg base CX0 3 "total" ["told"] (spD K .dd (g1 m_total))) (hC_times : Cal P w K mg base CX0 2 "times" ["one", "two"] (spD K .dd (g2 m_times))) : FnG P w K mg base CX0 4 f fd ["row", "told"] (spD K .dd (g2 m_sum_of)) :=
  ok_def F fs_sum_of (fun ds r h => by obtain ⟨x0, x1, y, e, _, _⟩ := h; rw [e]; rfl) 4 rfl (by decide) fun X h1 h2 h3 h4 h5 C ds r h => by subst h1 h2 h3 h4 h5; obtain ⟨x0, x1, y, e1, e2, e3⟩ := h; subst e1 e3; exact body_of (bk_sum_of C hF hC_total hC_times x0 x1) e2 (fun x h => nomatch h)
theorem bk_broken {X : Cx} (C : Ctx X N_broken (defScope st_broken) none 7) (hF : Facts X.mg) (hE : ErrK X.prog X.w X.K X.mg X.base KS) (hC_check_table : Cal X.prog X.w X.K X.mg X.base (L2N.CX X.prog X.w) 3 "check_table" ["table"] (spE X.K X.mg .dd (gX1 m_check_table))) (hC_bad_of : Cal X.prog X.w X.K X.mg X.base CX0 7 "bad_of" ["table"] (spD X.K .dd (g1 m_bad_of))) (hC_column_of : Cal X.prog X.w X.K X.mg X.base CX0 7 "column_of" ["table", "rows", "columns", "place"] (spD X.K .dd (g4 m_column_of))) (hC_lifted : Cal X.prog X.w X.K X.mg X.base CX0 3 "lifted" ["told"] (spD X.K .dd (g1 m_lifted))) (hC_sum_of : Cal X.prog X.w X.K X.mg X.base CX0 4 "sum_of" ["row", "told"] (spD X.K .dd (g2 m_sum_of))) (a_table : (List (List Int))) :
    SV X (dats 15 [enc a_table]) (defBody st_broken) (fun _ : Unit => List.replicate 15 .un) (fun _ : Unit => List.replicate 15 .un) ⟨.dd, false⟩ (b_broken a_table) := by
  unfold b_broken
  refine sv_exprE (ex_call C hC_check_table (by decide) (by decide +kernel) (ad_cons (ed_var (i := 0) C (by decide +kernel) rfl) ad_nil) goX1) ?_
  refine sv_set (i := 1) C (by decide +kernel) (ed_call C hC_bad_of (by decide) (by decide +kernel) (ad_cons (ed_var (i := 0) C (by decide +kernel) rfl) ad_nil) go1) fun v_square_1 => ?_
  refine sv_if (S' := Unit) (P' := fun s2 => [.dat (enc a_table), .dat (enc v_square_1), .un, .un, .un, .un, .un, .un, .un, .un, .un, .un, .un, .un, .un]) (eb_cmp (ec_isN (ed_var (i := 1) C (by decide +kernel) rfl))) ?_ ?_ fun s2 => ?_
  · exact sv_ret ed_none
  · exact sv_nil (wk_ops [] rfl)
  refine sv_unpack (pg_tup (Ctx.calm C) (pgs_cons (pgN (i := 6) C (by decide +kernel)) (pgs_cons (pgN (i := 7) C (by decide +kernel)) pgs_nil))) (tgt_t2 (tgt_name (i := 6)) (tgt_name (i := 7))) rfl (ed_get (ed_var (i := 1) C (by decide +kernel) rfl)) fun u3 => ?_
  refine sv_setL (i := 2) C (by decide +kernel) (by decide +kernel) (lc_mk (own := [("place", 11)]) C (it_rng1 C (by decide +kernel) hF.range_ (ed_len C (by decide +kernel) hF.len_ (er_of_ed (ed_var (i := 6) C (by decide +kernel) rfl)))) (by decide +kernel) (fun s5 H5 Ca5 cl5 fp5 => (pgN (i := 11) (Ctx.blk C s5 H5 _ Ca5 cl5 fp5 rfl) (by decide +kernel))) (tgt_name (i := 11)) (by decide) rfl (fun s5 H5 Ca5 cl5 fp5 x5 => ets_nil) (fun s5 H5 Ca5 cl5 fp5 x5 => (ed_call (Ctx.blk C s5 H5 _ Ca5 cl5 fp5 rfl) hC_column_of (by decide) (by decide +kernel) (ad_cons (ed_var (i := 0) (Ctx.blk C s5 H5 _ Ca5 cl5 fp5 rfl) (by decide +kernel) rfl) (ad_cons (ed_var (i := 6) (Ctx.blk C s5 H5 _ Ca5 cl5 fp5 rfl) (by decide +kernel) rfl) (ad_cons (ed_var (i := 7) (Ctx.blk C s5 H5 _ Ca5 cl5 fp5 rfl) (by decide +kernel) rfl) (ad_cons (ed_var (i := 11) (Ctx.blk C s5 H5 _ Ca5 cl5 fp5 rfl) (by decide +kernel) rfl) ad_nil)))) go4))) fun v_columns_of_4 => ?_
  refine sv_wk (G' := [.dat (enc a_table), .dat (enc v_square_1), .dat (enc v_columns_of_4), .un, .un, .un, .dat (enc u3.a), .dat (enc u3.b), .un, .un, .un, .un, .un, .un, .un]) (wk_ops [] rfl) ?_
  refine sv_set (i := 3) C (by decide +kernel) (ed_call C hC_lifted (by decide) (by decide +kernel) (ad_cons (ed_ix (ed_of_eo (eo_lc (lc_mk (own := [("one", 13)]) C (it_list (ed_var (i := 2) C (by decide +kernel) rfl)) (by decide +kernel) (fun s7 H7 Ca7 cl7 fp7 => (pgN (i := 13) (Ctx.blk C s7 H7 _ Ca7 cl7 fp7 rfl) (by decide +kernel))) (tgt_name (i := 13)) (by decide) rfl (fun s7 H7 Ca7 cl7 fp7 x7 => (ets_one (eb_of_ed (ed_any (Ctx.blk C s7 H7 _ Ca7 cl7 fp7 rfl) (by decide +kernel) hF.any_ (er_of_eo (eo_lc (lc_mk (own := [("number", 14)]) (Ctx.blk C s7 H7 _ Ca7 cl7 fp7 rfl) (it_list (ed_var (i := 13) (Ctx.blk C s7 H7 _ Ca7 cl7 fp7 rfl) (by decide +kernel) rfl)) (by decide +kernel) (fun s8 H8 Ca8 cl8 fp8 => (pgN (i := 14) (Ctx.blk (Ctx.blk C s7 H7 _ Ca7 cl7 fp7 rfl) s8 H8 _ Ca8 cl8 fp8 rfl) (by decide +kernel))) (tgt_name (i := 14)) (by decide) rfl (fun s8 H8 Ca8 cl8 fp8 x8 => ets_nil) (fun s8 H8 Ca8 cl8 fp8 x8 => (ed_cmp (ec_gt (ed_21 (ed_var (i := 14) (Ctx.blk (Ctx.blk C s7 H7 _ Ca7 cl7 fp7 rfl) s8 H8 _ Ca8 cl8 fp8 rfl) (by decide +kernel) rfl)) ed_num)))))))))) (fun s7 H7 Ca7 cl7 fp7 x7 => (ed_var (i := 13) (Ctx.blk C s7 H7 _ Ca7 cl7 fp7 rfl) (by decide +kernel) rfl))))) ed_num) ad_nil) go1) fun v_own_6 => ?_
  refine sv_setL (i := 4) C (by decide +kernel) (by decide +kernel) (lc_mk (own := [("j", 12)]) C (it_rng1 C (by decide +kernel) hF.range_ (ed_len C (by decide +kernel) hF.len_ (er_of_ed (ed_ix (ed_var (i := 0) C (by decide +kernel) rfl) ed_num)))) (by decide +kernel) (fun s10 H10 Ca10 cl10 fp10 => (pgN (i := 12) (Ctx.blk C s10 H10 _ Ca10 cl10 fp10 rfl) (by decide +kernel))) (tgt_name (i := 12)) (by decide) rfl (fun s10 H10 Ca10 cl10 fp10 x10 => ets_nil) (fun s10 H10 Ca10 cl10 fp10 x10 => (ed_if (eb_cmp (ec_in (Ctx.blk C s10 H10 _ Ca10 cl10 fp10 rfl) (ed_var (i := 12) (Ctx.blk C s10 H10 _ Ca10 cl10 fp10 rfl) (by decide +kernel) rfl) (er_of_ed (ed_var (i := 7) (Ctx.blk C s10 H10 _ Ca10 cl10 fp10 rfl) (by decide +kernel) rfl)))) (ed_ix (ed_var (i := 3) (Ctx.blk C s10 H10 _ Ca10 cl10 fp10 rfl) (by decide +kernel) rfl) (ed_index (Ctx.blk C s10 H10 _ Ca10 cl10 fp10 rfl) (ed_var (i := 7) (Ctx.blk C s10 H10 _ Ca10 cl10 fp10 rfl) (by decide +kernel) rfl) (ed_var (i := 12) (Ctx.blk C s10 H10 _ Ca10 cl10 fp10 rfl) (by decide +kernel) rfl))) (ed_t2 ed_num ed_num)))) fun v_told_9 => ?_
  refine sv_wk (G' := [.dat (enc a_table), .dat (enc v_square_1), .dat (enc v_columns_of_4), .dat (enc v_own_6), .dat (enc v_told_9), .un, .dat (enc u3.a), .dat (enc u3.b), .un, .un, .un, .un, .un, .un, .un]) (wk_ops [] rfl) ?_
  refine sv_setO (i := 5) C (by decide +kernel) (Nat.le_of_ble_eq_true rfl) (eo_list (al_nil (α := Int))) fun v_limits_11 => ?_
  refine sv_for (S1 := (List Int)) (P1 := fun s12 => [.dat (enc a_table), .dat (enc v_square_1), .dat (enc v_columns_of_4), .dat (enc v_own_6), .dat (enc v_told_9), .own (s12.map enc), .dat (enc u3.a), .dat (enc u3.b), .un, .un, .un, .un, .un, .un, .un]) (s0 := v_limits_11) C (it_enum C (by decide +kernel) hF.enumerate_ (ed_var (i := 0) C (by decide +kernel) rfl)) (pg_tup (Ctx.calm C) (pgs_cons (pgN (i := 8) C (by decide +kernel)) (pgs_cons (pgN (i := 9) C (by decide +kernel)) pgs_nil))) (tgt_t2 (tgt_name (i := 8)) (tgt_name (i := 9))) (fun s12 => rfl) (wk_ops [] rfl) (fun s12 y13 => ?_) (fun s12 => ?_)
  · refine sv_set (i := 10) C (by decide +kernel) (ed_call C hC_sum_of (by decide) (by decide +kernel) (ad_cons (ed_var (i := 9) C (by decide +kernel) rfl) (ad_cons (ed_var (i := 4) C (by decide +kernel) rfl) ad_nil)) go2) fun v_here_14 => ?_
    refine sv_app (i := 5) C (by decide +kernel) rfl (ed_if (eb_cmp (ec_in C (ed_var (i := 8) C (by decide +kernel) rfl) (er_of_ed (ed_var (i := 6) C (by decide +kernel) rfl)))) (ed_20 (ed_var (i := 10) C (by decide +kernel) rfl)) (ed_add (ed_fdiv (ed_20 (ed_var (i := 10) C (by decide +kernel) rfl)) (ed_21 (ed_var (i := 10) C (by decide +kernel) rfl))) ed_num)) fun v15 => ?_
    exact sv_nil (wk_mask [false, false, false, false, false, false, false, false, true, true, true] [] rfl)
  refine sv_wk (wk_ops [.fz 5] rfl) ?_
  exact sv_ret (ed_some (ed_t2 (ed_var (i := 5) C (by decide +kernel) rfl) (ed_var (i := 4) C (by decide +kernel) rfl)))
theorem ok_broken {P : Program} {w : World} {K : PySem.W.Frag} {mg : Str → Option Value} {base : Heap} {f : Addr} {fd : FuncData} (F : Fun K "broken" "broken" st_broken f fd) (hF : Facts mg) (hE : ErrK P w K mg base KS) (hC_check_table : Cal P w K mg base (L2N.CX P w) 3 "check_table" ["table"] (spE K mg .dd (gX1 m_check_table))) (hC_bad_of : Cal P w K mg base CX0 7 "bad_of" ["table"] (spD K .dd (g1 m_bad_of))) (hC_column_of : Cal P w K mg base CX0 7 "column_of" ["table", "rows", "columns", "place"] (spD K .dd (g4 m_column_of))) (hC_lifted : Cal P w K mg base CX0 3 "lifted" ["told"] (spD K .dd (g1 m_lifted))) (hC_sum_of : Cal P w K mg base CX0 4 "sum_of" ["row", "told"] (spD K .dd (g2 m_sum_of))) : FnG P w K mg base (L2N.CX P w) 8 f fd ["table"] (spE K mg .dd (gX1 m_broken)) :=
  ok_defE F fs_broken (fun ds r h => by obtain ⟨x0, y, e, _, _⟩ := h; rw [e]; rfl) 15 rfl (by decide) fun X h1 h2 h3 h4 h5 C ds r h => by subst h1 h2 h3 h4 h5; obtain ⟨x0, y, e1, e2, e3⟩ := h; subst e1 e3; exact body_ofE (bk_broken C hF hE hC_check_table hC_bad_of hC_column_of hC_lifted hC_sum_of x0) e2 (fun x h => nomatch h)
theorem bk_is_less {X : Cx} (C : Ctx X N_is_less (defScope st_is_less) none 0) (hF : Facts X.mg)  (a_one : (T2 Int Int)) (a_two : (T2 Int Int)) :
    SV X (dats 2 [enc a_one, enc a_two]) (defBody st_is_less) (fun _ : Unit => List.replicate 2 .un) (fun _ : Unit => List.replicate 2 .un) ⟨.dd, false⟩ (b_is_less a_one a_two) := by
  unfold b_is_less
  exact sv_ret (ed_cmp (ec_lt (ed_mul (ed_20 (ed_var (i := 0) C (by decide +kernel) rfl)) (ed_21 (ed_var (i := 1) C (by decide +kernel) rfl))) (ed_mul (ed_20 (ed_var (i := 1) C (by decide +kernel) rfl)) (ed_21 (ed_var (i := 0) C (by decide +kernel) rfl)))))
theorem ok_is_less {P : Program} {w : World} {K : PySem.W.Frag} {mg : Str → Option Value} {base : Heap} {f : Addr} {fd : FuncData} (F : Fun K "is_less" "is_less" st_is_less f fd) (hF : Facts mg)  : FnG P w K mg base CX0 1 f fd ["one", "two"] (spD K .dd (g2 m_is_less)) :=
  ok_def F fs_is_less (fun ds r h => by obtain ⟨x0, x1, y, e, _, _⟩ := h; rw [e]; rfl) 2 rfl (by decide) fun X h1 h2 h3 h4 h5 C ds r h => by subst h1 h2 h3 h4 h5; obtain ⟨x0, x1, y, e1, e2, e3⟩ := h; subst e1 e3; exact body_of (bk_is_less C hF  x0 x1) e2 (fun x h => nomatch h)
theorem bk_over {X : Cx} (C : Ctx X N_over (defScope st_over) none 1) (hF : Facts X.mg) (hC_fraction : Cal X.prog X.w X.K X.mg X.base CX0 1 "fraction" ["number", "by"] (spD X.K .dd (g2 m_fraction))) (a_one : (T2 Int Int)) (a_two : (T2 Int Int)) :
    SV X (dats 2 [enc a_one, enc a_two]) (defBody st_over) (fun _ : Unit => List.replicate 2 .un) (fun _ : Unit => List.replicate 2 .un) ⟨.dd, false⟩ (b_over a_one a_two) := by
  unfold b_over
  exact sv_ret (ed_call C hC_fraction (by decide) (by decide +kernel) (ad_cons (ed_mul (ed_20 (ed_var (i := 0) C (by decide +kernel) rfl)) (ed_21 (ed_var (i := 1) C (by decide +kernel) rfl))) (ad_cons (ed_mul (ed_21 (ed_var (i := 0) C (by decide +kernel) rfl)) (ed_20 (ed_var (i := 1) C (by decide +kernel) rfl))) ad_nil)) go2)
theorem ok_over {P : Program} {w : World} {K : PySem.W.Frag} {mg : Str → Option Value} {base : Heap} {f : Addr} {fd : FuncData} (F : Fun K "over" "over" st_over f fd) (hF : Facts mg) (hC_fraction : Cal P w K mg base CX0 1 "fraction" ["number", "by"] (spD K .dd (g2 m_fraction))) : FnG P w K mg base CX0 2 f fd ["one", "two"] (spD K .dd (g2 m_over)) :=
  ok_def F fs_over (fun ds r h => by obtain ⟨x0, x1, y, e, _, _⟩ := h; rw [e]; rfl) 2 rfl (by decide) fun X h1 h2 h3 h4 h5 C ds r h => by subst h1 h2 h3 h4 h5; obtain ⟨x0, x1, y, e1, e2, e3⟩ := h; subst e1 e3; exact body_of (bk_over C hF hC_fraction x0 x1) e2 (fun x h => nomatch h)
theorem bk_minus {X : Cx} (C : Ctx X N_minus (defScope st_minus) none 1) (hF : Facts X.mg) (hC_fraction : Cal X.prog X.w X.K X.mg X.base CX0 1 "fraction" ["number", "by"] (spD X.K .dd (g2 m_fraction))) (a_one : (T2 Int Int)) (a_two : (T2 Int Int)) :
    SV X (dats 2 [enc a_one, enc a_two]) (defBody st_minus) (fun _ : Unit => List.replicate 2 .un) (fun _ : Unit => List.replicate 2 .un) ⟨.dd, false⟩ (b_minus a_one a_two) := by
  unfold b_minus
  exact sv_ret (ed_call C hC_fraction (by decide) (by decide +kernel) (ad_cons (ed_sub (ed_mul (ed_20 (ed_var (i := 0) C (by decide +kernel) rfl)) (ed_21 (ed_var (i := 1) C (by decide +kernel) rfl))) (ed_mul (ed_20 (ed_var (i := 1) C (by decide +kernel) rfl)) (ed_21 (ed_var (i := 0) C (by decide +kernel) rfl)))) (ad_cons (ed_mul (ed_21 (ed_var (i := 0) C (by decide +kernel) rfl)) (ed_21 (ed_var (i := 1) C (by decide +kernel) rfl))) ad_nil)) go2)
theorem ok_minus {P : Program} {w : World} {K : PySem.W.Frag} {mg : Str → Option Value} {base : Heap} {f : Addr} {fd : FuncData} (F : Fun K "minus" "minus" st_minus f fd) (hF : Facts mg) (hC_fraction : Cal P w K mg base CX0 1 "fraction" ["number", "by"] (spD K .dd (g2 m_fraction))) : FnG P w K mg base CX0 2 f fd ["one", "two"] (spD K .dd (g2 m_minus)) :=
  ok_def F fs_minus (fun ds r h => by obtain ⟨x0, x1, y, e, _, _⟩ := h; rw [e]; rfl) 2 rfl (by decide) fun X h1 h2 h3 h4 h5 C ds r h => by subst h1 h2 h3 h4 h5; obtain ⟨x0, x1, y, e1, e2, e3⟩ := h; subst e1 e3; exact body_of (bk_minus C hF hC_fraction x0 x1) e2 (fun x h => nomatch h)
theorem bk_rank_of {X : Cx} (C : Ctx X N_rank_of (defScope st_rank_of) none 2) (hF : Facts X.mg) (hC_over : Cal X.prog X.w X.K X.mg X.base CX0 2 "over" ["one", "two"] (spD X.K .dd (g2 m_over))) (hC_minus : Cal X.prog X.w X.K X.mg X.base CX0 2 "minus" ["one", "two"] (spD X.K .dd (g2 m_minus))) (hC_times : Cal X.prog X.w X.K X.mg X.base CX0 2 "times" ["one", "two"] (spD X.K .dd (g2 m_times))) (a_rows : (List (List (T2 Int Int)))) :
    SV X (dats 11 [enc a_rows]) (defBody st_rank_of) (fun _ : Unit => List.replicate 11 .un) (fun _ : Unit => List.replicate 11 .un) ⟨.dd, false⟩ (b_rank_of a_rows) := by
  unfold b_rank_of
  refine sv_setL (i := 1) C (by decide +kernel) (by decide +kernel) (lc_mk (own := [("row", 3)]) C (it_list (ed_var (i := 0) C (by decide +kernel) rfl)) (by decide +kernel) (fun s2 H2 Ca2 cl2 fp2 => (pgN (i := 3) (Ctx.blk C s2 H2 _ Ca2 cl2 fp2 rfl) (by decide +kernel))) (tgt_name (i := 3)) (by decide) rfl (fun s2 H2 Ca2 cl2 fp2 x2 => ets_nil) (fun s2 H2 Ca2 cl2 fp2 x2 => (ed_of_eo (eo_listL (Ctx.blk C s2 H2 _ Ca2 cl2 fp2 rfl) (by decide +kernel) hF.list_ (er_of_ed (ed_var (i := 3) (Ctx.blk C s2 H2 _ Ca2 cl2 fp2 rfl) (by decide +kernel) rfl)))))) fun v_left_1 => ?_
  refine sv_set (i := 2) C (by decide +kernel) ed_num fun v_found_3 => ?_
  refine sv_wk (G' := [.dat (enc a_rows), .dat (enc v_left_1), .dat (enc v_found_3), .un, .un, .un, .un, .un, .un, .un, .un]) (wk_ops [] rfl) ?_
  refine sv_while (S1 := ((List (List (T2 Int Int))) × Int)) (P1 := fun s4 => [.dat (enc a_rows), .dat (enc s4.1), .dat (enc s4.2), .un, .un, .un, .un, .un, .un, .un, .un]) (s0 := (v_left_1, v_found_3)) (n := (v_left_1.length + v_found_3.natAbs + 2)) C (wk_ops [] rfl) (fun s4 => (eb_cmp (ec_gt (ed_len C (by decide +kernel) hF.len_ (er_of_ed (ed_var (i := 1) C (by decide +kernel) rfl))) ed_num))) (fun s4 => ?_) (fun s4 => ?_)
  · refine sv_wk (G' := [.dat (enc a_rows), .dat (enc s4.1), .dat (enc s4.2), .un, .un, .un, .un, .un, .un, .un, .un]) (wk_ops [] rfl) ?_
    refine sv_set (i := 3) C (by decide +kernel) (ed_ix (ed_var (i := 1) C (by decide +kernel) rfl) ed_num) fun v_row_5 => ?_
    refine sv_set (i := 1) C (by decide +kernel) (ed_of_eo (eo_slice (ed_var (i := 1) C (by decide +kernel) rfl) (ep_some ed_num) ep_none)) fun v_left_6 => ?_
    refine sv_wk (G' := [.dat (enc a_rows), .dat (enc v_left_6), .dat (enc s4.2), .dat (enc v_row_5), .un, .un, .un, .un, .un, .un, .un]) (wk_ops [] rfl) ?_
    refine sv_set (i := 4) C (by decide +kernel) (ed_of_eo (eo_lc (lc_mk (own := [("j", 6), ("one", 7)]) C (it_enum C (by decide +kernel) hF.enumerate_ (ed_var (i := 3) C (by decide +kernel) rfl)) (by decide +kernel) (fun s8 H8 Ca8 cl8 fp8 => (pg_tup (Ctx.calm (Ctx.blk C s8 H8 _ Ca8 cl8 fp8 rfl)) (pgs_cons (pgN (i := 6) (Ctx.blk C s8 H8 _ Ca8 cl8 fp8 rfl) (by decide +kernel)) (pgs_cons (pgN (i := 7) (Ctx.blk C s8 H8 _ Ca8 cl8 fp8 rfl) (by decide +kernel)) pgs_nil)))) (tgt_t2 (tgt_name (i := 6)) (tgt_name (i := 7))) (by decide) rfl (fun s8 H8 Ca8 cl8 fp8 x8 => (ets_one (eb_cmp (ec_neI (ed_20 (ed_var (i := 7) (Ctx.blk C s8 H8 _ Ca8 cl8 fp8 rfl) (by decide +kernel) rfl)) ed_num)))) (fun s8 H8 Ca8 cl8 fp8 x8 => (ed_var (i := 6) (Ctx.blk C s8 H8 _ Ca8 cl8 fp8 rfl) (by decide +kernel) rfl))))) (fun v_places_7 => ?_) (sw_cell C (by decide +kernel))
    refine sv_if (S' := ((List (List (T2 Int Int))) × Int)) (P' := fun s9 => [.dat (enc a_rows), .dat (enc s9.1), .dat (enc s9.2), .dat (enc v_row_5), .dat (enc v_places_7), .un, .un, .un, .un, .un, .un]) (eb_cmp (ec_gt (ed_len C (by decide +kernel) hF.len_ (er_of_ed (ed_var (i := 4) C (by decide +kernel) rfl))) ed_num)) ?_ ?_ fun s9 => ?_
    · refine sv_set (i := 2) C (by decide +kernel) (ed_add (ed_var (i := 2) C (by decide +kernel) rfl) ed_num) fun v_found_10 => ?_
      refine sv_wk (G' := [.dat (enc a_rows), .dat (enc v_left_6), .dat (enc v_found_10), .dat (enc v_row_5), .dat (enc v_places_7), .un, .un, .un, .un, .un, .un]) (wk_ops [] rfl) ?_
      refine sv_setL (i := 5) C (by decide +kernel) (by decide +kernel) (lc_mk (own := [("other", 8)]) C (it_list (ed_var (i := 1) C (by decide +kernel) rfl)) (by decide +kernel) (fun s12 H12 Ca12 cl12 fp12 => (pgN (i := 8) (Ctx.blk C s12 H12 _ Ca12 cl12 fp12 rfl) (by decide +kernel))) (tgt_name (i := 8)) (by decide) rfl (fun s12 H12 Ca12 cl12 fp12 x12 => ets_nil) (fun s12 H12 Ca12 cl12 fp12 x12 => (ed_call (Ctx.blk C s12 H12 _ Ca12 cl12 fp12 rfl) hC_over (by decide) (by decide +kernel) (ad_cons (ed_ix (ed_var (i := 8) (Ctx.blk C s12 H12 _ Ca12 cl12 fp12 rfl) (by decide +kernel) rfl) (ed_ix (ed_var (i := 4) (Ctx.blk C s12 H12 _ Ca12 cl12 fp12 rfl) (by decide +kernel) rfl) ed_num)) (ad_cons (ed_ix (ed_var (i := 3) (Ctx.blk C s12 H12 _ Ca12 cl12 fp12 rfl) (by decide +kernel) rfl) (ed_ix (ed_var (i := 4) (Ctx.blk C s12 H12 _ Ca12 cl12 fp12 rfl) (by decide +kernel) rfl) ed_num)) ad_nil)) go2))) fun v_by_11 => ?_
      refine sv_setL (i := 1) C (by decide +kernel) (by decide +kernel) (lc_mk (own := [("other", 8), ("share", 9)]) C (it_zip C (by decide +kernel) hF.zip_ (ed_var (i := 1) C (by decide +kernel) rfl) (ed_var (i := 5) C (by decide +kernel) rfl)) (by decide +kernel) (fun s14 H14 Ca14 cl14 fp14 => (pg_tup (Ctx.calm (Ctx.blk C s14 H14 _ Ca14 cl14 fp14 rfl)) (pgs_cons (pgN (i := 8) (Ctx.blk C s14 H14 _ Ca14 cl14 fp14 rfl) (by decide +kernel)) (pgs_cons (pgN (i := 9) (Ctx.blk C s14 H14 _ Ca14 cl14 fp14 rfl) (by decide +kernel)) pgs_nil)))) (tgt_t2 (tgt_name (i := 8)) (tgt_name (i := 9))) (by decide) rfl (fun s14 H14 Ca14 cl14 fp14 x14 => ets_nil) (fun s14 H14 Ca14 cl14 fp14 x14 => (ed_of_eo (eo_lc (lc_mk (own := [("one", 7), ("two", 10)]) (Ctx.blk C s14 H14 _ Ca14 cl14 fp14 rfl) (it_zip (Ctx.blk C s14 H14 _ Ca14 cl14 fp14 rfl) (by decide +kernel) hF.zip_ (ed_var (i := 8) (Ctx.blk C s14 H14 _ Ca14 cl14 fp14 rfl) (by decide +kernel) rfl) (ed_var (i := 3) (Ctx.blk C s14 H14 _ Ca14 cl14 fp14 rfl) (by decide +kernel) rfl)) (by decide +kernel) (fun s15 H15 Ca15 cl15 fp15 => (pg_tup (Ctx.calm (Ctx.blk (Ctx.blk C s14 H14 _ Ca14 cl14 fp14 rfl) s15 H15 _ Ca15 cl15 fp15 rfl)) (pgs_cons (pgN (i := 7) (Ctx.blk (Ctx.blk C s14 H14 _ Ca14 cl14 fp14 rfl) s15 H15 _ Ca15 cl15 fp15 rfl) (by decide +kernel)) (pgs_cons (pgN (i := 10) (Ctx.blk (Ctx.blk C s14 H14 _ Ca14 cl14 fp14 rfl) s15 H15 _ Ca15 cl15 fp15 rfl) (by decide +kernel)) pgs_nil)))) (tgt_t2 (tgt_name (i := 7)) (tgt_name (i := 10))) (by decide) rfl (fun s15 H15 Ca15 cl15 fp15 x15 => ets_nil) (fun s15 H15 Ca15 cl15 fp15 x15 => (ed_call (Ctx.blk (Ctx.blk C s14 H14 _ Ca14 cl14 fp14 rfl) s15 H15 _ Ca15 cl15 fp15 rfl) hC_minus (by decide) (by decide +kernel) (ad_cons (ed_var (i := 7) (Ctx.blk (Ctx.blk C s14 H14 _ Ca14 cl14 fp14 rfl) s15 H15 _ Ca15 cl15 fp15 rfl) (by decide +kernel) rfl) (ad_cons (ed_call (Ctx.blk (Ctx.blk C s14 H14 _ Ca14 cl14 fp14 rfl) s15 H15 _ Ca15 cl15 fp15 rfl) hC_times (by decide) (by decide +kernel) (ad_cons (ed_var (i := 9) (Ctx.blk (Ctx.blk C s14 H14 _ Ca14 cl14 fp14 rfl) s15 H15 _ Ca15 cl15 fp15 rfl) (by decide +kernel) rfl) (ad_cons (ed_var (i := 10) (Ctx.blk (Ctx.blk C s14 H14 _ Ca14 cl14 fp14 rfl) s15 H15 _ Ca15 cl15 fp15 rfl) (by decide +kernel) rfl) ad_nil)) go2) ad_nil)) go2))))))) fun v_left_13 => ?_
      exact sv_nil (wk_ops [.un 5] rfl)
    · exact sv_nil (wk_ops [] rfl)
    exact sv_nil (wk_ops [.un 3, .un 4] rfl)
  refine sv_wk (G' := [.dat (enc a_rows), .dat (enc s4.1), .dat (enc s4.2), .un, .un, .un, .un, .un, .un, .un, .un]) (wk_ops [] rfl) ?_
  exact sv_ret (ed_var (i := 2) C (by decide +kernel) rfl)
theorem ok_rank_of {P : Program} {w : World} {K : PySem.W.Frag} {mg : Str → Option Value} {base : Heap} {f : Addr} {fd : FuncData} (F : Fun K "rank_of" "rank_of" st_rank_of f fd) (hF : Facts mg) (hC_over : Cal P w K mg base CX0 2 "over" ["one", "two"] (spD K .dd (g2 m_over))) (hC_minus : Cal P w K mg base CX0 2 "minus" ["one", "two"] (spD K .dd (g2 m_minus))) (hC_times : Cal P w K mg base CX0 2 "times" ["one", "two"] (spD K .dd (g2 m_times))) : FnG P w K mg base CX0 3 f fd ["rows"] (spD K .dd (g1 m_rank_of)) :=
  ok_def F fs_rank_of (fun ds r h => by obtain ⟨x0, y, e, _, _⟩ := h; rw [e]; rfl) 11 rfl (by decide) fun X h1 h2 h3 h4 h5 C ds r h => by subst h1 h2 h3 h4 h5; obtain ⟨x0, y, e1, e2, e3⟩ := h; subst e1 e3; exact body_of (bk_rank_of C hF hC_over hC_minus hC_times x0) e2 (fun x h => nomatch h)
theorem bk_is_fraction {X : Cx} (C : Ctx X N_is_fraction (defScope st_is_fraction) none 0) (hF : Facts X.mg)  (a_told : (T2 Int Int)) :
    SV X (dats 1 [enc a_told]) (defBody st_is_fraction) (fun _ : Unit => List.replicate 1 .un) (fun _ : Unit => List.replicate 1 .un) ⟨.dd, false⟩ (b_is_fraction a_told) := by
  unfold b_is_fraction
  exact sv_ret (ed_and (ed_cmp (ec_gt (ed_21 (ed_var (i := 0) C (by decide +kernel) rfl)) ed_num)) (ed_one (ed_cmp (ec_eqI (ed_gcd C (by decide +kernel) hF.gcd_ (ed_20 (ed_var (i := 0) C (by decide +kernel) rfl)) (ed_21 (ed_var (i := 0) C (by decide +kernel) rfl))) ed_num))))
theorem ok_is_fraction {P : Program} {w : World} {K : PySem.W.Frag} {mg : Str → Option Value} {base : Heap} {f : Addr} {fd : FuncData} (F : Fun K "is_fraction" "is_fraction" st_is_fraction f fd) (hF : Facts mg)  : FnG P w K mg base CX0 1 f fd ["told"] (spD K .dd (g1 m_is_fraction)) :=
  ok_def F fs_is_fraction (fun ds r h => by obtain ⟨x0, y, e, _, _⟩ := h; rw [e]; rfl) 1 rfl (by decide) fun X h1 h2 h3 h4 h5 C ds r h => by subst h1 h2 h3 h4 h5; obtain ⟨x0, y, e1, e2, e3⟩ := h; subst e1 e3; exact body_of (bk_is_fraction C hF  x0) e2 (fun x h => nomatch h)
theorem bk_is_broken {X : Cx} (C : Ctx X N_is_broken (defScope st_is_broken) none 4) (hF : Facts X.mg) (hE : ErrK X.prog X.w X.K X.mg X.base KS) (hC_check_table : Cal X.prog X.w X.K X.mg X.base (L2N.CX X.prog X.w) 3 "check_table" ["table"] (spE X.K X.mg .dd (gX1 m_check_table))) (hC_is_fraction : Cal X.prog X.w X.K X.mg X.base CX0 1 "is_fraction" ["told"] (spD X.K .dd (g1 m_is_fraction))) (hC_is_less : Cal X.prog X.w X.K X.mg X.base CX0 1 "is_less" ["one", "two"] (spD X.K .dd (g2 m_is_less))) (hC_sum_of : Cal X.prog X.w X.K X.mg X.base CX0 4 "sum_of" ["row", "told"] (spD X.K .dd (g2 m_sum_of))) (hC_rank_of : Cal X.prog X.w X.K X.mg X.base CX0 3 "rank_of" ["rows"] (spD X.K .dd (g1 m_rank_of))) (a_table : (List (List Int))) (a_limits : (List Int)) (a_told : (List (T2 Int Int))) :
    SV X (dats 10 [enc a_table, enc a_limits, enc a_told]) (defBody st_is_broken) (fun _ : Unit => List.replicate 10 .un) (fun _ : Unit => List.replicate 10 .un) ⟨.dd, false⟩ (b_is_broken a_table a_limits a_told) := by
  unfold b_is_broken
  refine sv_exprE (ex_call C hC_check_table (by decide) (by decide +kernel) (ad_cons (ed_var (i := 0) C (by decide +kernel) rfl) ad_nil) goX1) ?_
  refine sv_set (i := 3) C (by decide +kernel) (ed_len C (by decide +kernel) hF.len_ (er_of_ed (ed_ix (ed_var (i := 0) C (by decide +kernel) rfl) ed_num))) fun v_many_1 => ?_
  refine sv_if (S' := Unit) (P' := fun s3 => [.dat (enc a_table), .dat (enc a_limits), .dat (enc a_told), .dat (enc v_many_1), .un, .un, .un, .un, .un, .un]) (eb_bool (ew_or (eb_cmp (ec_neI (ed_len C (by decide +kernel) hF.len_ (er_of_ed (ed_var (i := 1) C (by decide +kernel) rfl))) (ed_len C (by decide +kernel) hF.len_ (er_of_ed (ed_var (i := 0) C (by decide +kernel) rfl))))) (ew_or (eb_cmp (ec_neI (ed_len C (by decide +kernel) hF.len_ (er_of_ed (ed_var (i := 2) C (by decide +kernel) rfl))) (ed_var (i := 3) C (by decide +kernel) rfl))) (ew_or1 (eb_not (eb_of_ed (ed_all C (by decide +kernel) hF.all_ (er_of_eo (eo_lc (lc_mk (own := [("one", 5)]) C (it_list (ed_var (i := 2) C (by decide +kernel) rfl)) (by decide +kernel) (fun s2 H2 Ca2 cl2 fp2 => (pgN (i := 5) (Ctx.blk C s2 H2 _ Ca2 cl2 fp2 rfl) (by decide +kernel))) (tgt_name (i := 5)) (by decide) rfl (fun s2 H2 Ca2 cl2 fp2 x2 => ets_nil) (fun s2 H2 Ca2 cl2 fp2 x2 => (ed_and (ed_call (Ctx.blk C s2 H2 _ Ca2 cl2 fp2 rfl) hC_is_fraction (by decide) (by decide +kernel) (ad_cons (ed_var (i := 5) (Ctx.blk C s2 H2 _ Ca2 cl2 fp2 rfl) (by decide +kernel) rfl) ad_nil) go1) (ed_one (ed_cmp (ec_ge (ed_20 (ed_var (i := 5) (Ctx.blk C s2 H2 _ Ca2 cl2 fp2 rfl) (by decide +kernel) rfl)) ed_num))))))))))))))) ?_ ?_ fun s3 => ?_
  · exact sv_ret ed_bl
  · exact sv_nil (wk_ops [] rfl)
  refine sv_if (S' := Unit) (P' := fun s5 => [.dat (enc a_table), .dat (enc a_limits), .dat (enc a_told), .dat (enc v_many_1), .un, .un, .un, .un, .un, .un]) (eb_of_ed (ed_any C (by decide +kernel) hF.any_ (er_of_eo (eo_lc (lc_mk (own := [("limit", 7), ("row", 6)]) C (it_zip C (by decide +kernel) hF.zip_ (ed_var (i := 0) C (by decide +kernel) rfl) (ed_var (i := 1) C (by decide +kernel) rfl)) (by decide +kernel) (fun s4 H4 Ca4 cl4 fp4 => (pg_tup (Ctx.calm (Ctx.blk C s4 H4 _ Ca4 cl4 fp4 rfl)) (pgs_cons (pgN (i := 6) (Ctx.blk C s4 H4 _ Ca4 cl4 fp4 rfl) (by decide +kernel)) (pgs_cons (pgN (i := 7) (Ctx.blk C s4 H4 _ Ca4 cl4 fp4 rfl) (by decide +kernel)) pgs_nil)))) (tgt_t2 (tgt_name (i := 6)) (tgt_name (i := 7))) (by decide) rfl (fun s4 H4 Ca4 cl4 fp4 x4 => ets_nil) (fun s4 H4 Ca4 cl4 fp4 x4 => (ed_call (Ctx.blk C s4 H4 _ Ca4 cl4 fp4 rfl) hC_is_less (by decide) (by decide +kernel) (ad_cons (ed_t2 (ed_var (i := 7) (Ctx.blk C s4 H4 _ Ca4 cl4 fp4 rfl) (by decide +kernel) rfl) ed_num) (ad_cons (ed_call (Ctx.blk C s4 H4 _ Ca4 cl4 fp4 rfl) hC_sum_of (by decide) (by decide +kernel) (ad_cons (ed_var (i := 6) (Ctx.blk C s4 H4 _ Ca4 cl4 fp4 rfl) (by decide +kernel) rfl) (ad_cons (ed_var (i := 2) (Ctx.blk C s4 H4 _ Ca4 cl4 fp4 rfl) (by decide +kernel) rfl) ad_nil)) go2) ad_nil)) go2))))))) ?_ ?_ fun s5 => ?_
  · exact sv_ret ed_bl
  · exact sv_nil (wk_ops [] rfl)
  refine sv_setL (i := 4) C (by decide +kernel) (by decide +kernel) (lc_mk (own := [("limit", 7), ("row", 6)]) C (it_zip C (by decide +kernel) hF.zip_ (ed_var (i := 0) C (by decide +kernel) rfl) (ed_var (i := 1) C (by decide +kernel) rfl)) (by decide +kernel) (fun s7 H7 Ca7 cl7 fp7 => (pg_tup (Ctx.calm (Ctx.blk C s7 H7 _ Ca7 cl7 fp7 rfl)) (pgs_cons (pgN (i := 6) (Ctx.blk C s7 H7 _ Ca7 cl7 fp7 rfl) (by decide +kernel)) (pgs_cons (pgN (i := 7) (Ctx.blk C s7 H7 _ Ca7 cl7 fp7 rfl) (by decide +kernel)) pgs_nil)))) (tgt_t2 (tgt_name (i := 6)) (tgt_name (i := 7))) (by decide) rfl (fun s7 H7 Ca7 cl7 fp7 x7 => (ets_one (eb_cmp (ec_eqD (Ctx.blk C s7 H7 _ Ca7 cl7 fp7 rfl) (ed_call (Ctx.blk C s7 H7 _ Ca7 cl7 fp7 rfl) hC_sum_of (by decide) (by decide +kernel) (ad_cons (ed_var (i := 6) (Ctx.blk C s7 H7 _ Ca7 cl7 fp7 rfl) (by decide +kernel) rfl) (ad_cons (ed_var (i := 2) (Ctx.blk C s7 H7 _ Ca7 cl7 fp7 rfl) (by decide +kernel) rfl) ad_nil)) go2) (ed_t2 (ed_var (i := 7) (Ctx.blk C s7 H7 _ Ca7 cl7 fp7 rfl) (by decide +kernel) rfl) ed_num))))) (fun s7 H7 Ca7 cl7 fp7 x7 => (ed_of_eo (eo_lc (lc_mk (own := [("one", 5)]) (Ctx.blk C s7 H7 _ Ca7 cl7 fp7 rfl) (it_list (ed_var (i := 6) (Ctx.blk C s7 H7 _ Ca7 cl7 fp7 rfl) (by decide +kernel) rfl)) (by decide +kernel) (fun s8 H8 Ca8 cl8 fp8 => (pgN (i := 5) (Ctx.blk (Ctx.blk C s7 H7 _ Ca7 cl7 fp7 rfl) s8 H8 _ Ca8 cl8 fp8 rfl) (by decide +kernel))) (tgt_name (i := 5)) (by decide) rfl (fun s8 H8 Ca8 cl8 fp8 x8 => ets_nil) (fun s8 H8 Ca8 cl8 fp8 x8 => (ed_t2 (ed_var (i := 5) (Ctx.blk (Ctx.blk C s7 H7 _ Ca7 cl7 fp7 rfl) s8 H8 _ Ca8 cl8 fp8 rfl) (by decide +kernel) rfl) ed_num))))))) fun v_tight_6 => ?_
  refine sv_set (i := 4) C (by decide +kernel) (ed_of_eo (eo_cat (ed_var (i := 4) C (by decide +kernel) rfl) (ed_of_eo (eo_lc (lc_mk (own := [("k", 8)]) C (it_rng1 C (by decide +kernel) hF.range_ (ed_var (i := 3) C (by decide +kernel) rfl)) (by decide +kernel) (fun s10 H10 Ca10 cl10 fp10 => (pgN (i := 8) (Ctx.blk C s10 H10 _ Ca10 cl10 fp10 rfl) (by decide +kernel))) (tgt_name (i := 8)) (by decide) rfl (fun s10 H10 Ca10 cl10 fp10 x10 => (ets_one (eb_cmp (ec_eqD (Ctx.blk C s10 H10 _ Ca10 cl10 fp10 rfl) (ed_ix (ed_var (i := 2) (Ctx.blk C s10 H10 _ Ca10 cl10 fp10 rfl) (by decide +kernel) rfl) (ed_var (i := 8) (Ctx.blk C s10 H10 _ Ca10 cl10 fp10 rfl) (by decide +kernel) rfl)) (ed_t2 ed_num ed_num))))) (fun s10 H10 Ca10 cl10 fp10 x10 => (ed_of_eo (eo_lc (lc_mk (own := [("j", 9)]) (Ctx.blk C s10 H10 _ Ca10 cl10 fp10 rfl) (it_rng1 (Ctx.blk C s10 H10 _ Ca10 cl10 fp10 rfl) (by decide +kernel) hF.range_ (ed_var (i := 3) (Ctx.blk C s10 H10 _ Ca10 cl10 fp10 rfl) (by decide +kernel) rfl)) (by decide +kernel) (fun s11 H11 Ca11 cl11 fp11 => (pgN (i := 9) (Ctx.blk (Ctx.blk C s10 H10 _ Ca10 cl10 fp10 rfl) s11 H11 _ Ca11 cl11 fp11 rfl) (by decide +kernel))) (tgt_name (i := 9)) (by decide) rfl (fun s11 H11 Ca11 cl11 fp11 x11 => ets_nil) (fun s11 H11 Ca11 cl11 fp11 x11 => (ed_t2 (ed_intB (Ctx.blk (Ctx.blk C s10 H10 _ Ca10 cl10 fp10 rfl) s11 H11 _ Ca11 cl11 fp11 rfl) (by decide +kernel) hF.int_ (ed_cmp (ec_eqI (ed_var (i := 9) (Ctx.blk (Ctx.blk C s10 H10 _ Ca10 cl10 fp10 rfl) s11 H11 _ Ca11 cl11 fp11 rfl) (by decide +kernel) rfl) (ed_var (i := 8) (Ctx.blk (Ctx.blk C s10 H10 _ Ca10 cl10 fp10 rfl) s11 H11 _ Ca11 cl11 fp11 rfl) (by decide +kernel) rfl)))) ed_num))))))))))) fun v_tight_9 => ?_
  refine sv_wk (G' := [.dat (enc a_table), .dat (enc a_limits), .dat (enc a_told), .dat (enc v_many_1), .dat (enc v_tight_9), .un, .un, .un, .un, .un]) (wk_ops [] rfl) ?_
  exact sv_ret (ed_and (ed_cmp (ec_eqI (ed_call C hC_rank_of (by decide) (by decide +kernel) (ad_cons (ed_var (i := 4) C (by decide +kernel) rfl) ad_nil) go1) (ed_var (i := 3) C (by decide +kernel) rfl))) (ed_one (ed_any C (by decide +kernel) hF.any_ (er_of_eo (eo_lc (lc_mk (own := [("one", 5)]) C (it_list (ed_var (i := 2) C (by decide +kernel) rfl)) (by decide +kernel) (fun s12 H12 Ca12 cl12 fp12 => (pgN (i := 5) (Ctx.blk C s12 H12 _ Ca12 cl12 fp12 rfl) (by decide +kernel))) (tgt_name (i := 5)) (by decide) rfl (fun s12 H12 Ca12 cl12 fp12 x12 => ets_nil) (fun s12 H12 Ca12 cl12 fp12 x12 => (ed_cmp (ec_gt (ed_21 (ed_var (i := 5) (Ctx.blk C s12 H12 _ Ca12 cl12 fp12 rfl) (by decide +kernel) rfl)) ed_num)))))))))
theorem ok_is_broken {P : Program} {w : World} {K : PySem.W.Frag} {mg : Str → Option Value} {base : Heap} {f : Addr} {fd : FuncData} (F : Fun K "is_broken" "is_broken" st_is_broken f fd) (hF : Facts mg) (hE : ErrK P w K mg base KS) (hC_check_table : Cal P w K mg base (L2N.CX P w) 3 "check_table" ["table"] (spE K mg .dd (gX1 m_check_table))) (hC_is_fraction : Cal P w K mg base CX0 1 "is_fraction" ["told"] (spD K .dd (g1 m_is_fraction))) (hC_is_less : Cal P w K mg base CX0 1 "is_less" ["one", "two"] (spD K .dd (g2 m_is_less))) (hC_sum_of : Cal P w K mg base CX0 4 "sum_of" ["row", "told"] (spD K .dd (g2 m_sum_of))) (hC_rank_of : Cal P w K mg base CX0 3 "rank_of" ["rows"] (spD K .dd (g1 m_rank_of))) : FnG P w K mg base (L2N.CX P w) 5 f fd ["table", "limits", "told"] (spE K mg .dd (gX3 m_is_broken)) :=
  ok_defE F fs_is_broken (fun ds r h => by obtain ⟨x0, x1, x2, y, e, _, _⟩ := h; rw [e]; rfl) 10 rfl (by decide) fun X h1 h2 h3 h4 h5 C ds r h => by subst h1 h2 h3 h4 h5; obtain ⟨x0, x1, x2, y, e1, e2, e3⟩ := h; subst e1 e3; exact body_ofE (bk_is_broken C hF hE hC_check_table hC_is_fraction hC_is_less hC_sum_of hC_rank_of x0 x1 x2) e2 (fun x h => nomatch h)
theorem bk_partings {X : Cx} (C : Ctx X N_partings (defScope st_partings) none 3) (hF : Facts X.mg) (hE : ErrK X.prog X.w X.K X.mg X.base KS) (hC_check_table : Cal X.prog X.w X.K X.mg X.base (L2N.CX X.prog X.w) 3 "check_table" ["table"] (spE X.K X.mg .dd (gX1 m_check_table))) (hC_parting_of : Cal X.prog X.w X.K X.mg X.base CX0 2 "parting_of" ["table", "rows"] (spD X.K .dd (g2 m_parting_of))) (a_table : (List (List Int))) (a_rows : (List Int)) :
    SV X (dats 4 [enc a_table, enc a_rows]) (defBody st_partings) (fun _ : Unit => List.replicate 4 .un) (fun _ : Unit => List.replicate 4 .un) ⟨.dd, false⟩ (b_partings a_table a_rows) := by
  unfold b_partings
  refine sv_exprE (ex_call C hC_check_table (by decide) (by decide +kernel) (ad_cons (ed_var (i := 0) C (by decide +kernel) rfl) ad_nil) goX1) ?_
  refine sv_for (S1 := Unit) (P1 := fun s1 => [.dat (enc a_table), .dat (enc a_rows), .un, .un]) (s0 := ()) C (it_enum C (by decide +kernel) hF.enumerate_ (ed_var (i := 1) C (by decide +kernel) rfl)) (pg_tup (Ctx.calm C) (pgs_cons (pgN (i := 2) C (by decide +kernel)) (pgs_cons (pgN (i := 3) C (by decide +kernel)) pgs_nil))) (tgt_t2 (tgt_name (i := 2)) (tgt_name (i := 3))) (fun s1 => rfl) (wk_ops [] rfl) (fun s1 y2 => ?_) (fun s1 => ?_)
  · refine sv_if (S' := Unit) (P' := fun s3 => [.dat (enc a_table), .dat (enc a_rows), .dat (enc y2.a), .dat (enc y2.b)]) (eb_bool (ew_or (eb_not (eb_chLeLt rfl ed_num (ed_var (i := 3) C (by decide +kernel) rfl) (ed_len C (by decide +kernel) hF.len_ (er_of_ed (ed_var (i := 0) C (by decide +kernel) rfl))))) (ew_or1 (eb_bool (ew_and (eb_cmp (ec_gt (ed_var (i := 2) C (by decide +kernel) rfl) ed_num)) (ew_and1 (eb_cmp (ec_ge (ed_ix (ed_var (i := 1) C (by decide +kernel) rfl) (ed_sub (ed_var (i := 2) C (by decide +kernel) rfl) ed_num)) (ed_var (i := 3) C (by decide +kernel) rfl))))))))) ?_ ?_ fun s3 => ?_
    · exact sv_raiseK C hE (by decide +kernel) (by decide +kernel) (ed_var (i := 2) C (by decide +kernel) rfl)
    · exact sv_nil (wk_ops [] rfl)
    exact sv_nil (wk_ops [.un 2, .un 3] rfl)
  exact sv_ret (ed_call C hC_parting_of (by decide) (by decide +kernel) (ad_cons (ed_var (i := 0) C (by decide +kernel) rfl) (ad_cons (ed_var (i := 1) C (by decide +kernel) rfl) ad_nil)) go2)
theorem ok_partings {P : Program} {w : World} {K : PySem.W.Frag} {mg : Str → Option Value} {base : Heap} {f : Addr} {fd : FuncData} (F : Fun K "partings" "partings" st_partings f fd) (hF : Facts mg) (hE : ErrK P w K mg base KS) (hC_check_table : Cal P w K mg base (L2N.CX P w) 3 "check_table" ["table"] (spE K mg .dd (gX1 m_check_table))) (hC_parting_of : Cal P w K mg base CX0 2 "parting_of" ["table", "rows"] (spD K .dd (g2 m_parting_of))) : FnG P w K mg base (L2N.CX P w) 4 f fd ["table", "rows"] (spE K mg .dd (gX2 m_partings)) :=
  ok_defE F fs_partings (fun ds r h => by obtain ⟨x0, x1, y, e, _, _⟩ := h; rw [e]; rfl) 4 rfl (by decide) fun X h1 h2 h3 h4 h5 C ds r h => by subst h1 h2 h3 h4 h5; obtain ⟨x0, x1, y, e1, e2, e3⟩ := h; subst e1 e3; exact body_ofE (bk_partings C hF hE hC_check_table hC_parting_of x0 x1) e2 (fun x h => nomatch h)
theorem bk__law_of {X : Cx} (C : Ctx X N__law_of (defScope st__law_of) none 8) (hF : Facts X.mg) (hE : ErrK X.prog X.w X.K X.mg X.base KS) (hW__law_word : CalW X.prog X.w X.K X.mg X.base 1 "_law_word" ["e"] m__law_word) (hT : TopX X) (hC_is_sure : Cal X.prog X.w X.K X.mg X.base (L2N.CX X.prog X.w) 8 "is_sure" ["table"] (spE X.K X.mg .dd (gX1 m_is_sure))) (hC_bad_square : Cal X.prog X.w X.K X.mg X.base (L2N.CX X.prog X.w) 8 "bad_square" ["table"] (spE X.K X.mg .dd (gX1 m_bad_square))) (hC_measure : Cal X.prog X.w X.K X.mg X.base (L2N.CX X.prog X.w) 7 "measure" ["table", "rows", "columns"] (spE X.K X.mg .dd (gX3 m_measure))) (hC_unparted : Cal X.prog X.w X.K X.mg X.base (L2N.CX X.prog X.w) 4 "unparted" ["table"] (spE X.K X.mg .dd (gX1 m_unparted))) (hC_are_stretches : Cal X.prog X.w X.K X.mg X.base (L2N.CX X.prog X.w) 4 "are_stretches" ["table"] (spE X.K X.mg .dd (gX1 m_are_stretches))) (hC_sides : Cal X.prog X.w X.K X.mg X.base (L2N.CX X.prog X.w) 4 "sides" ["table"] (spE X.K X.mg .dd (gX1 m_sides))) (hC_broken : Cal X.prog X.w X.K X.mg X.base (L2N.CX X.prog X.w) 8 "broken" ["table"] (spE X.K X.mg .dd (gX1 m_broken))) (hC_is_broken : Cal X.prog X.w X.K X.mg X.base (L2N.CX X.prog X.w) 5 "is_broken" ["table", "limits", "told"] (spE X.K X.mg .dd (gX3 m_is_broken))) (hC_partings : Cal X.prog X.w X.K X.mg X.base (L2N.CX X.prog X.w) 4 "partings" ["table", "rows"] (spE X.K X.mg .dd (gX2 m_partings))) (a_way : Int) (a_table : (List (List Int))) (a_rows : (List Int)) :
    SV X (dats 4 [enc a_way, enc a_table, enc a_rows]) (defBody st__law_of) (fun _ : Unit => List.replicate 4 .un) (fun _ : Unit => List.replicate 4 .un) ⟨.dd, false⟩ (b__law_of a_way a_table a_rows) := by
  unfold b__law_of
  refine sv_tryW (S' := Unit) (P' := fun s1 => [.dat (enc a_way), .dat (enc a_table), .dat (enc a_rows), .un]) (i := 3) C hT hE hW__law_word (by decide) hw_opt (by decide +kernel) (by decide +kernel) (by decide +kernel) (by decide +kernel) (fun pn xe px => ?_) fun s1 => ?_
  · have C := Ctx.tr (pn := pn) (xe := xe) C px
    refine sv_if (S' := Unit) (P' := fun s2 => [.dat (enc a_way), .dat (enc a_table), .dat (enc a_rows), .un]) (eb_cmp (ec_eqI (ed_var (i := 0) C (by decide +kernel) rfl) ed_num)) ?_ ?_ fun s2 => ?_
    · refine sv_exprE (ex_call C hC_is_sure (by decide) (by decide +kernel) (ad_cons (ed_var (i := 1) C (by decide +kernel) rfl) ad_nil) goX1) ?_
      exact sv_nil (wk_ops [] rfl)
    · refine sv_if (S' := Unit) (P' := fun s3 => [.dat (enc a_way), .dat (enc a_table), .dat (enc a_rows), .un]) (eb_cmp (ec_eqI (ed_var (i := 0) C (by decide +kernel) rfl) ed_num)) ?_ ?_ fun s3 => ?_
      · refine sv_exprE (ex_call C hC_bad_square (by decide) (by decide +kernel) (ad_cons (ed_var (i := 1) C (by decide +kernel) rfl) ad_nil) goX1) ?_
        exact sv_nil (wk_ops [] rfl)
      · refine sv_if (S' := Unit) (P' := fun s4 => [.dat (enc a_way), .dat (enc a_table), .dat (enc a_rows), .un]) (eb_cmp (ec_eqI (ed_var (i := 0) C (by decide +kernel) rfl) ed_num)) ?_ ?_ fun s4 => ?_
        · refine sv_exprE (ex_call C hC_measure (by decide) (by decide +kernel) (ad_cons (ed_var (i := 1) C (by decide +kernel) rfl) (ad_cons (ed_var (i := 2) C (by decide +kernel) rfl) (ad_cons (ed_of_eo (eo_list (al_nil (α := Int)))) ad_nil))) goX3) ?_
          exact sv_nil (wk_ops [] rfl)
        · refine sv_if (S' := Unit) (P' := fun s5 => [.dat (enc a_way), .dat (enc a_table), .dat (enc a_rows), .un]) (eb_cmp (ec_eqI (ed_var (i := 0) C (by decide +kernel) rfl) ed_num)) ?_ ?_ fun s5 => ?_
          · refine sv_exprE (ex_call C hC_unparted (by decide) (by decide +kernel) (ad_cons (ed_var (i := 1) C (by decide +kernel) rfl) ad_nil) goX1) ?_
            exact sv_nil (wk_ops [] rfl)
          · refine sv_if (S' := Unit) (P' := fun s6 => [.dat (enc a_way), .dat (enc a_table), .dat (enc a_rows), .un]) (eb_cmp (ec_eqI (ed_var (i := 0) C (by decide +kernel) rfl) ed_num)) ?_ ?_ fun s6 => ?_
            · refine sv_exprE (ex_call C hC_are_stretches (by decide) (by decide +kernel) (ad_cons (ed_var (i := 1) C (by decide +kernel) rfl) ad_nil) goX1) ?_
              exact sv_nil (wk_ops [] rfl)
            · refine sv_if (S' := Unit) (P' := fun s7 => [.dat (enc a_way), .dat (enc a_table), .dat (enc a_rows), .un]) (eb_cmp (ec_eqI (ed_var (i := 0) C (by decide +kernel) rfl) ed_num)) ?_ ?_ fun s7 => ?_
              · refine sv_exprE (ex_call C hC_sides (by decide) (by decide +kernel) (ad_cons (ed_var (i := 1) C (by decide +kernel) rfl) ad_nil) goX1) ?_
                exact sv_nil (wk_ops [] rfl)
              · refine sv_if (S' := Unit) (P' := fun s8 => [.dat (enc a_way), .dat (enc a_table), .dat (enc a_rows), .un]) (eb_cmp (ec_eqI (ed_var (i := 0) C (by decide +kernel) rfl) ed_num)) ?_ ?_ fun s8 => ?_
                · refine sv_exprE (ex_call C hC_broken (by decide) (by decide +kernel) (ad_cons (ed_var (i := 1) C (by decide +kernel) rfl) ad_nil) goX1) ?_
                  exact sv_nil (wk_ops [] rfl)
                · refine sv_if (S' := Unit) (P' := fun s9 => [.dat (enc a_way), .dat (enc a_table), .dat (enc a_rows), .un]) (eb_cmp (ec_eqI (ed_var (i := 0) C (by decide +kernel) rfl) ed_num)) ?_ ?_ fun s9 => ?_
                  · refine sv_exprE (ex_call C hC_is_broken (by decide) (by decide +kernel) (ad_cons (ed_var (i := 1) C (by decide +kernel) rfl) (ad_cons (ed_of_eo (eo_list (al_nil (α := Int)))) (ad_cons (ed_of_eo (eo_list (al_nil (α := (T2 Int Int))))) ad_nil))) goX3) ?_
                    exact sv_nil (wk_ops [] rfl)
                  · refine sv_exprE (ex_call C hC_partings (by decide) (by decide +kernel) (ad_cons (ed_var (i := 1) C (by decide +kernel) rfl) (ad_cons (ed_var (i := 2) C (by decide +kernel) rfl) ad_nil)) goX2) ?_
                    exact sv_nil (wk_ops [] rfl)
                  exact sv_nil (wk_ops [] rfl)
                exact sv_nil (wk_ops [] rfl)
              exact sv_nil (wk_ops [] rfl)
            exact sv_nil (wk_ops [] rfl)
          exact sv_nil (wk_ops [] rfl)
        exact sv_nil (wk_ops [] rfl)
      exact sv_nil (wk_ops [] rfl)
    exact sv_nil (wk_ops [] rfl)
  exact sv_ret ed_none
theorem ok__law_of {P : Program} {w : World} {K : PySem.W.Frag} {mg : Str → Option Value} {base : Heap} {f : Addr} {fd : FuncData} (F : Fun K "_law_of" "_law_of" st__law_of f fd) (hF : Facts mg) (hE : ErrK P w K mg base KS) (hW__law_word : CalW P w K mg base 1 "_law_word" ["e"] m__law_word) (hC_is_sure : Cal P w K mg base (L2N.CX P w) 8 "is_sure" ["table"] (spE K mg .dd (gX1 m_is_sure))) (hC_bad_square : Cal P w K mg base (L2N.CX P w) 8 "bad_square" ["table"] (spE K mg .dd (gX1 m_bad_square))) (hC_measure : Cal P w K mg base (L2N.CX P w) 7 "measure" ["table", "rows", "columns"] (spE K mg .dd (gX3 m_measure))) (hC_unparted : Cal P w K mg base (L2N.CX P w) 4 "unparted" ["table"] (spE K mg .dd (gX1 m_unparted))) (hC_are_stretches : Cal P w K mg base (L2N.CX P w) 4 "are_stretches" ["table"] (spE K mg .dd (gX1 m_are_stretches))) (hC_sides : Cal P w K mg base (L2N.CX P w) 4 "sides" ["table"] (spE K mg .dd (gX1 m_sides))) (hC_broken : Cal P w K mg base (L2N.CX P w) 8 "broken" ["table"] (spE K mg .dd (gX1 m_broken))) (hC_is_broken : Cal P w K mg base (L2N.CX P w) 5 "is_broken" ["table", "limits", "told"] (spE K mg .dd (gX3 m_is_broken))) (hC_partings : Cal P w K mg base (L2N.CX P w) 4 "partings" ["table", "rows"] (spE K mg .dd (gX2 m_partings))) : FnG P w K mg base CX0 9 f fd ["way", "table", "rows"] (spD K .dd (g3 m__law_of)) :=
  ok_defT F fs__law_of (fun ds r h => by obtain ⟨x0, x1, x2, y, e, _, _⟩ := h; rw [e]; rfl) 4 rfl (by decide) fun X h1 h2 h3 h4 h5 C hT ds r h => by subst h1 h2 h3 h4 h5; obtain ⟨x0, x1, x2, y, e1, e2, e3⟩ := h; subst e1 e3; exact body_of (bk__law_of C hF hE hW__law_word hT hC_is_sure hC_bad_square hC_measure hC_unparted hC_are_stretches hC_sides hC_broken hC_is_broken hC_partings x0 x1 x2) e2 (fun x h => nomatch h)
theorem bk_law {X : Cx} (C : Ctx X N_law (defScope st_law) none 9) (hF : Facts X.mg) (hC__law_draws : Cal X.prog X.w X.K X.mg X.base CX0 1 "_law_draws" ["script"] (spR X.K .dd m__law_draws)) (hC__law_mix : Cal X.prog X.w X.K X.mg X.base CX0 1 "_law_mix" ["draws", "k", "many"] (spD X.K .dd (g3 m__law_mix))) (hC__law_fault : Cal X.prog X.w X.K X.mg X.base CX0 1 "_law_fault" ["table"] (spD X.K .dd (g1 m__law_fault))) (hC__law_of : Cal X.prog X.w X.K X.mg X.base CX0 9 "_law_of" ["way", "table", "rows"] (spD X.K .dd (g3 m__law_of))) (a_script : (List Int)) :
    SV X (.rd (a_script.map enc) :: List.replicate 17 .un) (defBody st_law) (fun _ : Unit => List.replicate 18 .un) (fun _ : Unit => List.replicate 18 .un) ⟨.dd, false⟩ (b_law a_script) := by
  unfold b_law
  refine sv_set (i := 1) C (by decide +kernel) (ed_callR (i := 0) C hC__law_draws (by decide) (by decide +kernel) (by decide +kernel) rfl) fun v_draws_1 => ?_
  refine sv_for (S1 := Unit) (P1 := fun s2 => [.un, .dat (enc v_draws_1), .un, .un, .un, .un, .un, .un, .un, .un, .un, .un, .un, .un, .un, .un, .un, .un]) (s0 := ()) C (it_rng1 C (by decide +kernel) hF.range_ ed_num) (pgN (i := 2) C (by decide +kernel)) (tgt_name (i := 2)) (fun s2 => rfl) (wk_ops [.un 0] rfl) (fun s2 y3 => ?_) (fun s2 => ?_)
  · refine sv_set (i := 3) C (by decide +kernel) (ed_add ed_num (ed_mul ed_num (ed_var (i := 2) C (by decide +kernel) rfl))) fun v_at_4 => ?_
    refine sv_set (i := 4) C (by decide +kernel) (ed_add ed_num (ed_call C hC__law_mix (by decide) (by decide +kernel) (ad_cons (ed_var (i := 1) C (by decide +kernel) rfl) (ad_cons (ed_var (i := 3) C (by decide +kernel) rfl) (ad_cons ed_num ad_nil))) go3)) fun v_wide_5 => ?_
    refine sv_wk (G' := [.un, .dat (enc v_draws_1), .dat (enc y3), .dat (enc v_at_4), .dat (enc v_wide_5), .un, .un, .un, .un, .un, .un, .un, .un, .un, .un, .un, .un, .un]) (wk_ops [] rfl) ?_
    refine sv_setO (i := 5) C (by decide +kernel) (Nat.le_of_ble_eq_true rfl) (eo_lc (lc_mk (own := [("i", 13)]) C (it_rng1 C (by decide +kernel) hF.range_ (ed_add ed_num (ed_call C hC__law_mix (by decide) (by decide +kernel) (ad_cons (ed_var (i := 1) C (by decide +kernel) rfl) (ad_cons (ed_add (ed_var (i := 3) C (by decide +kernel) rfl) ed_num) (ad_cons ed_num ad_nil))) go3))) (by decide +kernel) (fun s7 H7 Ca7 cl7 fp7 => (pgN (i := 13) (Ctx.blk C s7 H7 _ Ca7 cl7 fp7 rfl) (by decide +kernel))) (tgt_name (i := 13)) (by decide) rfl (fun s7 H7 Ca7 cl7 fp7 x7 => ets_nil) (fun s7 H7 Ca7 cl7 fp7 x7 => (ed_of_eo (eo_lc (lc_mk (own := [("j", 15)]) (Ctx.blk C s7 H7 _ Ca7 cl7 fp7 rfl) (it_rng1 (Ctx.blk C s7 H7 _ Ca7 cl7 fp7 rfl) (by decide +kernel) hF.range_ (ed_var (i := 4) (Ctx.blk C s7 H7 _ Ca7 cl7 fp7 rfl) (by decide +kernel) rfl)) (by decide +kernel) (fun s8 H8 Ca8 cl8 fp8 => (pgN (i := 15) (Ctx.blk (Ctx.blk C s7 H7 _ Ca7 cl7 fp7 rfl) s8 H8 _ Ca8 cl8 fp8 rfl) (by decide +kernel))) (tgt_name (i := 15)) (by decide) rfl (fun s8 H8 Ca8 cl8 fp8 x8 => ets_nil) (fun s8 H8 Ca8 cl8 fp8 x8 => (ed_sub (ed_call (Ctx.blk (Ctx.blk C s7 H7 _ Ca7 cl7 fp7 rfl) s8 H8 _ Ca8 cl8 fp8 rfl) hC__law_mix (by decide) (by decide +kernel) (ad_cons (ed_var (i := 1) (Ctx.blk (Ctx.blk C s7 H7 _ Ca7 cl7 fp7 rfl) s8 H8 _ Ca8 cl8 fp8 rfl) (by decide +kernel) rfl) (ad_cons (ed_add (ed_add (ed_add (ed_var (i := 3) (Ctx.blk (Ctx.blk C s7 H7 _ Ca7 cl7 fp7 rfl) s8 H8 _ Ca8 cl8 fp8 rfl) (by decide +kernel) rfl) ed_num) (ed_mul ed_num (ed_var (i := 13) (Ctx.blk (Ctx.blk C s7 H7 _ Ca7 cl7 fp7 rfl) s8 H8 _ Ca8 cl8 fp8 rfl) (by decide +kernel) rfl))) (ed_var (i := 15) (Ctx.blk (Ctx.blk C s7 H7 _ Ca7 cl7 fp7 rfl) s8 H8 _ Ca8 cl8 fp8 rfl) (by decide +kernel) rfl)) (ad_cons ed_num ad_nil))) go3) ed_num)))))))) (fun v_table_6 => ?_) (sw_cell C (by decide +kernel))
    refine sv_set (i := 6) C (by decide +kernel) (ed_call C hC__law_mix (by decide) (by decide +kernel) (ad_cons (ed_var (i := 1) C (by decide +kernel) rfl) (ad_cons (ed_add (ed_var (i := 3) C (by decide +kernel) rfl) ed_num) (ad_cons (ed_len C (by decide +kernel) hF.len_ (er_own (i := 5) C (by decide +kernel) rfl)) ad_nil))) go3) fun v_spot_9 => ?_
    refine sv_wk (G' := [.un, .dat (enc v_draws_1), .dat (enc y3), .dat (enc v_at_4), .dat (enc v_wide_5), .own (v_table_6.map enc), .dat (enc v_spot_9), .un, .un, .un, .un, .un, .un, .un, .un, .un, .un, .un]) (wk_ops [] rfl) ?_
    refine sv_set (i := 7) C (by decide +kernel) (ed_call C hC__law_mix (by decide) (by decide +kernel) (ad_cons (ed_var (i := 1) C (by decide +kernel) rfl) (ad_cons (ed_add (ed_var (i := 3) C (by decide +kernel) rfl) ed_num) (ad_cons ed_num ad_nil))) go3) fun v_word_10 => ?_
    refine sv_if (S' := (List (List Int))) (P' := fun s11 => [.un, .dat (enc v_draws_1), .dat (enc y3), .dat (enc v_at_4), .dat (enc v_wide_5), .dat (enc s11), .dat (enc v_spot_9), .dat (enc v_word_10), .un, .un, .un, .un, .un, .un, .un, .un, .un, .un]) (eb_cmp (ec_eqI (ed_var (i := 7) C (by decide +kernel) rfl) ed_num)) ?_ ?_ fun s11 => ?_
    · refine sv_wk (G' := [.un, .dat (enc v_draws_1), .dat (enc y3), .dat (enc v_at_4), .dat (enc v_wide_5), .own (v_table_6.map enc), .dat (enc v_spot_9), .dat (enc v_word_10), .un, .un, .un, .un, .un, .un, .un, .un, .un, .un]) (wk_ops [] rfl) ?_
      refine sv_wk (wk_ops [.fz 5] rfl) ?_
      refine sv_set (i := 5) C (by decide +kernel) (ed_ix (ed_of_eo (eo_list (al_cons (ed_of_eo (eo_list (al_nil (α := (List Int))))) (al_cons (ed_of_eo (eo_repD (ed_var (i := 5) C (by decide +kernel) rfl) ed_num)) (al_cons (ed_of_eo (eo_list (al_cons (ed_of_eo (eo_list (al_nil (α := Int)))) (al_nil (α := (List Int)))))) (al_cons (ed_of_eo (eo_lc (lc_mk (own := [("row", 17)]) C (it_list (ed_var (i := 5) C (by decide +kernel) rfl)) (by decide +kernel) (fun s13 H13 Ca13 cl13 fp13 => (pgN (i := 17) (Ctx.blk C s13 H13 _ Ca13 cl13 fp13 rfl) (by decide +kernel))) (tgt_name (i := 17)) (by decide) rfl (fun s13 H13 Ca13 cl13 fp13 x13 => ets_nil) (fun s13 H13 Ca13 cl13 fp13 x13 => (ed_of_eo (eo_repD (ed_var (i := 17) (Ctx.blk C s13 H13 _ Ca13 cl13 fp13 rfl) (by decide +kernel) rfl) ed_num)))))) (al_nil (α := (List (List Int)))))))))) (ed_call C hC__law_mix (by decide) (by decide +kernel) (ad_cons (ed_var (i := 1) C (by decide +kernel) rfl) (ad_cons (ed_add (ed_var (i := 3) C (by decide +kernel) rfl) ed_num) (ad_cons ed_num ad_nil))) go3)) fun v_table_12 => ?_
      exact sv_nil (wk_ops [] rfl)
    · refine sv_if (S' := (List (List Int))) (P' := fun s14 => [.un, .dat (enc v_draws_1), .dat (enc y3), .dat (enc v_at_4), .dat (enc v_wide_5), .own (s14.map enc), .dat (enc v_spot_9), .dat (enc v_word_10), .un, .un, .un, .un, .un, .un, .un, .un, .un, .un]) (eb_cmp (ec_lt (ed_var (i := 7) C (by decide +kernel) rfl) ed_num)) ?_ ?_ fun s14 => ?_
      · refine sv_sti (i := 5) C (by decide +kernel) rfl (ed_ix (ed_of_eo (eo_list (al_cons (ed_of_eo (eo_cat (ed_ixO (i := 5) C (by decide +kernel) rfl (ed_var (i := 6) C (by decide +kernel) rfl)) (ed_of_eo (eo_list (al_cons ed_num (al_nil (α := Int))))))) (al_cons (ed_of_eo (eo_slice (ed_ixO (i := 5) C (by decide +kernel) rfl (ed_var (i := 6) C (by decide +kernel) rfl)) (ep_some ed_num) ep_none)) (al_cons (ed_of_eo (eo_cat (ed_of_eo (eo_list (al_cons ed_num (al_nil (α := Int))))) (ed_of_eo (eo_slice (ed_ixO (i := 5) C (by decide +kernel) rfl (ed_var (i := 6) C (by decide +kernel) rfl)) (ep_some ed_num) ep_none)))) (al_cons (ed_of_eo (eo_cat (ed_of_eo (eo_list (al_cons (ed_neg ed_num) (al_nil (α := Int))))) (ed_of_eo (eo_slice (ed_ixO (i := 5) C (by decide +kernel) rfl (ed_var (i := 6) C (by decide +kernel) rfl)) (ep_some ed_num) ep_none)))) (al_nil (α := (List Int))))))))) (ed_call C hC__law_mix (by decide) (by decide +kernel) (ad_cons (ed_var (i := 1) C (by decide +kernel) rfl) (ad_cons (ed_add (ed_var (i := 3) C (by decide +kernel) rfl) ed_num) (ad_cons ed_num ad_nil))) go3)) (ed_var (i := 6) C (by decide +kernel) rfl) fun v_table_15 => ?_
        exact sv_nil (wk_ops [] rfl)
      · exact sv_nil (wk_ops [] rfl)
      exact sv_nil (wk_ops [.fz 5] rfl)
    refine sv_wk (G' := [.un, .dat (enc v_draws_1), .dat (enc y3), .dat (enc v_at_4), .dat (enc v_wide_5), .dat (enc s11), .dat (enc v_spot_9), .dat (enc v_word_10), .un, .un, .un, .un, .un, .un, .un, .un, .un, .un]) (wk_ops [] rfl) ?_
    refine sv_set (i := 8) C (by decide +kernel) (ed_of_eo (eo_lc (lc_mk (own := [("i", 13)]) C (it_rng1 C (by decide +kernel) hF.range_ (ed_len C (by decide +kernel) hF.len_ (er_of_ed (ed_var (i := 5) C (by decide +kernel) rfl)))) (by decide +kernel) (fun s17 H17 Ca17 cl17 fp17 => (pgN (i := 13) (Ctx.blk C s17 H17 _ Ca17 cl17 fp17 rfl) (by decide +kernel))) (tgt_name (i := 13)) (by decide) rfl (fun s17 H17 Ca17 cl17 fp17 x17 => (ets_one (eb_cmp (ec_eqI (ed_call (Ctx.blk C s17 H17 _ Ca17 cl17 fp17 rfl) hC__law_mix (by decide) (by decide +kernel) (ad_cons (ed_var (i := 1) (Ctx.blk C s17 H17 _ Ca17 cl17 fp17 rfl) (by decide +kernel) rfl) (ad_cons (ed_add (ed_add (ed_var (i := 3) (Ctx.blk C s17 H17 _ Ca17 cl17 fp17 rfl) (by decide +kernel) rfl) ed_num) (ed_var (i := 13) (Ctx.blk C s17 H17 _ Ca17 cl17 fp17 rfl) (by decide +kernel) rfl)) (ad_cons ed_num ad_nil))) go3) ed_num)))) (fun s17 H17 Ca17 cl17 fp17 x17 => (ed_var (i := 13) (Ctx.blk C s17 H17 _ Ca17 cl17 fp17 rfl) (by decide +kernel) rfl))))) (fun v_rows_16 => ?_) (sw_cell C (by decide +kernel))
    refine sv_set (i := 8) C (by decide +kernel) (ed_ix (ed_of_eo (eo_list (al_cons (ed_var (i := 8) C (by decide +kernel) rfl) (al_cons (ed_var (i := 8) C (by decide +kernel) rfl) (al_cons (ed_of_eo (eo_rev (ed_var (i := 8) C (by decide +kernel) rfl) (ed_neg ed_num))) (al_cons (ed_of_eo (eo_cat (ed_var (i := 8) C (by decide +kernel) rfl) (ed_of_eo (eo_list (al_cons (ed_len C (by decide +kernel) hF.len_ (er_of_ed (ed_var (i := 5) C (by decide +kernel) rfl))) (al_nil (α := Int))))))) (al_cons (ed_of_eo (eo_cat (ed_of_eo (eo_list (al_cons (ed_neg ed_num) (al_nil (α := Int))))) (ed_var (i := 8) C (by decide +kernel) rfl))) (al_cons (ed_of_eo (eo_cat (ed_var (i := 8) C (by decide +kernel) rfl) (ed_of_eo (eo_slice (ed_var (i := 8) C (by decide +kernel) rfl) ep_none (ep_some ed_num))))) (al_nil (α := (List Int))))))))))) (ed_call C hC__law_mix (by decide) (by decide +kernel) (ad_cons (ed_var (i := 1) C (by decide +kernel) rfl) (ad_cons (ed_add (ed_var (i := 3) C (by decide +kernel) rfl) ed_num) (ad_cons ed_num ad_nil))) go3)) fun v_rows_18 => ?_
    refine sv_wk (G' := [.un, .dat (enc v_draws_1), .dat (enc y3), .dat (enc v_at_4), .dat (enc v_wide_5), .dat (enc s11), .dat (enc v_spot_9), .dat (enc v_word_10), .dat (enc v_rows_18), .un, .un, .un, .un, .un, .un, .un, .un, .un]) (wk_ops [] rfl) ?_
    refine sv_set (i := 9) C (by decide +kernel) (ed_repr C (by decide +kernel) hF.repr_ (ed_t2 (ed_var (i := 5) C (by decide +kernel) rfl) (ed_var (i := 8) C (by decide +kernel) rfl))) fun v_kept_19 => ?_
    refine sv_set (i := 10) C (by decide +kernel) (ed_call C hC__law_fault (by decide) (by decide +kernel) (ad_cons (ed_var (i := 5) C (by decide +kernel) rfl) ad_nil) go1) fun v_fault_20 => ?_
    refine sv_wk (G' := [.un, .dat (enc v_draws_1), .dat (enc y3), .dat (enc v_at_4), .dat (enc v_wide_5), .dat (enc s11), .dat (enc v_spot_9), .dat (enc v_word_10), .dat (enc v_rows_18), .dat (enc v_kept_19), .dat (enc v_fault_20), .un, .un, .un, .un, .un, .un, .un]) (wk_ops [] rfl) ?_
    refine sv_setL (i := 11) C (by decide +kernel) (by decide +kernel) (lc_mk (own := [("k", 14)]) C (it_rng1 C (by decide +kernel) hF.range_ (ed_len C (by decide +kernel) hF.len_ (er_of_ed (ed_var (i := 8) C (by decide +kernel) rfl)))) (by decide +kernel) (fun s22 H22 Ca22 cl22 fp22 => (pgN (i := 14) (Ctx.blk C s22 H22 _ Ca22 cl22 fp22 rfl) (by decide +kernel))) (tgt_name (i := 14)) (by decide) rfl (fun s22 H22 Ca22 cl22 fp22 x22 => (ets_one (eb_bool (ew_or (eb_not (eb_chLeLt rfl ed_num (ed_ix (ed_var (i := 8) (Ctx.blk C s22 H22 _ Ca22 cl22 fp22 rfl) (by decide +kernel) rfl) (ed_var (i := 14) (Ctx.blk C s22 H22 _ Ca22 cl22 fp22 rfl) (by decide +kernel) rfl)) (ed_len (Ctx.blk C s22 H22 _ Ca22 cl22 fp22 rfl) (by decide +kernel) hF.len_ (er_of_ed (ed_var (i := 5) (Ctx.blk C s22 H22 _ Ca22 cl22 fp22 rfl) (by decide +kernel) rfl))))) (ew_or1 (eb_bool (ew_and (eb_cmp (ec_gt (ed_var (i := 14) (Ctx.blk C s22 H22 _ Ca22 cl22 fp22 rfl) (by decide +kernel) rfl) ed_num)) (ew_and1 (eb_cmp (ec_ge (ed_ix (ed_var (i := 8) (Ctx.blk C s22 H22 _ Ca22 cl22 fp22 rfl) (by decide +kernel) rfl) (ed_sub (ed_var (i := 14) (Ctx.blk C s22 H22 _ Ca22 cl22 fp22 rfl) (by decide +kernel) rfl) ed_num)) (ed_ix (ed_var (i := 8) (Ctx.blk C s22 H22 _ Ca22 cl22 fp22 rfl) (by decide +kernel) rfl) (ed_var (i := 14) (Ctx.blk C s22 H22 _ Ca22 cl22 fp22 rfl) (by decide +kernel) rfl)))))))))))) (fun s22 H22 Ca22 cl22 fp22 x22 => (ed_var (i := 14) (Ctx.blk C s22 H22 _ Ca22 cl22 fp22 rfl) (by decide +kernel) rfl))) fun v_bad_21 => ?_
    refine sv_set (i := 12) C (by decide +kernel) (ed_orD (ed_var (i := 10) C (by decide +kernel) rfl) (ed_one (ed_ix (ed_of_eo (eo_list (al_cons ed_none (al_cons (ed_some (ed_t2 ed_str (ed_ix (ed_of_eo (eo_cat (ed_var (i := 11) C (by decide +kernel) rfl) (ed_of_eo (eo_list (al_cons ed_num (al_nil (α := Int))))))) ed_num))) (al_nil (α := (Option (T2 Str Int)))))))) (ed_intB C (by decide +kernel) hF.int_ (ed_cmp (ec_neD C (ed_var (i := 11) C (by decide +kernel) rfl) (ed_of_eo (eo_list (al_nil (α := Int)))))))))) fun v_last_23 => ?_
    refine sv_wk (G' := [.un, .dat (enc v_draws_1), .dat (enc y3), .dat (enc v_at_4), .dat (enc v_wide_5), .dat (enc s11), .dat (enc v_spot_9), .dat (enc v_word_10), .dat (enc v_rows_18), .dat (enc v_kept_19), .dat (enc v_fault_20), .dat (enc v_bad_21), .dat (enc v_last_23), .un, .un, .un, .un, .un]) (wk_ops [] rfl) ?_
    refine sv_if (S' := Unit) (P' := fun s25 => [.un, .dat (enc v_draws_1), .dat (enc y3), .dat (enc v_at_4), .dat (enc v_wide_5), .dat (enc s11), .dat (enc v_spot_9), .dat (enc v_word_10), .dat (enc v_rows_18), .dat (enc v_kept_19), .dat (enc v_fault_20), .dat (enc v_bad_21), .dat (enc v_last_23), .un, .un, .un, .un, .un]) (eb_bool (ew_or (eb_cmp (ec_neG C (ed_of_eo (eo_lc (lc_mk (own := [("way", 16)]) C (it_rng1 C (by decide +kernel) hF.range_ ed_num) (by decide +kernel) (fun s24 H24 Ca24 cl24 fp24 => (pgN (i := 16) (Ctx.blk C s24 H24 _ Ca24 cl24 fp24 rfl) (by decide +kernel))) (tgt_name (i := 16)) (by decide) rfl (fun s24 H24 Ca24 cl24 fp24 x24 => ets_nil) (fun s24 H24 Ca24 cl24 fp24 x24 => (ed_call (Ctx.blk C s24 H24 _ Ca24 cl24 fp24 rfl) hC__law_of (by decide) (by decide +kernel) (ad_cons (ed_var (i := 16) (Ctx.blk C s24 H24 _ Ca24 cl24 fp24 rfl) (by decide +kernel) rfl) (ad_cons (ed_var (i := 5) (Ctx.blk C s24 H24 _ Ca24 cl24 fp24 rfl) (by decide +kernel) rfl) (ad_cons (ed_var (i := 8) (Ctx.blk C s24 H24 _ Ca24 cl24 fp24 rfl) (by decide +kernel) rfl) ad_nil))) go3))))) (ed_of_eo (eo_cat (ed_of_eo (eo_rep (eo_list (al_cons (ed_var (i := 10) C (by decide +kernel) rfl) (al_nil (α := (Option (T2 Str Int)))))) ed_num)) (ed_of_eo (eo_list (al_cons (ed_var (i := 12) C (by decide +kernel) rfl) (al_nil (α := (Option (T2 Str Int))))))))))) (ew_or1 (eb_cmp (ec_neS (ed_repr C (by decide +kernel) hF.repr_ (ed_t2 (ed_var (i := 5) C (by decide +kernel) rfl) (ed_var (i := 8) C (by decide +kernel) rfl))) (ed_var (i := 9) C (by decide +kernel) rfl)))))) ?_ ?_ fun s25 => ?_
    · exact sv_ret ed_bl
    · exact sv_nil (wk_ops [] rfl)
    exact sv_nil (wk_mask [false, false, true, true, true, true, true, true, true, true, true, true, true] [] rfl)
  exact sv_ret ed_bl
theorem ok_law {P : Program} {w : World} {K : PySem.W.Frag} {mg : Str → Option Value} {base : Heap} {f : Addr} {fd : FuncData} (F : Fun K "law" "law" st_law f fd) (hF : Facts mg) (hC__law_draws : Cal P w K mg base CX0 1 "_law_draws" ["script"] (spR K .dd m__law_draws)) (hC__law_mix : Cal P w K mg base CX0 1 "_law_mix" ["draws", "k", "many"] (spD K .dd (g3 m__law_mix))) (hC__law_fault : Cal P w K mg base CX0 1 "_law_fault" ["table"] (spD K .dd (g1 m__law_fault))) (hC__law_of : Cal P w K mg base CX0 9 "_law_of" ["way", "table", "rows"] (spD K .dd (g3 m__law_of))) : FnG P w K mg base CX0 10 f fd ["script"] (spR K .dd m_law) :=
  ok_rd F fs_law 18 rfl (by decide) fun X h1 h2 h3 h4 h5 C l r hr => by subst h1 h2 h3 h4 h5; exact body_of (bk_law C hF hC__law_draws hC__law_mix hC__law_fault hC__law_of l) hr (fun x h => nomatch h)
end Lay.K42

set_option Elab.async false
set_option linter.all false
set_option maxRecDepth 100000
namespace Lay.K42
open PySem PySem.Spec PyProof.Rows L2 Lay
open Lay.Enc (enc)
set_option maxHeartbeats 0
theorem all_mk {l : PySem.W.OpenLaw} {w : World} {K : PySem.W.Frag} {h : Heap} {mg : Str → Option Value} {fa : Addr} (X : K.In h) (G : h.Ns mainGlobals mg) (hfa : mg "law" = some (.ref fa))
    {f0 : Addr} {od0 an0 : Option Addr} {sl0 : Array (Option Value)} {oc0 kV0 dc0 pm0 cd0 ct0 : Value}
    (a0 : PySem.W.nsIn K mainGlobals "_law_draws" = some (some (.ref f0))) (l0 : K.lookup f0 = some ⟨oc0, od0, .func (PySem.W.fnOf "_law_draws" "_law_draws" (defArgs st__law_draws) (defBody st__law_draws) (defScope st__law_draws) .none kV0 dc0 pm0 an0 cd0 ct0), sl0⟩) (c0 : PySem.W.codeIn K cd0 "_law_draws" = true) (k0 : PySem.W.keepIn K (.ref f0) = true)
    {f1 : Addr} {od1 an1 : Option Addr} {sl1 : Array (Option Value)} {oc1 kV1 dc1 pm1 cd1 ct1 : Value}
    (a1 : PySem.W.nsIn K mainGlobals "_law_mix" = some (some (.ref f1))) (l1 : K.lookup f1 = some ⟨oc1, od1, .func (PySem.W.fnOf "_law_mix" "_law_mix" (defArgs st__law_mix) (defBody st__law_mix) (defScope st__law_mix) .none kV1 dc1 pm1 an1 cd1 ct1), sl1⟩) (c1 : PySem.W.codeIn K cd1 "_law_mix" = true) (k1 : PySem.W.keepIn K (.ref f1) = true)
    {f2 : Addr} {od2 an2 : Option Addr} {sl2 : Array (Option Value)} {oc2 kV2 dc2 pm2 cd2 ct2 : Value}
    (a2 : PySem.W.nsIn K mainGlobals "_law_fault" = some (some (.ref f2))) (l2 : K.lookup f2 = some ⟨oc2, od2, .func (PySem.W.fnOf "_law_fault" "_law_fault" (defArgs st__law_fault) (defBody st__law_fault) (defScope st__law_fault) .none kV2 dc2 pm2 an2 cd2 ct2), sl2⟩) (c2 : PySem.W.codeIn K cd2 "_law_fault" = true) (k2 : PySem.W.keepIn K (.ref f2) = true)
    {f3 : Addr} {od3 an3 : Option Addr} {sl3 : Array (Option Value)} {oc3 kV3 dc3 pm3 cd3 ct3 : Value}
    (a3 : PySem.W.nsIn K mainGlobals "check_table" = some (some (.ref f3))) (l3 : K.lookup f3 = some ⟨oc3, od3, .func (PySem.W.fnOf "check_table" "check_table" (defArgs st_check_table) (defBody st_check_table) (defScope st_check_table) .none kV3 dc3 pm3 an3 cd3 ct3), sl3⟩) (c3 : PySem.W.codeIn K cd3 "check_table" = true) (k3 : PySem.W.keepIn K (.ref f3) = true)
    {f4 : Addr} {od4 an4 : Option Addr} {sl4 : Array (Option Value)} {oc4 kV4 dc4 pm4 cd4 ct4 : Value}
    (a4 : PySem.W.nsIn K mainGlobals "choices" = some (some (.ref f4))) (l4 : K.lookup f4 = some ⟨oc4, od4, .func (PySem.W.fnOf "choices" "choices" (defArgs st_choices) (defBody st_choices) (defScope st_choices) .none kV4 dc4 pm4 an4 cd4 ct4), sl4⟩) (c4 : PySem.W.codeIn K cd4 "choices" = true) (k4 : PySem.W.keepIn K (.ref f4) = true)
    {f5 : Addr} {od5 an5 : Option Addr} {sl5 : Array (Option Value)} {oc5 kV5 dc5 pm5 cd5 ct5 : Value}
    (a5 : PySem.W.nsIn K mainGlobals "measure_of" = some (some (.ref f5))) (l5 : K.lookup f5 = some ⟨oc5, od5, .func (PySem.W.fnOf "measure_of" "measure_of" (defArgs st_measure_of) (defBody st_measure_of) (defScope st_measure_of) .none kV5 dc5 pm5 an5 cd5 ct5), sl5⟩) (c5 : PySem.W.codeIn K cd5 "measure_of" = true) (k5 : PySem.W.keepIn K (.ref f5) = true)
    {f6 : Addr} {od6 an6 : Option Addr} {sl6 : Array (Option Value)} {oc6 kV6 dc6 pm6 cd6 ct6 : Value}
    (a6 : PySem.W.nsIn K mainGlobals "square_at" = some (some (.ref f6))) (l6 : K.lookup f6 = some ⟨oc6, od6, .func (PySem.W.fnOf "square_at" "square_at" (defArgs st_square_at) (defBody st_square_at) (defScope st_square_at) .none kV6 dc6 pm6 an6 cd6 ct6), sl6⟩) (c6 : PySem.W.codeIn K cd6 "square_at" = true) (k6 : PySem.W.keepIn K (.ref f6) = true)
    {f7 : Addr} {od7 an7 : Option Addr} {sl7 : Array (Option Value)} {oc7 kV7 dc7 pm7 cd7 ct7 : Value}
    (a7 : PySem.W.nsIn K mainGlobals "bad_of" = some (some (.ref f7))) (l7 : K.lookup f7 = some ⟨oc7, od7, .func (PySem.W.fnOf "bad_of" "bad_of" (defArgs st_bad_of) (defBody st_bad_of) (defScope st_bad_of) .none kV7 dc7 pm7 an7 cd7 ct7), sl7⟩) (c7 : PySem.W.codeIn K cd7 "bad_of" = true) (k7 : PySem.W.keepIn K (.ref f7) = true)
    {f8 : Addr} {od8 an8 : Option Addr} {sl8 : Array (Option Value)} {oc8 kV8 dc8 pm8 cd8 ct8 : Value}
    (a8 : PySem.W.nsIn K mainGlobals "is_sure" = some (some (.ref f8))) (l8 : K.lookup f8 = some ⟨oc8, od8, .func (PySem.W.fnOf "is_sure" "is_sure" (defArgs st_is_sure) (defBody st_is_sure) (defScope st_is_sure) .none kV8 dc8 pm8 an8 cd8 ct8), sl8⟩) (c8 : PySem.W.codeIn K cd8 "is_sure" = true) (k8 : PySem.W.keepIn K (.ref f8) = true)
    {f9 : Addr} {od9 an9 : Option Addr} {sl9 : Array (Option Value)} {oc9 kV9 dc9 pm9 cd9 ct9 : Value}
    (a9 : PySem.W.nsIn K mainGlobals "_law_word" = some (some (.ref f9))) (l9 : K.lookup f9 = some ⟨oc9, od9, .func (PySem.W.fnOf "_law_word" "_law_word" (defArgs st__law_word) (defBody st__law_word) (defScope st__law_word) .none kV9 dc9 pm9 an9 cd9 ct9), sl9⟩) (c9 : PySem.W.codeIn K cd9 "_law_word" = true) (k9 : PySem.W.keepIn K (.ref f9) = true)
    {f10 : Addr} {od10 an10 : Option Addr} {sl10 : Array (Option Value)} {oc10 kV10 dc10 pm10 cd10 ct10 : Value}
    (a10 : PySem.W.nsIn K mainGlobals "bad_square" = some (some (.ref f10))) (l10 : K.lookup f10 = some ⟨oc10, od10, .func (PySem.W.fnOf "bad_square" "bad_square" (defArgs st_bad_square) (defBody st_bad_square) (defScope st_bad_square) .none kV10 dc10 pm10 an10 cd10 ct10), sl10⟩) (c10 : PySem.W.codeIn K cd10 "bad_square" = true) (k10 : PySem.W.keepIn K (.ref f10) = true)
    {f11 : Addr} {od11 an11 : Option Addr} {sl11 : Array (Option Value)} {oc11 kV11 dc11 pm11 cd11 ct11 : Value}
    (a11 : PySem.W.nsIn K mainGlobals "is_set" = some (some (.ref f11))) (l11 : K.lookup f11 = some ⟨oc11, od11, .func (PySem.W.fnOf "is_set" "is_set" (defArgs st_is_set) (defBody st_is_set) (defScope st_is_set) .none kV11 dc11 pm11 an11 cd11 ct11), sl11⟩) (c11 : PySem.W.codeIn K cd11 "is_set" = true) (k11 : PySem.W.keepIn K (.ref f11) = true)
    {f12 : Addr} {od12 an12 : Option Addr} {sl12 : Array (Option Value)} {oc12 kV12 dc12 pm12 cd12 ct12 : Value}
    (a12 : PySem.W.nsIn K mainGlobals "measure" = some (some (.ref f12))) (l12 : K.lookup f12 = some ⟨oc12, od12, .func (PySem.W.fnOf "measure" "measure" (defArgs st_measure) (defBody st_measure) (defScope st_measure) .none kV12 dc12 pm12 an12 cd12 ct12), sl12⟩) (c12 : PySem.W.codeIn K cd12 "measure" = true) (k12 : PySem.W.keepIn K (.ref f12) = true)
    {f13 : Addr} {od13 an13 : Option Addr} {sl13 : Array (Option Value)} {oc13 kV13 dc13 pm13 cd13 ct13 : Value}
    (a13 : PySem.W.nsIn K mainGlobals "rows_from" = some (some (.ref f13))) (l13 : K.lookup f13 = some ⟨oc13, od13, .func (PySem.W.fnOf "rows_from" "rows_from" (defArgs st_rows_from) (defBody st_rows_from) (defScope st_rows_from) .none kV13 dc13 pm13 an13 cd13 ct13), sl13⟩) (c13 : PySem.W.codeIn K cd13 "rows_from" = true) (k13 : PySem.W.keepIn K (.ref f13) = true)
    {f14 : Addr} {od14 an14 : Option Addr} {sl14 : Array (Option Value)} {oc14 kV14 dc14 pm14 cd14 ct14 : Value}
    (a14 : PySem.W.nsIn K mainGlobals "parting_of" = some (some (.ref f14))) (l14 : K.lookup f14 = some ⟨oc14, od14, .func (PySem.W.fnOf "parting_of" "parting_of" (defArgs st_parting_of) (defBody st_parting_of) (defScope st_parting_of) .none kV14 dc14 pm14 an14 cd14 ct14), sl14⟩) (c14 : PySem.W.codeIn K cd14 "parting_of" = true) (k14 : PySem.W.keepIn K (.ref f14) = true)
    {f15 : Addr} {od15 an15 : Option Addr} {sl15 : Array (Option Value)} {oc15 kV15 dc15 pm15 cd15 ct15 : Value}
    (a15 : PySem.W.nsIn K mainGlobals "unparted" = some (some (.ref f15))) (l15 : K.lookup f15 = some ⟨oc15, od15, .func (PySem.W.fnOf "unparted" "unparted" (defArgs st_unparted) (defBody st_unparted) (defScope st_unparted) .none kV15 dc15 pm15 an15 cd15 ct15), sl15⟩) (c15 : PySem.W.codeIn K cd15 "unparted" = true) (k15 : PySem.W.keepIn K (.ref f15) = true)
    {f16 : Addr} {od16 an16 : Option Addr} {sl16 : Array (Option Value)} {oc16 kV16 dc16 pm16 cd16 ct16 : Value}
    (a16 : PySem.W.nsIn K mainGlobals "is_stretch" = some (some (.ref f16))) (l16 : K.lookup f16 = some ⟨oc16, od16, .func (PySem.W.fnOf "is_stretch" "is_stretch" (defArgs st_is_stretch) (defBody st_is_stretch) (defScope st_is_stretch) .none kV16 dc16 pm16 an16 cd16 ct16), sl16⟩) (c16 : PySem.W.codeIn K cd16 "is_stretch" = true) (k16 : PySem.W.keepIn K (.ref f16) = true)
    {f17 : Addr} {od17 an17 : Option Addr} {sl17 : Array (Option Value)} {oc17 kV17 dc17 pm17 cd17 ct17 : Value}
    (a17 : PySem.W.nsIn K mainGlobals "are_stretches" = some (some (.ref f17))) (l17 : K.lookup f17 = some ⟨oc17, od17, .func (PySem.W.fnOf "are_stretches" "are_stretches" (defArgs st_are_stretches) (defBody st_are_stretches) (defScope st_are_stretches) .none kV17 dc17 pm17 an17 cd17 ct17), sl17⟩) (c17 : PySem.W.codeIn K cd17 "are_stretches" = true) (k17 : PySem.W.keepIn K (.ref f17) = true)
    {f18 : Addr} {od18 an18 : Option Addr} {sl18 : Array (Option Value)} {oc18 kV18 dc18 pm18 cd18 ct18 : Value}
    (a18 : PySem.W.nsIn K mainGlobals "fits" = some (some (.ref f18))) (l18 : K.lookup f18 = some ⟨oc18, od18, .func (PySem.W.fnOf "fits" "fits" (defArgs st_fits) (defBody st_fits) (defScope st_fits) .none kV18 dc18 pm18 an18 cd18 ct18), sl18⟩) (c18 : PySem.W.codeIn K cd18 "fits" = true) (k18 : PySem.W.keepIn K (.ref f18) = true)
    {f19 : Addr} {od19 an19 : Option Addr} {sl19 : Array (Option Value)} {oc19 kV19 dc19 pm19 cd19 ct19 : Value}
    (a19 : PySem.W.nsIn K mainGlobals "sides" = some (some (.ref f19))) (l19 : K.lookup f19 = some ⟨oc19, od19, .func (PySem.W.fnOf "sides" "sides" (defArgs st_sides) (defBody st_sides) (defScope st_sides) .none kV19 dc19 pm19 an19 cd19 ct19), sl19⟩) (c19 : PySem.W.codeIn K cd19 "sides" = true) (k19 : PySem.W.keepIn K (.ref f19) = true)
    {f20 : Addr} {od20 an20 : Option Addr} {sl20 : Array (Option Value)} {oc20 kV20 dc20 pm20 cd20 ct20 : Value}
    (a20 : PySem.W.nsIn K mainGlobals "fraction" = some (some (.ref f20))) (l20 : K.lookup f20 = some ⟨oc20, od20, .func (PySem.W.fnOf "fraction" "fraction" (defArgs st_fraction) (defBody st_fraction) (defScope st_fraction) .none kV20 dc20 pm20 an20 cd20 ct20), sl20⟩) (c20 : PySem.W.codeIn K cd20 "fraction" = true) (k20 : PySem.W.keepIn K (.ref f20) = true)
    {f21 : Addr} {od21 an21 : Option Addr} {sl21 : Array (Option Value)} {oc21 kV21 dc21 pm21 cd21 ct21 : Value}
    (a21 : PySem.W.nsIn K mainGlobals "plus" = some (some (.ref f21))) (l21 : K.lookup f21 = some ⟨oc21, od21, .func (PySem.W.fnOf "plus" "plus" (defArgs st_plus) (defBody st_plus) (defScope st_plus) .none kV21 dc21 pm21 an21 cd21 ct21), sl21⟩) (c21 : PySem.W.codeIn K cd21 "plus" = true) (k21 : PySem.W.keepIn K (.ref f21) = true)
    {f22 : Addr} {od22 an22 : Option Addr} {sl22 : Array (Option Value)} {oc22 kV22 dc22 pm22 cd22 ct22 : Value}
    (a22 : PySem.W.nsIn K mainGlobals "lifted" = some (some (.ref f22))) (l22 : K.lookup f22 = some ⟨oc22, od22, .func (PySem.W.fnOf "lifted" "lifted" (defArgs st_lifted) (defBody st_lifted) (defScope st_lifted) .none kV22 dc22 pm22 an22 cd22 ct22), sl22⟩) (c22 : PySem.W.codeIn K cd22 "lifted" = true) (k22 : PySem.W.keepIn K (.ref f22) = true)
    {f23 : Addr} {od23 an23 : Option Addr} {sl23 : Array (Option Value)} {oc23 kV23 dc23 pm23 cd23 ct23 : Value}
    (a23 : PySem.W.nsIn K mainGlobals "column_of" = some (some (.ref f23))) (l23 : K.lookup f23 = some ⟨oc23, od23, .func (PySem.W.fnOf "column_of" "column_of" (defArgs st_column_of) (defBody st_column_of) (defScope st_column_of) .none kV23 dc23 pm23 an23 cd23 ct23), sl23⟩) (c23 : PySem.W.codeIn K cd23 "column_of" = true) (k23 : PySem.W.keepIn K (.ref f23) = true)
    {f24 : Addr} {od24 an24 : Option Addr} {sl24 : Array (Option Value)} {oc24 kV24 dc24 pm24 cd24 ct24 : Value}
    (a24 : PySem.W.nsIn K mainGlobals "total" = some (some (.ref f24))) (l24 : K.lookup f24 = some ⟨oc24, od24, .func (PySem.W.fnOf "total" "total" (defArgs st_total) (defBody st_total) (defScope st_total) .none kV24 dc24 pm24 an24 cd24 ct24), sl24⟩) (c24 : PySem.W.codeIn K cd24 "total" = true) (k24 : PySem.W.keepIn K (.ref f24) = true)
    {f25 : Addr} {od25 an25 : Option Addr} {sl25 : Array (Option Value)} {oc25 kV25 dc25 pm25 cd25 ct25 : Value}
    (a25 : PySem.W.nsIn K mainGlobals "times" = some (some (.ref f25))) (l25 : K.lookup f25 = some ⟨oc25, od25, .func (PySem.W.fnOf "times" "times" (defArgs st_times) (defBody st_times) (defScope st_times) .none kV25 dc25 pm25 an25 cd25 ct25), sl25⟩) (c25 : PySem.W.codeIn K cd25 "times" = true) (k25 : PySem.W.keepIn K (.ref f25) = true)
    {f26 : Addr} {od26 an26 : Option Addr} {sl26 : Array (Option Value)} {oc26 kV26 dc26 pm26 cd26 ct26 : Value}
    (a26 : PySem.W.nsIn K mainGlobals "sum_of" = some (some (.ref f26))) (l26 : K.lookup f26 = some ⟨oc26, od26, .func (PySem.W.fnOf "sum_of" "sum_of" (defArgs st_sum_of) (defBody st_sum_of) (defScope st_sum_of) .none kV26 dc26 pm26 an26 cd26 ct26), sl26⟩) (c26 : PySem.W.codeIn K cd26 "sum_of" = true) (k26 : PySem.W.keepIn K (.ref f26) = true)
    {f27 : Addr} {od27 an27 : Option Addr} {sl27 : Array (Option Value)} {oc27 kV27 dc27 pm27 cd27 ct27 : Value}
    (a27 : PySem.W.nsIn K mainGlobals "broken" = some (some (.ref f27))) (l27 : K.lookup f27 = some ⟨oc27, od27, .func (PySem.W.fnOf "broken" "broken" (defArgs st_broken) (defBody st_broken) (defScope st_broken) .none kV27 dc27 pm27 an27 cd27 ct27), sl27⟩) (c27 : PySem.W.codeIn K cd27 "broken" = true) (k27 : PySem.W.keepIn K (.ref f27) = true)
    {f28 : Addr} {od28 an28 : Option Addr} {sl28 : Array (Option Value)} {oc28 kV28 dc28 pm28 cd28 ct28 : Value}
    (a28 : PySem.W.nsIn K mainGlobals "is_less" = some (some (.ref f28))) (l28 : K.lookup f28 = some ⟨oc28, od28, .func (PySem.W.fnOf "is_less" "is_less" (defArgs st_is_less) (defBody st_is_less) (defScope st_is_less) .none kV28 dc28 pm28 an28 cd28 ct28), sl28⟩) (c28 : PySem.W.codeIn K cd28 "is_less" = true) (k28 : PySem.W.keepIn K (.ref f28) = true)
    {f29 : Addr} {od29 an29 : Option Addr} {sl29 : Array (Option Value)} {oc29 kV29 dc29 pm29 cd29 ct29 : Value}
    (a29 : PySem.W.nsIn K mainGlobals "over" = some (some (.ref f29))) (l29 : K.lookup f29 = some ⟨oc29, od29, .func (PySem.W.fnOf "over" "over" (defArgs st_over) (defBody st_over) (defScope st_over) .none kV29 dc29 pm29 an29 cd29 ct29), sl29⟩) (c29 : PySem.W.codeIn K cd29 "over" = true) (k29 : PySem.W.keepIn K (.ref f29) = true)
    {f30 : Addr} {od30 an30 : Option Addr} {sl30 : Array (Option Value)} {oc30 kV30 dc30 pm30 cd30 ct30 : Value}
    (a30 : PySem.W.nsIn K mainGlobals "minus" = some (some (.ref f30))) (l30 : K.lookup f30 = some ⟨oc30, od30, .func (PySem.W.fnOf "minus" "minus" (defArgs st_minus) (defBody st_minus) (defScope st_minus) .none kV30 dc30 pm30 an30 cd30 ct30), sl30⟩) (c30 : PySem.W.codeIn K cd30 "minus" = true) (k30 : PySem.W.keepIn K (.ref f30) = true)
    {f31 : Addr} {od31 an31 : Option Addr} {sl31 : Array (Option Value)} {oc31 kV31 dc31 pm31 cd31 ct31 : Value}
    (a31 : PySem.W.nsIn K mainGlobals "rank_of" = some (some (.ref f31))) (l31 : K.lookup f31 = some ⟨oc31, od31, .func (PySem.W.fnOf "rank_of" "rank_of" (defArgs st_rank_of) (defBody st_rank_of) (defScope st_rank_of) .none kV31 dc31 pm31 an31 cd31 ct31), sl31⟩) (c31 : PySem.W.codeIn K cd31 "rank_of" = true) (k31 : PySem.W.keepIn K (.ref f31) = true)
    {f32 : Addr} {od32 an32 : Option Addr} {sl32 : Array (Option Value)} {oc32 kV32 dc32 pm32 cd32 ct32 : Value}
    (a32 : PySem.W.nsIn K mainGlobals "is_fraction" = some (some (.ref f32))) (l32 : K.lookup f32 = some ⟨oc32, od32, .func (PySem.W.fnOf "is_fraction" "is_fraction" (defArgs st_is_fraction) (defBody st_is_fraction) (defScope st_is_fraction) .none kV32 dc32 pm32 an32 cd32 ct32), sl32⟩) (c32 : PySem.W.codeIn K cd32 "is_fraction" = true) (k32 : PySem.W.keepIn K (.ref f32) = true)
    {f33 : Addr} {od33 an33 : Option Addr} {sl33 : Array (Option Value)} {oc33 kV33 dc33 pm33 cd33 ct33 : Value}
    (a33 : PySem.W.nsIn K mainGlobals "is_broken" = some (some (.ref f33))) (l33 : K.lookup f33 = some ⟨oc33, od33, .func (PySem.W.fnOf "is_broken" "is_broken" (defArgs st_is_broken) (defBody st_is_broken) (defScope st_is_broken) .none kV33 dc33 pm33 an33 cd33 ct33), sl33⟩) (c33 : PySem.W.codeIn K cd33 "is_broken" = true) (k33 : PySem.W.keepIn K (.ref f33) = true)
    {f34 : Addr} {od34 an34 : Option Addr} {sl34 : Array (Option Value)} {oc34 kV34 dc34 pm34 cd34 ct34 : Value}
    (a34 : PySem.W.nsIn K mainGlobals "partings" = some (some (.ref f34))) (l34 : K.lookup f34 = some ⟨oc34, od34, .func (PySem.W.fnOf "partings" "partings" (defArgs st_partings) (defBody st_partings) (defScope st_partings) .none kV34 dc34 pm34 an34 cd34 ct34), sl34⟩) (c34 : PySem.W.codeIn K cd34 "partings" = true) (k34 : PySem.W.keepIn K (.ref f34) = true)
    {f35 : Addr} {od35 an35 : Option Addr} {sl35 : Array (Option Value)} {oc35 kV35 dc35 pm35 cd35 ct35 : Value}
    (a35 : PySem.W.nsIn K mainGlobals "_law_of" = some (some (.ref f35))) (l35 : K.lookup f35 = some ⟨oc35, od35, .func (PySem.W.fnOf "_law_of" "_law_of" (defArgs st__law_of) (defBody st__law_of) (defScope st__law_of) .none kV35 dc35 pm35 an35 cd35 ct35), sl35⟩) (c35 : PySem.W.codeIn K cd35 "_law_of" = true) (k35 : PySem.W.keepIn K (.ref f35) = true)
    {f36 : Addr} {od36 an36 : Option Addr} {sl36 : Array (Option Value)} {oc36 kV36 dc36 pm36 cd36 ct36 : Value}
    (a36 : PySem.W.nsIn K mainGlobals "law" = some (some (.ref f36))) (l36 : K.lookup f36 = some ⟨oc36, od36, .func (PySem.W.fnOf "law" "law" (defArgs st_law) (defBody st_law) (defScope st_law) .none kV36 dc36 pm36 an36 cd36 ct36), sl36⟩) (c36 : PySem.W.codeIn K cd36 "law" = true) (k36 : PySem.W.keepIn K (.ref f36) = true)
    (z0 : PySem.W.nsIn K mainGlobals "abs" = some none)
    (z1 : PySem.W.nsIn K mainGlobals "all" = some none)
    (z2 : PySem.W.nsIn K mainGlobals "any" = some none)
    {t3 : Tok} (z3 : PySem.W.nsIn K mainGlobals "MOST_LINES" = some (some (.int 5 t3)))
    (z4 : PySem.W.nsIn K mainGlobals "enumerate" = some none)
    (z5 : PySem.W.nsIn K mainGlobals "gcd" = some (some (.builtin "math.gcd")))
    (z6 : PySem.W.nsIn K mainGlobals "int" = some none)
    (z7 : PySem.W.nsIn K mainGlobals "isinstance" = some none)
    (z8 : PySem.W.nsIn K mainGlobals "len" = some none)
    (z9 : PySem.W.nsIn K mainGlobals "list" = some none)
    (z10 : PySem.W.nsIn K mainGlobals "min" = some none)
    (z11 : PySem.W.nsIn K mainGlobals "range" = some none)
    (z12 : PySem.W.nsIn K mainGlobals "repr" = some none)
    (z13 : PySem.W.nsIn K mainGlobals "sorted" = some none)
    (z14 : PySem.W.nsIn K mainGlobals "sum" = some none)
    (z15 : PySem.W.nsIn K mainGlobals "zip" = some none)
    {D fI cc cda : Addr} {ocI kVI docI pmI ctI cclI : Value} {odI anI cddI : Option Addr} {oslI ccsI : Array (Option Value)} {vsI : Array Value} {fileI : Str} {tfI : Tok} {clI : Value} {cldI : Option Addr} {cslI : Array (Option Value)}
    (eD : PySem.W.nsIn K mainGlobals "WholeError" = some (some (.ref D))) (eIn : PySem.W.findIn K (.ref D) "__init__" = some (some (.ref fI)))
    (eI : K.lookup fI = some (⟨ocI, odI, .func (PySem.W.fnX "__init__" "WholeError.__init__" (defArgs st_ini) (defBody st_ini) (defScope st_ini) [(("__class__" : Str), cc)] .none kVI docI pmI anI (.ref cda) ctI), oslI⟩ : Obj)) (eIc : PySem.W.codeIn K (.ref cda) "WholeError.__init__" = true)
    (eC : K.lookup cda = some (⟨cclI, cddI, .fields vsI, ccsI⟩ : Obj)) (eV : vsI[2]? = some (.str fileI tfI)) (eF : ((l.prog.main.file : Str) == fileI) = true) (eL : K.lookup cc = some (⟨clI, cldI, .cell (some (.ref D)), cslI⟩ : Obj)) (eT : (l.prog.main.scope.names.lookup ("super" : Str)).isSome = false) (eS : PySem.W.nsIn K mainGlobals "super" = some none)
    (e_tf : PySem.W.typeIn K (.ref fI) = some (.type "function")) (e_any : PySem.W.nsIn K cStatics "thirdparty.any" = some none) (e_gs : PySem.W.specialIn K (.builtin "object.__class__") "__get__" = some (some (.builtin "getset_descriptor.__get__"))) (e_tk : PySem.W.takesIn K (.builtin "object.__class__") = some true) (e_dB : PySem.W.subIn K (.ref D) (.type "BaseException") = some true) (e_dc : PySem.W.isClsIn K D = true) (e_dt : PySem.W.typeIn K (.ref D) = some (.type "type"))
    {C0 N0 : Addr} {nm0 qn0 : Str} {bs0 sub0 : List Value} {sn0 : List Str} {ab0 : Bool} {col0 : Option Bool} {dd0 : Option Addr} {u00 u10 u20 u30 u50 : Option Value} (en0 : PySem.W.nsIn K mainGlobals "WrongSize" = some (some (.ref C0))) (ex0 : K.lookup C0 = some (excClassObj nm0 qn0 C0 N0 bs0 [.ref D, .type "ValueError", .type "Exception", .type "BaseException", .type "object"] true sn0 sub0 ab0 col0 dd0 u00 u10 u20 u30 u50 "ValueError.__new__"))
    (esa0 : PySem.W.findIn K (.ref C0) "__setattr__" = some (some (.builtin "object.__setattr__"))) (ega0 : PySem.W.findIn K (.ref C0) "__getattribute__" = some (some (.builtin "BaseException.__getattribute__"))) (egg0 : PySem.W.findIn K (.ref C0) "__getattr__" = some none) (ecl0 : PySem.W.findIn K (.ref C0) "__class__" = some (some (.builtin "object.__class__"))) (ena0 : PySem.W.findIn K (.ref C0) "at" = some none) (ein0 : PySem.W.findIn K (.ref C0) "__init__" = some (some (.ref fI))) (ekc0 : PySem.W.keepIn K (.ref C0) = true) (etc0 : PySem.W.typeIn K (.ref C0) = some (.type "type")) (ehd0 : PySem.W.hasDictIn K C0 = true)
    {C1 N1 : Addr} {nm1 qn1 : Str} {bs1 sub1 : List Value} {sn1 : List Str} {ab1 : Bool} {col1 : Option Bool} {dd1 : Option Addr} {u01 u11 u21 u31 u51 : Option Value} (en1 : PySem.W.nsIn K mainGlobals "BadRow" = some (some (.ref C1))) (ex1 : K.lookup C1 = some (excClassObj nm1 qn1 C1 N1 bs1 [.ref D, .type "ValueError", .type "Exception", .type "BaseException", .type "object"] true sn1 sub1 ab1 col1 dd1 u01 u11 u21 u31 u51 "ValueError.__new__"))
    (esa1 : PySem.W.findIn K (.ref C1) "__setattr__" = some (some (.builtin "object.__setattr__"))) (ega1 : PySem.W.findIn K (.ref C1) "__getattribute__" = some (some (.builtin "BaseException.__getattribute__"))) (egg1 : PySem.W.findIn K (.ref C1) "__getattr__" = some none) (ecl1 : PySem.W.findIn K (.ref C1) "__class__" = some (some (.builtin "object.__class__"))) (ena1 : PySem.W.findIn K (.ref C1) "at" = some none) (ein1 : PySem.W.findIn K (.ref C1) "__init__" = some (some (.ref fI))) (ekc1 : PySem.W.keepIn K (.ref C1) = true) (etc1 : PySem.W.typeIn K (.ref C1) = some (.type "type")) (ehd1 : PySem.W.hasDictIn K C1 = true)
    {C2 N2 : Addr} {nm2 qn2 : Str} {bs2 sub2 : List Value} {sn2 : List Str} {ab2 : Bool} {col2 : Option Bool} {dd2 : Option Addr} {u02 u12 u22 u32 u52 : Option Value} (en2 : PySem.W.nsIn K mainGlobals "NotASet" = some (some (.ref C2))) (ex2 : K.lookup C2 = some (excClassObj nm2 qn2 C2 N2 bs2 [.ref D, .type "ValueError", .type "Exception", .type "BaseException", .type "object"] true sn2 sub2 ab2 col2 dd2 u02 u12 u22 u32 u52 "ValueError.__new__"))
    (esa2 : PySem.W.findIn K (.ref C2) "__setattr__" = some (some (.builtin "object.__setattr__"))) (ega2 : PySem.W.findIn K (.ref C2) "__getattribute__" = some (some (.builtin "BaseException.__getattribute__"))) (egg2 : PySem.W.findIn K (.ref C2) "__getattr__" = some none) (ecl2 : PySem.W.findIn K (.ref C2) "__class__" = some (some (.builtin "object.__class__"))) (ena2 : PySem.W.findIn K (.ref C2) "at" = some none) (ein2 : PySem.W.findIn K (.ref C2) "__init__" = some (some (.ref fI))) (ekc2 : PySem.W.keepIn K (.ref C2) = true) (etc2 : PySem.W.typeIn K (.ref C2) = some (.type "type")) (ehd2 : PySem.W.hasDictIn K C2 = true)
    (eN : (D :: [C0, C1, C2]).Nodup)
    : ∃ fd : FuncData, (∀ (s : Shared) (v : Value), BindsTo s fd ⟨[v], []⟩ [("script", v)]) ∧ ∀ base : Heap, K.In base → base.Ns mainGlobals mg → FnG l.prog w K mg base CX0 10 fa fd ["script"] (spR K .dd m_law) := by
  have e := hfa.symm.trans (PySem.W.mg_of X G a36)
  cases e
  have hF : Facts mg := ⟨PySem.W.mg_none_of X G z0, PySem.W.mg_none_of X G z1, PySem.W.mg_none_of X G z2, ⟨_, PySem.W.mg_of X G z3⟩, PySem.W.mg_none_of X G z4, PySem.W.mg_of X G z5, PySem.W.mg_none_of X G z6, PySem.W.mg_none_of X G z7, PySem.W.mg_none_of X G z8, PySem.W.mg_none_of X G z9, PySem.W.mg_none_of X G z10, PySem.W.mg_none_of X G z11, PySem.W.mg_none_of X G z12, PySem.W.mg_none_of X G z13, PySem.W.mg_none_of X G z14, PySem.W.mg_none_of X G z15⟩
  refine ⟨PySem.W.fnOf "law" "law" (defArgs st_law) (defBody st_law) (defScope st_law) .none kV36 dc36 pm36 an36 cd36 ct36, fun s v => .of_eq rfl, fun base _ _ => ?_⟩
  have hT : ErrT K mg D fI KS := errT_of (CS := [("WrongSize", C0), ("BadRow", C1), ("NotASet", C2)]) ⟨e_tf, e_any, e_gs, e_tk, e_dB, e_dc, e_dt⟩ (List.forall_mem_cons.mpr ⟨⟨PySem.W.mg_of X G en0, ⟨⟨_, _, _, _, _, _, _, _, _, _, _, _, _, _, ex0⟩, esa0, ega0, egg0, ecl0, ena0, ein0, ekc0, etc0, ehd0⟩⟩, (List.forall_mem_cons.mpr ⟨⟨PySem.W.mg_of X G en1, ⟨⟨_, _, _, _, _, _, _, _, _, _, _, _, _, _, ex1⟩, esa1, ega1, egg1, ecl1, ena1, ein1, ekc1, etc1, ehd1⟩⟩, (List.forall_mem_cons.mpr ⟨⟨PySem.W.mg_of X G en2, ⟨⟨_, _, _, _, _, _, _, _, _, _, _, _, _, _, ex2⟩, esa2, ega2, egg2, ecl2, ena2, ein2, ekc2, etc2, ehd2⟩⟩, fun p hp => by cases hp⟩)⟩)⟩) eN
  have hE : ErrK l.prog w K mg base KS := ⟨D, fI, _, hT, PySem.W.mg_of X G eD, ini_ok eI eIc ⟨⟨_, _, _, _, _, eI, rfl, rfl⟩, ⟨_, _, _, _, _, _, eC, eV, eF⟩, ⟨_, _, _, eL⟩, e_dc, eT⟩ (PySem.W.mg_none_of X G eS), fun s us _ h => match us, h with | [_, _], _ => .of_eq rfl⟩
  have F0 := fun_mk (st := st__law_draws) l0 c0 k0
  have hC__law_draws : Cal l.prog w K mg base CX0 1 "_law_draws" ["script"] (spR K .dd m__law_draws) := cal_of (ok__law_draws F0 hF ) F0 (PySem.W.mg_of X G a0) (F0.binds (ps := ["script"]) fun _ _ _ _ _ _ us hl => match us, hl with | [_], _ => rfl)
  have F1 := fun_mk (st := st__law_mix) l1 c1 k1
  have hC__law_mix : Cal l.prog w K mg base CX0 1 "_law_mix" ["draws", "k", "many"] (spD K .dd (g3 m__law_mix)) := cal_of (ok__law_mix F1 hF ) F1 (PySem.W.mg_of X G a1) (F1.binds (ps := ["draws", "k", "many"]) fun _ _ _ _ _ _ us hl => match us, hl with | [_, _, _], _ => rfl)
  have F2 := fun_mk (st := st__law_fault) l2 c2 k2
  have hC__law_fault : Cal l.prog w K mg base CX0 1 "_law_fault" ["table"] (spD K .dd (g1 m__law_fault)) := cal_of (ok__law_fault F2 hF ) F2 (PySem.W.mg_of X G a2) (F2.binds (ps := ["table"]) fun _ _ _ _ _ _ us hl => match us, hl with | [_], _ => rfl)
  have F3 := fun_mk (st := st_check_table) l3 c3 k3
  have hC_check_table : Cal l.prog w K mg base (L2N.CX l.prog w) 3 "check_table" ["table"] (spE K mg .dd (gX1 m_check_table)) := cal_ofX (ok_check_table F3 hF hE) F3 (PySem.W.mg_of X G a3) (F3.binds (ps := ["table"]) fun _ _ _ _ _ _ us hl => match us, hl with | [_], _ => rfl)
  have F4 := fun_mk (st := st_choices) l4 c4 k4
  have hC_choices : Cal l.prog w K mg base CX0 1 "choices" ["many", "size"] (spD K .dd (g2 m_choices)) := cal_of (ok_choices F4 hF ) F4 (PySem.W.mg_of X G a4) (F4.binds (ps := ["many", "size"]) fun _ _ _ _ _ _ us hl => match us, hl with | [_, _], _ => rfl)
  have F5 := fun_mk (st := st_measure_of) l5 c5 k5
  have hC_measure_of : Cal l.prog w K mg base CX0 6 "measure_of" ["rows"] (spD K .dd (g1 m_measure_of)) := cal_of (ok_measure_of F5 (PySem.W.mg_of X G a5) (F5.binds (ps := ["rows"]) fun _ _ _ _ _ _ us hl => match us, hl with | [_], _ => rfl) hF  6) F5 (PySem.W.mg_of X G a5) (F5.binds (ps := ["rows"]) fun _ _ _ _ _ _ us hl => match us, hl with | [_], _ => rfl)
  have F6 := fun_mk (st := st_square_at) l6 c6 k6
  have hC_square_at : Cal l.prog w K mg base CX0 1 "square_at" ["table", "rows", "columns"] (spD K .dd (g3 m_square_at)) := cal_of (ok_square_at F6 hF ) F6 (PySem.W.mg_of X G a6) (F6.binds (ps := ["table", "rows", "columns"]) fun _ _ _ _ _ _ us hl => match us, hl with | [_, _, _], _ => rfl)
  have F7 := fun_mk (st := st_bad_of) l7 c7 k7
  have hC_bad_of : Cal l.prog w K mg base CX0 7 "bad_of" ["table"] (spD K .dd (g1 m_bad_of)) := cal_of (ok_bad_of F7 hF hC_choices hC_measure_of hC_square_at) F7 (PySem.W.mg_of X G a7) (F7.binds (ps := ["table"]) fun _ _ _ _ _ _ us hl => match us, hl with | [_], _ => rfl)
  have F8 := fun_mk (st := st_is_sure) l8 c8 k8
  have hC_is_sure : Cal l.prog w K mg base (L2N.CX l.prog w) 8 "is_sure" ["table"] (spE K mg .dd (gX1 m_is_sure)) := cal_ofX (ok_is_sure F8 hF hE hC_check_table hC_bad_of) F8 (PySem.W.mg_of X G a8) (F8.binds (ps := ["table"]) fun _ _ _ _ _ _ us hl => match us, hl with | [_], _ => rfl)
  have F9 := fun_mk (st := st__law_word) l9 c9 k9
  have hW__law_word : CalW l.prog w K mg base 1 "_law_word" ["e"] m__law_word := calW_of F9 fs__law_word rfl (by decide) hT (PySem.W.mg_of X G a9) (fun X a dd er h1 h2 C => by subst h1 h2; exact bk__law_word C hF) (by exact k9) (F9.binds (ps := ["e"]) fun _ _ _ _ _ _ us hl => match us, hl with | [_], _ => rfl)
  have F10 := fun_mk (st := st_bad_square) l10 c10 k10
  have hC_bad_square : Cal l.prog w K mg base (L2N.CX l.prog w) 8 "bad_square" ["table"] (spE K mg .dd (gX1 m_bad_square)) := cal_ofX (ok_bad_square F10 hF hE hC_check_table hC_bad_of) F10 (PySem.W.mg_of X G a10) (F10.binds (ps := ["table"]) fun _ _ _ _ _ _ us hl => match us, hl with | [_], _ => rfl)
  have F11 := fun_mk (st := st_is_set) l11 c11 k11
  have hC_is_set : Cal l.prog w K mg base CX0 1 "is_set" ["told", "many"] (spD K .dd (g2 m_is_set)) := cal_of (ok_is_set F11 hF ) F11 (PySem.W.mg_of X G a11) (F11.binds (ps := ["told", "many"]) fun _ _ _ _ _ _ us hl => match us, hl with | [_, _], _ => rfl)
  have F12 := fun_mk (st := st_measure) l12 c12 k12
  have hC_measure : Cal l.prog w K mg base (L2N.CX l.prog w) 7 "measure" ["table", "rows", "columns"] (spE K mg .dd (gX3 m_measure)) := cal_ofX (ok_measure F12 hF hE hC_check_table hC_is_set hC_measure_of hC_square_at) F12 (PySem.W.mg_of X G a12) (F12.binds (ps := ["table", "rows", "columns"]) fun _ _ _ _ _ _ us hl => match us, hl with | [_, _, _], _ => rfl)
  have F13 := fun_mk (st := st_rows_from) l13 c13 k13
  have hC_rows_from : Cal l.prog w K mg base CX0 1 "rows_from" ["numbers", "size"] (spD K .dd (g2 m_rows_from)) := cal_of (ok_rows_from F13 hF ) F13 (PySem.W.mg_of X G a13) (F13.binds (ps := ["numbers", "size"]) fun _ _ _ _ _ _ us hl => match us, hl with | [_, _], _ => rfl)
  have F14 := fun_mk (st := st_parting_of) l14 c14 k14
  have hC_parting_of : Cal l.prog w K mg base CX0 2 "parting_of" ["table", "rows"] (spD K .dd (g2 m_parting_of)) := cal_of (ok_parting_of F14 hF hC_rows_from) F14 (PySem.W.mg_of X G a14) (F14.binds (ps := ["table", "rows"]) fun _ _ _ _ _ _ us hl => match us, hl with | [_, _], _ => rfl)
  have F15 := fun_mk (st := st_unparted) l15 c15 k15
  have hC_unparted : Cal l.prog w K mg base (L2N.CX l.prog w) 4 "unparted" ["table"] (spE K mg .dd (gX1 m_unparted)) := cal_ofX (ok_unparted F15 hF hE hC_check_table hC_choices hC_parting_of) F15 (PySem.W.mg_of X G a15) (F15.binds (ps := ["table"]) fun _ _ _ _ _ _ us hl => match us, hl with | [_], _ => rfl)
  have F16 := fun_mk (st := st_is_stretch) l16 c16 k16
  have hC_is_stretch : Cal l.prog w K mg base CX0 1 "is_stretch" ["row"] (spD K .dd (g1 m_is_stretch)) := cal_of (ok_is_stretch F16 hF ) F16 (PySem.W.mg_of X G a16) (F16.binds (ps := ["row"]) fun _ _ _ _ _ _ us hl => match us, hl with | [_], _ => rfl)
  have F17 := fun_mk (st := st_are_stretches) l17 c17 k17
  have hC_are_stretches : Cal l.prog w K mg base (L2N.CX l.prog w) 4 "are_stretches" ["table"] (spE K mg .dd (gX1 m_are_stretches)) := cal_ofX (ok_are_stretches F17 hF hE hC_check_table hC_is_stretch) F17 (PySem.W.mg_of X G a17) (F17.binds (ps := ["table"]) fun _ _ _ _ _ _ us hl => match us, hl with | [_], _ => rfl)
  have F18 := fun_mk (st := st_fits) l18 c18 k18
  have hC_fits : Cal l.prog w K mg base CX0 1 "fits" ["table", "told"] (spD K .dd (g2 m_fits)) := cal_of (ok_fits F18 hF ) F18 (PySem.W.mg_of X G a18) (F18.binds (ps := ["table", "told"]) fun _ _ _ _ _ _ us hl => match us, hl with | [_, _], _ => rfl)
  have F19 := fun_mk (st := st_sides) l19 c19 k19
  have hC_sides : Cal l.prog w K mg base (L2N.CX l.prog w) 4 "sides" ["table"] (spE K mg .dd (gX1 m_sides)) := cal_ofX (ok_sides F19 hF hE hC_check_table hC_rows_from hC_fits) F19 (PySem.W.mg_of X G a19) (F19.binds (ps := ["table"]) fun _ _ _ _ _ _ us hl => match us, hl with | [_], _ => rfl)
  have F20 := fun_mk (st := st_fraction) l20 c20 k20
  have hC_fraction : Cal l.prog w K mg base CX0 1 "fraction" ["number", "by"] (spD K .dd (g2 m_fraction)) := cal_of (ok_fraction F20 hF ) F20 (PySem.W.mg_of X G a20) (F20.binds (ps := ["number", "by"]) fun _ _ _ _ _ _ us hl => match us, hl with | [_, _], _ => rfl)
  have F21 := fun_mk (st := st_plus) l21 c21 k21
  have hC_plus : Cal l.prog w K mg base CX0 2 "plus" ["one", "two"] (spD K .dd (g2 m_plus)) := cal_of (ok_plus F21 hF hC_fraction) F21 (PySem.W.mg_of X G a21) (F21.binds (ps := ["one", "two"]) fun _ _ _ _ _ _ us hl => match us, hl with | [_, _], _ => rfl)
  have F22 := fun_mk (st := st_lifted) l22 c22 k22
  have hC_lifted : Cal l.prog w K mg base CX0 3 "lifted" ["told"] (spD K .dd (g1 m_lifted)) := cal_of (ok_lifted F22 hF hC_plus) F22 (PySem.W.mg_of X G a22) (F22.binds (ps := ["told"]) fun _ _ _ _ _ _ us hl => match us, hl with | [_], _ => rfl)
  have F23 := fun_mk (st := st_column_of) l23 c23 k23
  have hC_column_of : Cal l.prog w K mg base CX0 7 "column_of" ["table", "rows", "columns", "place"] (spD K .dd (g4 m_column_of)) := cal_of (ok_column_of F23 hF hC_measure_of hC_square_at hC_fraction) F23 (PySem.W.mg_of X G a23) (F23.binds (ps := ["table", "rows", "columns", "place"]) fun _ _ _ _ _ _ us hl => match us, hl with | [_, _, _, _], _ => rfl)
  have F24 := fun_mk (st := st_total) l24 c24 k24
  have hC_total : Cal l.prog w K mg base CX0 3 "total" ["told"] (spD K .dd (g1 m_total)) := cal_of (ok_total F24 hF hC_plus) F24 (PySem.W.mg_of X G a24) (F24.binds (ps := ["told"]) fun _ _ _ _ _ _ us hl => match us, hl with | [_], _ => rfl)
  have F25 := fun_mk (st := st_times) l25 c25 k25
  have hC_times : Cal l.prog w K mg base CX0 2 "times" ["one", "two"] (spD K .dd (g2 m_times)) := cal_of (ok_times F25 hF hC_fraction) F25 (PySem.W.mg_of X G a25) (F25.binds (ps := ["one", "two"]) fun _ _ _ _ _ _ us hl => match us, hl with | [_, _], _ => rfl)
  have F26 := fun_mk (st := st_sum_of) l26 c26 k26
  have hC_sum_of : Cal l.prog w K mg base CX0 4 "sum_of" ["row", "told"] (spD K .dd (g2 m_sum_of)) := cal_of (ok_sum_of F26 hF hC_total hC_times) F26 (PySem.W.mg_of X G a26) (F26.binds (ps := ["row", "told"]) fun _ _ _ _ _ _ us hl => match us, hl with | [_, _], _ => rfl)
  have F27 := fun_mk (st := st_broken) l27 c27 k27
  have hC_broken : Cal l.prog w K mg base (L2N.CX l.prog w) 8 "broken" ["table"] (spE K mg .dd (gX1 m_broken)) := cal_ofX (ok_broken F27 hF hE hC_check_table hC_bad_of hC_column_of hC_lifted hC_sum_of) F27 (PySem.W.mg_of X G a27) (F27.binds (ps := ["table"]) fun _ _ _ _ _ _ us hl => match us, hl with | [_], _ => rfl)
  have F28 := fun_mk (st := st_is_less) l28 c28 k28
  have hC_is_less : Cal l.prog w K mg base CX0 1 "is_less" ["one", "two"] (spD K .dd (g2 m_is_less)) := cal_of (ok_is_less F28 hF ) F28 (PySem.W.mg_of X G a28) (F28.binds (ps := ["one", "two"]) fun _ _ _ _ _ _ us hl => match us, hl with | [_, _], _ => rfl)
  have F29 := fun_mk (st := st_over) l29 c29 k29
  have hC_over : Cal l.prog w K mg base CX0 2 "over" ["one", "two"] (spD K .dd (g2 m_over)) := cal_of (ok_over F29 hF hC_fraction) F29 (PySem.W.mg_of X G a29) (F29.binds (ps := ["one", "two"]) fun _ _ _ _ _ _ us hl => match us, hl with | [_, _], _ => rfl)
  have F30 := fun_mk (st := st_minus) l30 c30 k30
  have hC_minus : Cal l.prog w K mg base CX0 2 "minus" ["one", "two"] (spD K .dd (g2 m_minus)) := cal_of (ok_minus F30 hF hC_fraction) F30 (PySem.W.mg_of X G a30) (F30.binds (ps := ["one", "two"]) fun _ _ _ _ _ _ us hl => match us, hl with | [_, _], _ => rfl)
  have F31 := fun_mk (st := st_rank_of) l31 c31 k31
  have hC_rank_of : Cal l.prog w K mg base CX0 3 "rank_of" ["rows"] (spD K .dd (g1 m_rank_of)) := cal_of (ok_rank_of F31 hF hC_over hC_minus hC_times) F31 (PySem.W.mg_of X G a31) (F31.binds (ps := ["rows"]) fun _ _ _ _ _ _ us hl => match us, hl with | [_], _ => rfl)
  have F32 := fun_mk (st := st_is_fraction) l32 c32 k32
  have hC_is_fraction : Cal l.prog w K mg base CX0 1 "is_fraction" ["told"] (spD K .dd (g1 m_is_fraction)) := cal_of (ok_is_fraction F32 hF ) F32 (PySem.W.mg_of X G a32) (F32.binds (ps := ["told"]) fun _ _ _ _ _ _ us hl => match us, hl with | [_], _ => rfl)
  have F33 := fun_mk (st := st_is_broken) l33 c33 k33
  have hC_is_broken : Cal l.prog w K mg base (L2N.CX l.prog w) 5 "is_broken" ["table", "limits", "told"] (spE K mg .dd (gX3 m_is_broken)) := cal_ofX (ok_is_broken F33 hF hE hC_check_table hC_is_fraction hC_is_less hC_sum_of hC_rank_of) F33 (PySem.W.mg_of X G a33) (F33.binds (ps := ["table", "limits", "told"]) fun _ _ _ _ _ _ us hl => match us, hl with | [_, _, _], _ => rfl)
  have F34 := fun_mk (st := st_partings) l34 c34 k34
  have hC_partings : Cal l.prog w K mg base (L2N.CX l.prog w) 4 "partings" ["table", "rows"] (spE K mg .dd (gX2 m_partings)) := cal_ofX (ok_partings F34 hF hE hC_check_table hC_parting_of) F34 (PySem.W.mg_of X G a34) (F34.binds (ps := ["table", "rows"]) fun _ _ _ _ _ _ us hl => match us, hl with | [_, _], _ => rfl)
  have F35 := fun_mk (st := st__law_of) l35 c35 k35
  have hC__law_of : Cal l.prog w K mg base CX0 9 "_law_of" ["way", "table", "rows"] (spD K .dd (g3 m__law_of)) := cal_of (ok__law_of F35 hF hE hW__law_word hC_is_sure hC_bad_square hC_measure hC_unparted hC_are_stretches hC_sides hC_broken hC_is_broken hC_partings) F35 (PySem.W.mg_of X G a35) (F35.binds (ps := ["way", "table", "rows"]) fun _ _ _ _ _ _ us hl => match us, hl with | [_, _, _], _ => rfl)
  have F36 := fun_mk (st := st_law) l36 c36 k36
  exact ok_law F36 hF hC__law_draws hC__law_mix hC__law_fault hC__law_of
end Lay.K42

set_option Elab.async false
set_option linter.all false
set_option maxRecDepth 100000
namespace Lay.K42
open PySem PySem.Spec PyProof.Rows L2 Lay
open Lay.Enc (enc)
def DB (ds : List Int) : Prop := (∀ d, d ∈ ds → 0 ≤ d ∧ d < 65536) ∧ ds.length ≤ 3780
theorem draws_ok (ns : List Int) (h : ns.length ≤ 63) : Ok (m__law_draws ns) DB := by
  unfold m__law_draws b__law_draws
  have e3 : powG 10 18 = some 1000000000000000000 := by decide
  (try simp only [ok_some, ok_none, ok_bind, ok_lift1, ok_lift2, ok_lift3, ok_lift4, ok_bind2, ok_app1, ok_app2, ok_app3, ok_app4, ok_bif, ok_andG, ok_orG, ok_chain, ok_bindOut, bo_nx, bo_rt, bo_bk, bo_ct, ok_finO, fo_nx, fo_rt, nx_nx, nx_rt, ok_mul, ok_mod, ok_div, ok_appG, ok_szG, ok_catG, decide_eq_true_eq, decide_eq_false_iff_not, Bool.not_eq_true', Bool.not_eq_false', cLe, cLt, reduceCtorEq, false_implies, true_implies, implies_true, and_true, true_and])
  refine ⟨by simp, ok_rng1 (by split <;> omega) (by split <;> omega) (ok_for (fun i s => (∀ d, d ∈ s → 0 ≤ d ∧ d < 65536) ∧ s.length ≤ 60 * i) ⟨by simp, by simp⟩ (fun i s y hy hI => ?_) fun s hI => ?_)⟩
  · obtain ⟨hi, rfl⟩ := rng_get hy
    have hin : i < ns.length ∧ i < 63 := by split at hi <;> omega
    obtain ⟨hI1, hI2⟩ := hI
    (try simp only [ok_some, ok_none, ok_bind, ok_lift1, ok_lift2, ok_lift3, ok_lift4, ok_bind2, ok_app1, ok_app2, ok_app3, ok_app4, ok_bif, ok_andG, ok_orG, ok_chain, ok_bindOut, bo_nx, bo_rt, bo_bk, bo_ct, ok_finO, fo_nx, fo_rt, nx_nx, nx_rt, ok_mul, ok_mod, ok_div, ok_appG, ok_szG, ok_catG, decide_eq_true_eq, decide_eq_false_iff_not, Bool.not_eq_true', Bool.not_eq_false', cLe, cLt, reduceCtorEq, false_implies, true_implies, implies_true, and_true, true_and])
    refine ok_atI (by omega) (by omega) fun x hx _ => ?_
    have hr : 0 ≤ (if x < 0 then -x else x) := by split <;> omega
    generalize (if x < 0 then -x else x) = r at hr ⊢
    refine ok_of e3 ?_
    refine ⟨fun h1 => ?_, fun h1 => ?_⟩
    · refine ok_rng1 (by decide) (by decide) (ok_for (fun j s' => (∀ d, d ∈ s'.1 → 0 ≤ d ∧ d < 65536) ∧ s'.1.length ≤ 60 * i + j ∧ 0 ≤ s'.2) ⟨hI1, by simpa using hI2, hr⟩ (fun j s' z hz hJ => ?_) fun s' hJ => ?_)
      · obtain ⟨hj, rfl⟩ := rng_get hz
        obtain ⟨hJ1, hJ2, hJ3⟩ := hJ
        have hj : j < 60 := hj
        (try simp only [ok_some, ok_none, ok_bind, ok_lift1, ok_lift2, ok_lift3, ok_lift4, ok_bind2, ok_app1, ok_app2, ok_app3, ok_app4, ok_bif, ok_andG, ok_orG, ok_chain, ok_bindOut, bo_nx, bo_rt, bo_bk, bo_ct, ok_finO, fo_nx, fo_rt, nx_nx, nx_rt, ok_mul, ok_mod, ok_div, ok_appG, ok_szG, ok_catG, decide_eq_true_eq, decide_eq_false_iff_not, Bool.not_eq_true', Bool.not_eq_false', cLe, cLt, reduceCtorEq, false_implies, true_implies, implies_true, and_true, true_and])
        refine ⟨fun h2 => ⟨by decide, by omega, divOk (by decide) (by decide), ?_, ?_, ?_⟩, fun h2 => ⟨hJ1, by omega, hJ3⟩⟩
        · intro d hd
          rw [List.mem_append, List.mem_singleton] at hd
          rcases hd with hd | hd
          · exact hJ1 d hd
          · subst hd; omega
        · simp only [List.length_append, List.length_singleton]; omega
        · exact Int.ediv_nonneg hJ3 (by decide)
      · (try simp only [ok_some, ok_none, ok_bind, ok_lift1, ok_lift2, ok_lift3, ok_lift4, ok_bind2, ok_app1, ok_app2, ok_app3, ok_app4, ok_bif, ok_andG, ok_orG, ok_chain, ok_bindOut, bo_nx, bo_rt, bo_bk, bo_ct, ok_finO, fo_nx, fo_rt, nx_nx, nx_rt, ok_mul, ok_mod, ok_div, ok_appG, ok_szG, ok_catG, decide_eq_true_eq, decide_eq_false_iff_not, Bool.not_eq_true', Bool.not_eq_false', cLe, cLt, reduceCtorEq, false_implies, true_implies, implies_true, and_true, true_and])
        refine ⟨hJ.1, ?_⟩
        have := hJ.2.1
        simp only [rng_len] at this
        have e : (60 : Int).toNat = 60 := rfl
        omega
    · refine ⟨mulOk (by omega) (by decide), mulOk (by omega) (by decide), by decide, ?_⟩
      generalize hm : (r * 48271 + (0 + ↑i + 1) * 69621) % 2147483647 = m1
      have hm1 : 0 ≤ m1 ∧ m1 < 2147483647 := by omega
      refine ⟨mulOk (by omega) (by decide), mulOk (by decide) (by omega), by decide, by decide, ?_⟩
      generalize (m1 * 16807 + 11 * (0 + ↑i) + 5) % 2147483629 = m2
      refine ⟨by omega, divOk (by decide) (by decide), by decide, by simp only [List.length_append, List.length_singleton]; omega, ?_, ?_⟩
      · intro d hd
        simp only [List.mem_append, List.mem_singleton] at hd
        rcases hd with (hd | hd) | hd
        · exact hI1 d hd
        · subst hd; omega
        · subst hd; omega
      · simp only [List.length_append, List.length_singleton]; omega
  · (try simp only [ok_some, ok_none, ok_bind, ok_lift1, ok_lift2, ok_lift3, ok_lift4, ok_bind2, ok_app1, ok_app2, ok_app3, ok_app4, ok_bif, ok_andG, ok_orG, ok_chain, ok_bindOut, bo_nx, bo_rt, bo_bk, bo_ct, ok_finO, fo_nx, fo_rt, nx_nx, nx_rt, ok_mul, ok_mod, ok_div, ok_appG, ok_szG, ok_catG, decide_eq_true_eq, decide_eq_false_iff_not, Bool.not_eq_true', Bool.not_eq_false', cLe, cLt, reduceCtorEq, false_implies, true_implies, implies_true, and_true, true_and])
    refine ⟨hI.1, ?_⟩
    have := hI.2
    simp only [rng_len] at this
    have : (if (ns.length : Int) < 63 then (ns.length : Int) else 63).toNat ≤ 63 := by split <;> omega
    omega
theorem mix_ok {ds : List Int} {k many : Int} (h : DB ds) (hk : 0 ≤ k) (hk2 : k < 2 ^ 40) (hm : 0 < many) : Ok (m__law_mix ds k many) fun r => 0 ≤ r ∧ r < many := by
  unfold m__law_mix b__law_mix
  have key : ∀ c : Int, 0 ≤ c → c < 65536 → (k < ds.length → 0 < many ∧ 0 ≤ c % many ∧ c % many < many) ∧ (¬ k < ds.length → MulOk c 7919 ∧ MulOk k 104729 ∧ DivOk 3 ∧ 0 < many ∧ 0 ≤ (c * 7919 + k * 104729) / 3 % many ∧ (c * 7919 + k * 104729) / 3 % many < many) := by
    intro c h1 h2
    exact ⟨fun _ => ⟨hm, Int.emod_nonneg _ (by omega), Int.emod_lt_of_pos _ hm⟩, fun _ => ⟨mulOk (by omega) (by decide), mulOk (by omega) (by decide), divOk (by decide) (by decide), hm, Int.emod_nonneg _ (by omega), Int.emod_lt_of_pos _ hm⟩⟩
  (try simp only [ok_some, ok_none, ok_bind, ok_lift1, ok_lift2, ok_lift3, ok_lift4, ok_bind2, ok_app1, ok_app2, ok_app3, ok_app4, ok_bif, ok_andG, ok_orG, ok_chain, ok_bindOut, bo_nx, bo_rt, bo_bk, bo_ct, ok_finO, fo_nx, fo_rt, nx_nx, nx_rt, ok_mul, ok_mod, ok_div, ok_appG, ok_szG, ok_catG, decide_eq_true_eq, decide_eq_false_iff_not, Bool.not_eq_true', Bool.not_eq_false', cLe, cLt, reduceCtorEq, false_implies, true_implies, implies_true, and_true, true_and])
  refine ⟨fun h0 => ⟨h0, ok_atI (Int.emod_nonneg _ (by omega)) (Int.emod_lt_of_pos _ h0) fun x hx hm => ?_⟩, fun h0 => ?_⟩
  · exact key x (h.1 x hm).1 (h.1 x hm).2
  · exact key 0 (by decide) (by decide)

abbrev Tab := List (List Int)
/-- a table -/
structure TK (t : Tab) : Prop where
  l1 : 1 ≤ t.length
  l2 : t.length ≤ 5
  w1 : 1 ≤ (t.getD 0 []).length
  w2 : (t.getD 0 []).length ≤ 5
  w : ∀ r, r ∈ t → r.length = (t.getD 0 []).length
  v : ∀ r, r ∈ t → ∀ x, x ∈ r → -1 ≤ x ∧ x ≤ 1
abbrev wd_ (t : Tab) : Nat := (t.getD 0 []).length
def el (t : Tab) (i j : Int) : Int := (t.getD i.toNat []).getD j.toNat 0
theorem row_at {t : Tab} {i : Int} (h0 : 0 ≤ i) (h : i < t.length) : atI t i = some (t.getD i.toNat []) := by
  rw [atI_eq h0 h]
  have : i.toNat < t.length := by omega
  simp [List.getD, List.getElem?_eq_getElem this]
theorem row_mem {t : Tab} {i : Int} (h0 : 0 ≤ i) (h : i < t.length) : t.getD i.toNat [] ∈ t := by
  have : i.toNat < t.length := by omega
  simp [List.getD, List.getElem?_eq_getElem this]
theorem getD_at {r : List Int} {j : Int} (j0 : 0 ≤ j) (j1 : j < r.length) : atI r j = some (r.getD j.toNat 0) ∧ r.getD j.toNat 0 ∈ r := by
  have h : j.toNat < r.length := by omega
  rw [atI_eq j0 j1, List.getElem?_eq_getElem h]
  simp [List.getD, List.getElem?_eq_getElem h]
theorem el_at {t : Tab} (k : TK t) {i j : Int} (i0 : 0 ≤ i) (i1 : i < t.length) (j0 : 0 ≤ j) (j1 : j < wd_ t) : (bind2 atI (bind2 atI (some t) (some i)) (some j)) = some (el t i j) := by
  show bind2 atI (atI t i) (some j) = _
  rw [row_at i0 i1]
  have hl := k.w _ (row_mem i0 i1)
  exact (getD_at j0 (by rw [hl]; exact j1)).1
theorem el_b {t : Tab} (k : TK t) {i j : Int} (i0 : 0 ≤ i) (i1 : i < t.length) (j0 : 0 ≤ j) (j1 : j < wd_ t) : -1 ≤ el t i j ∧ el t i j ≤ 1 := by
  have hl := k.w _ (row_mem i0 i1)
  exact k.v _ (row_mem i0 i1) _ (getD_at j0 (by rw [hl]; exact j1)).2
/-! ### the first fault -/
def badRow (t : Tab) (r : List Int) : Bool := !(decide (1 ≤ (r.length : Int)) && decide ((r.length : Int) ≤ 5)) || (!decide ((r.length : Int) = (t.getD 0 []).length) || !(r.all fun x => decide (-1 ≤ x) && decide (x ≤ 1)))
def chk (t : Tab) : Option Er :=
  if ¬ ((1 : Int) ≤ t.length ∧ (t.length : Int) ≤ 5) then some ⟨"WrongSize", t.length⟩
  else (((rngL 0 t.length).filter fun k => badRow t (t.getD k.toNat [])).head?).map fun k => ⟨"BadRow", k⟩
theorem chk_none {t : Tab} (h : chk t = none) : TK t := by
  unfold chk at h
  split at h
  · cases h
  · rename_i h1
    have h1 := Decidable.not_not.mp h1
    have h2 : ((rngL 0 t.length).filter fun k => badRow t (t.getD k.toNat [])) = [] := by
      cases c : ((rngL 0 t.length).filter fun k => badRow t (t.getD k.toNat [])) with
      | nil => rfl
      | cons x r => rw [c] at h; cases h
    rw [List.filter_eq_nil_iff] at h2
    have key : ∀ r, r ∈ t → badRow t r = false := fun r hr => by
      obtain ⟨i, hi, rfl⟩ := List.getElem_of_mem hr
      have := h2 (i : Int) (mem_rng.mpr ⟨by omega, by omega⟩)
      simpa [List.getD, List.getElem?_eq_getElem hi] using this
    have good : ∀ r, r ∈ t → (1 ≤ r.length ∧ r.length ≤ 5) ∧ r.length = (t.getD 0 []).length ∧ ∀ x, x ∈ r → -1 ≤ x ∧ x ≤ 1 := fun r hr => by
      have := key r hr
      unfold badRow at this
      simp only [Bool.or_eq_false_iff, Bool.not_eq_false', Bool.and_eq_true, decide_eq_true_eq, List.all_eq_true] at this
      obtain ⟨⟨a, b⟩, c, d⟩ := this
      exact ⟨⟨by omega, by omega⟩, by omega, fun x hx => d x hx⟩
    have h0 : t.getD 0 [] ∈ t := by
      have : 0 < t.length := by omega
      simp [List.getD, List.getElem?_eq_getElem this]
    have g0 := good _ h0
    exact ⟨by omega, by omega, g0.1.1, g0.1.2, fun r hr => (good r hr).2.1, fun r hr => (good r hr).2.2⟩
theorem row0 {t : Tab} (h : 1 ≤ t.length) : atI t 0 = some (t.getD 0 []) := row_at (i := 0) (by omega) (by omega)
theorem check_table_eq {t : Tab} : Rz (m_check_table t) (chk t) := by
  unfold m_check_table b_check_table
  refine rz_fin ?_
  (try simp only [ok_some, ok_none, ok_bind, ok_lift1, ok_lift2, ok_lift3, ok_lift4, ok_bind2, ok_app1, ok_app2, ok_app3, ok_app4, ok_bif, ok_andG, ok_orG, ok_chain, ok_bindOut, bo_nx, bo_rt, bo_bk, bo_ct, ok_finO, fo_nx, fo_rt, nx_nx, nx_rt, ok_mul, ok_mod, ok_div, ok_appG, ok_szG, ok_catG, decide_eq_true_eq, decide_eq_false_iff_not, Bool.not_eq_true', Bool.not_eq_false', cLe, cLt, reduceCtorEq, false_implies, true_implies, implies_true, and_true, true_and, bo_er, fx_er, fx_rt, fx_nx, er_inl, er_inr, ok_app6, ok_lift5])
  refine ⟨fun h1 => ⟨fun h2 => ?_, fun h2 => ?_⟩, fun h1 => ?_⟩
  · rw [chk, if_pos (by omega)]
  · have fe := find_enum [] t (fun _ r => badRow t r) "BadRow"
    rw [chk, if_neg (by omega), ← fe]
    refine ok_forE (fun y => if badRow t y.b = true then some ⟨"BadRow", y.a⟩ else none) (fun y hy => ?_) (fun e he => ?_) (fun hn => ?_)
    · have e : (orG (lift1 (fun x => !x) (chainG cLe cLe (some (1 : Int)) (lift1 (fun l => (l.length : Int)) (some y.b)) (some (5 : Int)))) (orG (lift2 (fun i j => !decide (i = j)) (lift1 (fun l => (l.length : Int)) (some y.b)) (lift1 (fun l => (l.length : Int)) (bind2 atI (some t) (some (0 : Int))))) (lift1 (fun x => !x) (lift1 (fun l => l.all id) (Option.bind (some y.b) (lcL (fun (x4 : Int) => (some true)) (fun (x4 : Int) => (chainG cLe cLe (lift1 (fun i => -i) (some (1 : Int))) (some x4) (some (1 : Int)))))))))) = some (badRow t y.b) := by
        rw [ok_iff]
        unfold badRow
        (try simp only [ok_some, ok_none, ok_bind, ok_lift1, ok_lift2, ok_lift3, ok_lift4, ok_bind2, ok_app1, ok_app2, ok_app3, ok_app4, ok_bif, ok_andG, ok_orG, ok_chain, ok_bindOut, bo_nx, bo_rt, bo_bk, bo_ct, ok_finO, fo_nx, fo_rt, nx_nx, nx_rt, ok_mul, ok_mod, ok_div, ok_appG, ok_szG, ok_catG, decide_eq_true_eq, decide_eq_false_iff_not, Bool.not_eq_true', Bool.not_eq_false', cLe, cLt, reduceCtorEq, false_implies, true_implies, implies_true, and_true, true_and])
        rw [row0 (by omega)]
        (try simp only [ok_some, ok_none, ok_bind, ok_lift1, ok_lift2, ok_lift3, ok_lift4, ok_bind2, ok_app1, ok_app2, ok_app3, ok_app4, ok_bif, ok_andG, ok_orG, ok_chain, ok_bindOut, bo_nx, bo_rt, bo_bk, bo_ct, ok_finO, fo_nx, fo_rt, nx_nx, nx_rt, ok_mul, ok_mod, ok_div, ok_appG, ok_szG, ok_catG, decide_eq_true_eq, decide_eq_false_iff_not, Bool.not_eq_true', Bool.not_eq_false', cLe, cLt, reduceCtorEq, false_implies, true_implies, implies_true, and_true, true_and])
        refine ⟨fun a => ⟨fun b => by simp [b], fun b => ⟨fun c => by rw [decide_eq_false c]; simp, fun c => ok_map (fun x => decide (-1 ≤ x) && decide (x ≤ 1)) (fun x _ => ?_) ?_⟩⟩, fun a => by simp [a]⟩
        · show (bif decide (-1 ≤ x) then some (decide (x ≤ 1)) else some false) = _
          cases decide (-1 ≤ x) <;> rfl
        · rw [List.all_map, decide_eq_true a, decide_eq_true b, decide_eq_true c]
          rfl
      rw [ok_iff]
      refine ok_set e ?_
      cases c : badRow t y.b <;> exact ⟨_, rfl, rfl⟩
    · (try simp only [ok_some, ok_none, ok_bind, ok_lift1, ok_lift2, ok_lift3, ok_lift4, ok_bind2, ok_app1, ok_app2, ok_app3, ok_app4, ok_bif, ok_andG, ok_orG, ok_chain, ok_bindOut, bo_nx, bo_rt, bo_bk, bo_ct, ok_finO, fo_nx, fo_rt, nx_nx, nx_rt, ok_mul, ok_mod, ok_div, ok_appG, ok_szG, ok_catG, decide_eq_true_eq, decide_eq_false_iff_not, Bool.not_eq_true', Bool.not_eq_false', cLe, cLt, reduceCtorEq, false_implies, true_implies, implies_true, and_true, true_and, bo_er, fx_er, fx_rt, fx_nx, er_inl, er_inr, ok_app6, ok_lift5])
      exact he.symm
    · (try simp only [ok_some, ok_none, ok_bind, ok_lift1, ok_lift2, ok_lift3, ok_lift4, ok_bind2, ok_app1, ok_app2, ok_app3, ok_app4, ok_bif, ok_andG, ok_orG, ok_chain, ok_bindOut, bo_nx, bo_rt, bo_bk, bo_ct, ok_finO, fo_nx, fo_rt, nx_nx, nx_rt, ok_mul, ok_mod, ok_div, ok_appG, ok_szG, ok_catG, decide_eq_true_eq, decide_eq_false_iff_not, Bool.not_eq_true', Bool.not_eq_false', cLe, cLt, reduceCtorEq, false_implies, true_implies, implies_true, and_true, true_and, bo_er, fx_er, fx_rt, fx_nx, er_inl, er_inr, ok_app6, ok_lift5])
      exact hn.symm
  · rw [chk, if_pos (by omega)]
/-! ### lists of places -/
def stepC (size : Int) (f : List (List Int)) (k : Int) : List (List Int) := f ++ (f.filter fun t => decide ((t.length : Int) < size)).map (· ++ [k])
def preC (many : Nat) (size : Int) : List (List Int) := (rngL 0 many).foldl (stepC size) [[]]
def chC (many : Nat) (size : Int) : List (List Int) := ((preC many size).filter fun t => decide ((t.length : Int) = size)).mergeSort leD
theorem sub_one {l : List Int} {k : Int} (h : l.Sublist [k]) : l = [] ∨ l = [k] := by
  cases h with
  | cons _ h => exact .inl (List.eq_nil_of_sublist_nil h)
  | cons_cons _ h => exact .inr (by rw [List.eq_nil_of_sublist_nil h])
theorem preC_mem (size : Int) (hs : 0 ≤ size) : ∀ (n : Nat) (l : List Int), l.length = n → (l.foldl (stepC size) [[]]).length ≤ 2 ^ n ∧ ∀ t, t ∈ l.foldl (stepC size) [[]] ↔ t.Sublist l ∧ (t.length : Int) ≤ size := by
  intro n
  induction n with
  | zero =>
    intro l hl
    have : l = [] := List.eq_nil_of_length_eq_zero hl
    subst this
    refine ⟨by simp, fun t => ?_⟩
    simp only [List.foldl_nil, List.mem_singleton]
    constructor
    · rintro rfl; exact ⟨List.Sublist.slnil, by simpa using hs⟩
    · rintro ⟨h, _⟩; exact List.eq_nil_of_sublist_nil h
  | succ n ih =>
    intro l hl
    have hne : l ≠ [] := by intro c; subst c; simp at hl
    obtain ⟨h1, h2⟩ := ih l.dropLast (by rw [List.length_dropLast]; omega)
    rw [← List.dropLast_concat_getLast hne, List.foldl_append]
    generalize l.dropLast = m at *
    generalize l.getLast hne = k at *
    show (stepC size (m.foldl (stepC size) [[]]) k).length ≤ _ ∧ ∀ t, t ∈ stepC size (m.foldl (stepC size) [[]]) k ↔ _
    generalize m.foldl (stepC size) [[]] = f at *
    refine ⟨?_, fun t => ?_⟩
    · unfold stepC
      rw [List.length_append, List.length_map, Nat.pow_succ]
      have := List.length_filter_le (fun t : List Int => decide ((t.length : Int) < size)) f
      omega
    · unfold stepC
      rw [List.mem_append, List.mem_map, h2]
      constructor
      · rintro (⟨a, b⟩ | ⟨u, hu, rfl⟩)
        · exact ⟨a.trans (List.sublist_append_left _ _), b⟩
        · obtain ⟨hu, hl⟩ := List.mem_filter.mp hu
          have hl := of_decide_eq_true hl
          exact ⟨((h2 u).mp hu).1.append (List.Sublist.refl _), by simp; omega⟩
      · rintro ⟨a, b⟩
        obtain ⟨t1, t2, rfl, s1, s2⟩ := List.sublist_append_iff.mp a
        rcases sub_one s2 with rfl | rfl
        · left; rw [List.append_nil] at b ⊢; exact ⟨s1, b⟩
        · right
          rw [List.length_append, List.length_singleton] at b
          exact ⟨t1, List.mem_filter.mpr ⟨(h2 t1).mpr ⟨s1, by omega⟩, decide_eq_true (by omega)⟩, rfl⟩
theorem chC_mem {many : Nat} {size : Int} (hs : 0 ≤ size) {t : List Int} : t ∈ chC many size ↔ t.Sublist (rngL 0 many) ∧ (t.length : Int) = size := by
  unfold chC
  rw [List.mem_mergeSort, List.mem_filter]
  unfold preC
  rw [(preC_mem size hs _ (rngL 0 many) rfl).2]
  constructor
  · rintro ⟨⟨a, _⟩, b⟩; exact ⟨a, of_decide_eq_true b⟩
  · rintro ⟨a, b⟩; exact ⟨⟨a, by omega⟩, decide_eq_true b⟩
theorem chC_len {many : Nat} (h : many ≤ 5) (size : Int) (hs : 0 ≤ size) : (chC many size).length ≤ 32 := by
  unfold chC
  rw [List.length_mergeSort]
  have h1 := List.length_filter_le (fun t : List Int => decide ((t.length : Int) = size)) (preC many size)
  have h2 := (preC_mem size hs _ (rngL 0 many) rfl).1
  rw [rng_len] at h2
  have h3 : 2 ^ many ≤ 2 ^ 5 := Nat.pow_le_pow_right (by decide) h
  unfold preC at h1 ⊢
  omega
theorem choices_eq {many : Nat} {size : Int} (h : many ≤ 5) (h0 : 0 ≤ size) (h5 : size ≤ 5) : m_choices many size = some (chC many size) := by
  rw [ok_iff]
  unfold m_choices b_choices
  (try simp only [ok_some, ok_none, ok_bind, ok_lift1, ok_lift2, ok_lift3, ok_lift4, ok_bind2, ok_app1, ok_app2, ok_app3, ok_app4, ok_bif, ok_andG, ok_orG, ok_chain, ok_bindOut, bo_nx, bo_rt, bo_bk, bo_ct, ok_finO, fo_nx, fo_rt, nx_nx, nx_rt, ok_mul, ok_mod, ok_div, ok_appG, ok_szG, ok_catG, decide_eq_true_eq, decide_eq_false_iff_not, Bool.not_eq_true', Bool.not_eq_false', cLe, cLt, reduceCtorEq, false_implies, true_implies, implies_true, and_true, true_and])
  refine ⟨by simp, by simp, ok_rng1 (by omega) (by omega) (ok_for (fun i f => f = ((rngL 0 many).take i).foldl (stepC size) [[]]) rfl (fun i f x hx hf => ?_) fun f hf => ?_)⟩
  · subst hf
    have hb := preC_mem size h0 _ ((rngL 0 many).take i) rfl
    have hl : ((rngL 0 many).take i).length ≤ 5 := by rw [List.length_take, rng_len]; omega
    have h3 : 2 ^ ((rngL 0 many).take i).length ≤ 2 ^ 5 := Nat.pow_le_pow_right (by decide) hl
    (try simp only [ok_some, ok_none, ok_bind, ok_lift1, ok_lift2, ok_lift3, ok_lift4, ok_bind2, ok_app1, ok_app2, ok_app3, ok_app4, ok_bif, ok_andG, ok_orG, ok_chain, ok_bindOut, bo_nx, bo_rt, bo_bk, bo_ct, ok_finO, fo_nx, fo_rt, nx_nx, nx_rt, ok_mul, ok_mod, ok_div, ok_appG, ok_szG, ok_catG, decide_eq_true_eq, decide_eq_false_iff_not, Bool.not_eq_true', Bool.not_eq_false', cLe, cLt, reduceCtorEq, false_implies, true_implies, implies_true, and_true, true_and])
    refine ok_lc (fun t => decide ((t.length : Int) < size)) (· ++ [x]) (fun t _ => rfl) (fun t ht _ => ?_) ?_
    · rw [ok_iff]
      (try simp only [ok_some, ok_none, ok_bind, ok_lift1, ok_lift2, ok_lift3, ok_lift4, ok_bind2, ok_app1, ok_app2, ok_app3, ok_app4, ok_bif, ok_andG, ok_orG, ok_chain, ok_bindOut, bo_nx, bo_rt, bo_bk, bo_ct, ok_finO, fo_nx, fo_rt, nx_nx, nx_rt, ok_mul, ok_mod, ok_div, ok_appG, ok_szG, ok_catG, decide_eq_true_eq, decide_eq_false_iff_not, Bool.not_eq_true', Bool.not_eq_false', cLe, cLt, reduceCtorEq, false_implies, true_implies, implies_true, and_true, true_and])
      have := ((hb.2 t).mp ht).1.length_le
      simp; omega
    · have := List.length_filter_le (fun t : List Int => decide ((t.length : Int) < size)) (((rngL 0 many).take i).foldl (stepC size) [[]])
      (try simp only [ok_some, ok_none, ok_bind, ok_lift1, ok_lift2, ok_lift3, ok_lift4, ok_bind2, ok_app1, ok_app2, ok_app3, ok_app4, ok_bif, ok_andG, ok_orG, ok_chain, ok_bindOut, bo_nx, bo_rt, bo_bk, bo_ct, ok_finO, fo_nx, fo_rt, nx_nx, nx_rt, ok_mul, ok_mod, ok_div, ok_appG, ok_szG, ok_catG, decide_eq_true_eq, decide_eq_false_iff_not, Bool.not_eq_true', Bool.not_eq_false', cLe, cLt, reduceCtorEq, false_implies, true_implies, implies_true, and_true, true_and])
      refine ⟨by rw [List.length_map]; omega, ?_⟩
      have hx : (rngL 0 many)[i]? = some x := hx
      rw [List.take_add_one, hx, List.foldl_append]
      rfl
  · subst hf
    have e : ((rngL 0 many).take (rngL 0 many).length) = rngL 0 many := List.take_length
    have hl : (rngL 0 ((many : Int)).toNat).length = (rngL 0 many).length := rfl
    rw [hl, e]
    (try simp only [ok_some, ok_none, ok_bind, ok_lift1, ok_lift2, ok_lift3, ok_lift4, ok_bind2, ok_app1, ok_app2, ok_app3, ok_app4, ok_bif, ok_andG, ok_orG, ok_chain, ok_bindOut, bo_nx, bo_rt, bo_bk, bo_ct, ok_finO, fo_nx, fo_rt, nx_nx, nx_rt, ok_mul, ok_mod, ok_div, ok_appG, ok_szG, ok_catG, decide_eq_true_eq, decide_eq_false_iff_not, Bool.not_eq_true', Bool.not_eq_false', cLe, cLt, reduceCtorEq, false_implies, true_implies, implies_true, and_true, true_and])
    refine ok_filter (fun t => decide ((t.length : Int) = size)) (fun t _ => rfl) (ok_sortD rfl ?_ ?_)
    · have := chC_len h size h0
      unfold chC at this
      rw [List.length_mergeSort] at this
      unfold preC at this
      omega
    · (try simp only [ok_some, ok_none, ok_bind, ok_lift1, ok_lift2, ok_lift3, ok_lift4, ok_bind2, ok_app1, ok_app2, ok_app3, ok_app4, ok_bif, ok_andG, ok_orG, ok_chain, ok_bindOut, bo_nx, bo_rt, bo_bk, bo_ct, ok_finO, fo_nx, fo_rt, nx_nx, nx_rt, ok_mul, ok_mod, ok_div, ok_appG, ok_szG, ok_catG, decide_eq_true_eq, decide_eq_false_iff_not, Bool.not_eq_true', Bool.not_eq_false', cLe, cLt, reduceCtorEq, false_implies, true_implies, implies_true, and_true, true_and])
      rfl
end Lay.K42

set_option Elab.async false
set_option linter.all false
set_option maxRecDepth 100000
namespace Lay.K42
open PySem PySem.Spec PyProof.Rows L2 Lay
open Lay.Enc (enc)
/-! ### the measure -/
def restR (rows : Tab) (j : Nat) : Tab := (rows.drop 1).map fun r => r.take j ++ r.drop (j + 1)
def mterm (mes : Tab → Int) (rows : Tab) (j : Nat) : Int := (if (j : Int) % 2 = 1 then -((rows.getD 0 []).getD j 0) else (rows.getD 0 []).getD j 0) * mes (restR rows j)
def sumN (f : Nat → Int) : Nat → Int
  | 0 => 0
  | n + 1 => sumN f n + f n
/-- the determinant of n rows, along the first one -/
def mes : Nat → Tab → Int
  | 0, _ => 1
  | n + 1, rows => sumN (mterm (mes n) rows) (n + 1)
def Sq (n : Nat) (rows : Tab) : Prop := rows.length = n ∧ ∀ r, r ∈ rows → r.length = n ∧ ∀ x, x ∈ r → -1 ≤ x ∧ x ≤ 1
theorem rest_sq {n : Nat} {rows : Tab} (h : Sq (n + 1) rows) {j : Nat} (hj : j < n + 1) : Sq n (restR rows j) := by
  refine ⟨by unfold restR; rw [List.length_map, List.length_drop, h.1]; omega, fun r hr => ?_⟩
  unfold restR at hr
  obtain ⟨q, hq, rfl⟩ := List.mem_map.mp hr
  obtain ⟨h1, h2⟩ := h.2 q (List.mem_of_mem_drop hq)
  refine ⟨by rw [List.length_append, List.length_take, List.length_drop]; omega, fun x hx => ?_⟩
  rcases List.mem_append.mp hx with hx | hx
  · exact h2 x (List.mem_of_mem_take hx)
  · exact h2 x (List.mem_of_mem_drop hx)
theorem row0_b {n : Nat} {rows : Tab} (h : Sq (n + 1) rows) : (rows.getD 0 []).length = n + 1 ∧ ∀ x, x ∈ rows.getD 0 [] → -1 ≤ x ∧ x ≤ 1 := by
  have : 0 < rows.length := by rw [h.1]; omega
  refine h.2 _ ?_
  simp [List.getD, List.getElem?_eq_getElem this]
theorem sumN_b {f : Nat → Int} {b : Int} : ∀ {n : Nat}, (∀ j, j < n → -b ≤ f j ∧ f j ≤ b) → -(b * n) ≤ sumN f n ∧ sumN f n ≤ b * n
  | 0, _ => by simp [sumN]
  | n + 1, h => by
    have h1 := sumN_b (n := n) fun j hj => h j (by omega)
    have h2 := h n (by omega)
    simp only [sumN, Int.natCast_add, Int.mul_add, Int.natCast_one, Int.mul_one]
    omega
theorem getD_b {r : List Int} (h : ∀ x, x ∈ r → -1 ≤ x ∧ x ≤ 1) (j : Nat) : -1 ≤ r.getD j 0 ∧ r.getD j 0 ≤ 1 := by
  by_cases c : j < r.length
  · exact h _ (by simp [List.getD, List.getElem?_eq_getElem c])
  · simp [List.getD, List.getElem?_eq_none (by omega : r.length ≤ j)]
theorem mul_b {a m b : Int} (ha : -1 ≤ a ∧ a ≤ 1) (hm : -b ≤ m ∧ m ≤ b) : -b ≤ a * m ∧ a * m ≤ b := by
  have : a = -1 ∨ a = 0 ∨ a = 1 := by omega
  rcases this with rfl | rfl | rfl <;> omega
theorem mterm_b {n : Nat} {rows : Tab} (h : Sq (n + 1) rows) {m : Tab → Int} {b : Int} {j : Nat} (hm : -b ≤ m (restR rows j) ∧ m (restR rows j) ≤ b) : -b ≤ mterm m rows j ∧ mterm m rows j ≤ b := by
  have := getD_b (row0_b h).2 j
  unfold mterm
  refine mul_b ?_ hm
  split <;> omega
theorem mes_b : ∀ {n : Nat} {rows : Tab}, Sq n rows → n ≤ 5 → -((5 : Int) ^ n) ≤ mes n rows ∧ mes n rows ≤ (5 : Int) ^ n
  | 0, _, _, _ => by simp [mes]
  | n + 1, rows, h, h5 => by
    have h1 := sumN_b (f := mterm (mes n) rows) (b := (5 : Int) ^ n) (n := n + 1) fun j hj => mterm_b h (mes_b (rest_sq h hj) (by omega))
    have hp : (0 : Int) ≤ 5 ^ n := Int.pow_nonneg (by decide)
    have h2 : (5 : Int) ^ n * ((n + 1 : Nat) : Int) ≤ 5 ^ n * 5 := Int.mul_le_mul_of_nonneg_left (by omega) hp
    rw [Int.pow_succ]
    simp only [mes]
    omega
theorem pow5 {n : Nat} (h : n ≤ 5) : (5 : Int) ^ n ≤ 3125 := by
  have : n = 0 ∨ n = 1 ∨ n = 2 ∨ n = 3 ∨ n = 4 ∨ n = 5 := by omega
  rcases this with rfl | rfl | rfl | rfl | rfl | rfl <;> decide
theorem mes_small {n : Nat} {rows : Tab} (h : Sq n rows) (h5 : n ≤ 5) : -3125 ≤ mes n rows ∧ mes n rows ≤ 3125 := by
  have := mes_b h h5
  have := pow5 h5
  omega
theorem measure_eq : ∀ {n f : Nat} {rows : Tab}, Sq n rows → n < f → n ≤ 5 → mF_measure_of f rows = some (mes n rows)
  | n, 0, _, _, h, _ => by omega
  | 0, g + 1, rows, h, _, _ => by
    have : rows = [] := List.eq_nil_of_length_eq_zero h.1
    subst this
    rw [ok_iff]
    show Ok (finO none (b_measure_of (mF_measure_of g) [])) _
    unfold b_measure_of
    (try simp only [ok_some, ok_none, ok_bind, ok_lift1, ok_lift2, ok_lift3, ok_lift4, ok_bind2, ok_app1, ok_app2, ok_app3, ok_app4, ok_bif, ok_andG, ok_orG, ok_chain, ok_bindOut, bo_nx, bo_rt, bo_bk, bo_ct, ok_finO, fo_nx, fo_rt, nx_nx, nx_rt, ok_mul, ok_mod, ok_div, ok_appG, ok_szG, ok_catG, decide_eq_true_eq, decide_eq_false_iff_not, Bool.not_eq_true', Bool.not_eq_false', cLe, cLt, reduceCtorEq, false_implies, true_implies, implies_true, and_true, true_and])
    refine ⟨fun _ => rfl, fun c => absurd rfl c⟩
  | n + 1, g + 1, rows, h, hf, h5 => by
    rw [ok_iff]
    show Ok (finO none (b_measure_of (mF_measure_of g) rows)) _
    unfold b_measure_of
    obtain ⟨r1, r2⟩ := row0_b h
    have hl := h.1
    (try simp only [ok_some, ok_none, ok_bind, ok_lift1, ok_lift2, ok_lift3, ok_lift4, ok_bind2, ok_app1, ok_app2, ok_app3, ok_app4, ok_bif, ok_andG, ok_orG, ok_chain, ok_bindOut, bo_nx, bo_rt, bo_bk, bo_ct, ok_finO, fo_nx, fo_rt, nx_nx, nx_rt, ok_mul, ok_mod, ok_div, ok_appG, ok_szG, ok_catG, decide_eq_true_eq, decide_eq_false_iff_not, Bool.not_eq_true', Bool.not_eq_false', cLe, cLt, reduceCtorEq, false_implies, true_implies, implies_true, and_true, true_and])
    refine ⟨fun c => absurd c (by omega), fun _ => ?_⟩
    refine ok_of (row0 (by omega)) ?_
    refine ok_for (fun i s => s = sumN (mterm (mes n) rows) i) rfl (fun i s y hy hs => ?_) fun s hs => ?_
    · subst hs
      have hi : i < (rows.getD 0 []).length := by
        have := (List.getElem?_eq_some_iff.mp hy).1
        rw [enumL_eqD (0 : Int), List.length_map, rng_len] at this
        exact this
      have ey : y = ⟨(i : Int), (rows.getD 0 []).getD i 0⟩ := by
        rw [enumL_eqD (0 : Int), List.getElem?_map] at hy
        have e : (rngL 0 (rows.getD 0 []).length)[i]? = some (i : Int) := by
          rw [rngL, List.getElem?_map, List.getElem?_range hi]
          simp
        rw [e] at hy
        cases hy; rfl
      subst ey
      have hsq := rest_sq h (j := i) (by omega)
      have hm := mes_small hsq (by omega)
      have hb := getD_b r2 i
      (try simp only [ok_some, ok_none, ok_bind, ok_lift1, ok_lift2, ok_lift3, ok_lift4, ok_bind2, ok_app1, ok_app2, ok_app3, ok_app4, ok_bif, ok_andG, ok_orG, ok_chain, ok_bindOut, bo_nx, bo_rt, bo_bk, bo_ct, ok_finO, fo_nx, fo_rt, nx_nx, nx_rt, ok_mul, ok_mod, ok_div, ok_appG, ok_szG, ok_catG, decide_eq_true_eq, decide_eq_false_iff_not, Bool.not_eq_true', Bool.not_eq_false', cLe, cLt, reduceCtorEq, false_implies, true_implies, implies_true, and_true, true_and])
      refine ⟨fun c => ?_, fun c => ?_⟩
      · refine ok_of (v := restR rows i) ?_ ?_
        · rw [ok_iff]
          refine ok_map (fun r => r.take i ++ r.drop (i + 1)) (fun r hr => ?_) ?_
          · have hq : r.length = n + 1 := (h.2 r (mem_cut hr)).1
            rw [ok_iff]
            (try simp only [ok_some, ok_none, ok_bind, ok_lift1, ok_lift2, ok_lift3, ok_lift4, ok_bind2, ok_app1, ok_app2, ok_app3, ok_app4, ok_bif, ok_andG, ok_orG, ok_chain, ok_bindOut, bo_nx, bo_rt, bo_bk, bo_ct, ok_finO, fo_nx, fo_rt, nx_nx, nx_rt, ok_mul, ok_mod, ok_div, ok_appG, ok_szG, ok_catG, decide_eq_true_eq, decide_eq_false_iff_not, Bool.not_eq_true', Bool.not_eq_false', cLe, cLt, reduceCtorEq, false_implies, true_implies, implies_true, and_true, true_and])
            have e1 : cutL r none (some (i : Int)) = r.take i := cut_to (by omega)
            have e2 : cutL r (some ((i : Int) + 1)) none = r.drop (i + 1) := cut_from (n := i + 1) (by omega)
            rw [e1, e2]
            refine ⟨by rw [List.length_take, List.length_drop]; omega, rfl⟩
          · have e3 : cutL rows (some 1) none = rows.drop 1 := cut_from (n := 1) (by omega)
            rw [e3]; rfl
        · have em : mF_measure_of g (restR rows i) = some (mes n (restR rows i)) := measure_eq (n := n) (f := g) hsq (by omega) (by omega)
          refine ⟨by decide, fun c2 => ok_of em ⟨mulOk (by omega) (by omega), ?_⟩, fun c2 => ok_of em ⟨mulOk (by omega) (by omega), ?_⟩⟩
          · simp only [sumN, mterm]
            rw [if_pos c2]
          · simp only [sumN, mterm]
            rw [if_neg c2]
      · simp only [sumN, mterm, c]
        split <;> simp
    · subst hs
      (try simp only [ok_some, ok_none, ok_bind, ok_lift1, ok_lift2, ok_lift3, ok_lift4, ok_bind2, ok_app1, ok_app2, ok_app3, ok_app4, ok_bif, ok_andG, ok_orG, ok_chain, ok_bindOut, bo_nx, bo_rt, bo_bk, bo_ct, ok_finO, fo_nx, fo_rt, nx_nx, nx_rt, ok_mul, ok_mod, ok_div, ok_appG, ok_szG, ok_catG, decide_eq_true_eq, decide_eq_false_iff_not, Bool.not_eq_true', Bool.not_eq_false', cLe, cLt, reduceCtorEq, false_implies, true_implies, implies_true, and_true, true_and])
      have e : (enumL (rows.getD 0 [])).length = n + 1 := by rw [enumL_eqD (0 : Int), List.length_map, rng_len, r1]
      rw [e]; rfl
/-! ### squares -/
def sqL (t : Tab) (rows cols : List Int) : Tab := rows.map fun i => cols.map fun j => el t i j
def inL (m : Nat) (l : List Int) : Prop := ∀ k, k ∈ l → 0 ≤ k ∧ k < m
theorem square_at_eq {t : Tab} (k : TK t) {rows cols : List Int} (h1 : inL t.length rows) (h2 : inL (wd_ t) cols) : m_square_at t rows cols = some (sqL t rows cols) := by
  rw [ok_iff]
  unfold m_square_at b_square_at
  (try simp only [ok_some, ok_none, ok_bind, ok_lift1, ok_lift2, ok_lift3, ok_lift4, ok_bind2, ok_app1, ok_app2, ok_app3, ok_app4, ok_bif, ok_andG, ok_orG, ok_chain, ok_bindOut, bo_nx, bo_rt, bo_bk, bo_ct, ok_finO, fo_nx, fo_rt, nx_nx, nx_rt, ok_mul, ok_mod, ok_div, ok_appG, ok_szG, ok_catG, decide_eq_true_eq, decide_eq_false_iff_not, Bool.not_eq_true', Bool.not_eq_false', cLe, cLt, reduceCtorEq, false_implies, true_implies, implies_true, and_true, true_and])
  refine ok_map (fun i => cols.map fun j => el t i j) (fun i hi => ?_) rfl
  rw [ok_iff]
  (try simp only [ok_some, ok_none, ok_bind, ok_lift1, ok_lift2, ok_lift3, ok_lift4, ok_bind2, ok_app1, ok_app2, ok_app3, ok_app4, ok_bif, ok_andG, ok_orG, ok_chain, ok_bindOut, bo_nx, bo_rt, bo_bk, bo_ct, ok_finO, fo_nx, fo_rt, nx_nx, nx_rt, ok_mul, ok_mod, ok_div, ok_appG, ok_szG, ok_catG, decide_eq_true_eq, decide_eq_false_iff_not, Bool.not_eq_true', Bool.not_eq_false', cLe, cLt, reduceCtorEq, false_implies, true_implies, implies_true, and_true, true_and])
  refine ok_map (fun j => el t i j) (fun j hj => ?_) rfl
  exact el_at k (h1 i hi).1 (h1 i hi).2 (h2 j hj).1 (h2 j hj).2
theorem sqL_sq {t : Tab} (k : TK t) {rows cols : List Int} {n : Nat} (h1 : inL t.length rows) (h2 : inL (wd_ t) cols) (l1 : rows.length = n) (l2 : cols.length = n) : Sq n (sqL t rows cols) := by
  refine ⟨by unfold sqL; rw [List.length_map, l1], fun r hr => ?_⟩
  unfold sqL at hr
  obtain ⟨i, hi, rfl⟩ := List.mem_map.mp hr
  refine ⟨by rw [List.length_map, l2], fun x hx => ?_⟩
  obtain ⟨j, hj, rfl⟩ := List.mem_map.mp hx
  exact el_b k (h1 i hi).1 (h1 i hi).2 (h2 j hj).1 (h2 j hj).2
theorem measure_sq {t : Tab} (k : TK t) {rows cols : List Int} {n : Nat} (h1 : inL t.length rows) (h2 : inL (wd_ t) cols) (l1 : rows.length = n) (l2 : cols.length = n) (h5 : n ≤ 5) : m_measure_of (sqL t rows cols) = some (mes n (sqL t rows cols)) := measure_eq (f := 6) (sqL_sq k h1 h2 l1 l2) (by omega) h5
theorem chC_in {many : Nat} {size : Int} (hs : 0 ≤ size) {t : List Int} (h : t ∈ chC many size) : inL many t ∧ (t.length : Int) = size := by
  obtain ⟨a, b⟩ := (chC_mem hs).mp h
  exact ⟨fun k hk => by have := mem_rng.mp (a.subset hk); omega, b⟩
/-- squares of this size are none of them bad -/
def okSz (t : Tab) (sz : Int) : Prop := ∀ rows, rows ∈ chC t.length sz → ∀ cols, cols ∈ chC (wd_ t) sz → mes sz.toNat (sqL t rows cols) ≤ 1 ∧ -1 ≤ mes sz.toNat (sqL t rows cols)
/-- a bad square, with none that are less -/
structure Bad (t : Tab) (rows cols : List Int) (sz : Nat) : Prop where
  s1 : 1 ≤ sz
  r : rows ∈ chC t.length sz
  c : cols ∈ chC (wd_ t) sz
  big : mes sz (sqL t rows cols) < -1 ∨ 1 < mes sz (sqL t rows cols)
  less : ∀ z : Int, 1 ≤ z → z < sz → okSz t z
theorem bad_of_ok {t : Tab} (k : TK t) : Ok (m_bad_of t) fun r => r = none ∨ ∃ rows cols sz, r = some ⟨rows, cols⟩ ∧ Bad t rows cols sz := by
  unfold m_bad_of b_bad_of
  have l1 := k.l1; have l2 := k.l2; have w1 := k.w1; have w2 := k.w2
  (try simp only [ok_some, ok_none, ok_bind, ok_lift1, ok_lift2, ok_lift3, ok_lift4, ok_bind2, ok_app1, ok_app2, ok_app3, ok_app4, ok_bif, ok_andG, ok_orG, ok_chain, ok_bindOut, bo_nx, bo_rt, bo_bk, bo_ct, ok_finO, fo_nx, fo_rt, nx_nx, nx_rt, ok_mul, ok_mod, ok_div, ok_appG, ok_szG, ok_catG, decide_eq_true_eq, decide_eq_false_iff_not, Bool.not_eq_true', Bool.not_eq_false', cLe, cLt, reduceCtorEq, false_implies, true_implies, implies_true, and_true, true_and])
  refine ok_of (row0 l1) ?_
  obtain ⟨m, hm, m1, m2⟩ : ∃ m : Nat, (if ((t.getD 0 []).length : Int) < (t.length : Int) then ((t.getD 0 []).length : Int) else (t.length : Int)) = m ∧ m ≤ 5 ∧ 1 ≤ m := by
    by_cases c : ((t.getD 0 []).length : Int) < (t.length : Int)
    · exact ⟨(t.getD 0 []).length, by rw [if_pos c], by omega, by omega⟩
    · exact ⟨t.length, by rw [if_neg c], by omega, by omega⟩
  rw [hm]
  refine ok_of (rng2_of (by omega) (by omega) (by omega) (by omega)) ?_
  refine ok_forU (fun z => okSz t z) (fun i z hz hprev => ?_) fun _ => ?_
  · obtain ⟨hi, rfl⟩ := rng_get hz
    have hi : i < m := by omega
    refine ok_set (show app2 m_choices (lift1 (fun l => (l.length : Int)) (some t)) (some (1 + (i : Int))) = some (chC t.length (1 + (i : Int))) from choices_eq l2 (by omega) (by omega)) ?_
    refine ok_bindOut.mpr (ok_forU (fun rows => ∀ cols, cols ∈ chC (wd_ t) (1 + (i : Int)) → mes (1 + (i : Int)).toNat (sqL t rows cols) ≤ 1 ∧ -1 ≤ mes (1 + (i : Int)).toNat (sqL t rows cols)) (fun a rows hr _ => ?_) fun hall => ?_)
    · have hr := List.mem_of_getElem? hr
      obtain ⟨ri, rl⟩ := chC_in (by omega) hr
      refine ok_set (v := chC (wd_ t) (1 + (i : Int))) (by
        show app2 m_choices (lift1 (fun l => (l.length : Int)) (atI t 0)) (some (1 + (i : Int))) = _
        rw [row0 l1]
        exact choices_eq w2 (by omega) (by omega)) ?_
      refine ok_bindOut.mpr (ok_forU (fun cols => mes (1 + (i : Int)).toNat (sqL t rows cols) ≤ 1 ∧ -1 ≤ mes (1 + (i : Int)).toNat (sqL t rows cols)) (fun b cols hc _ => ?_) fun hall => ?_)
      · have hc := List.mem_of_getElem? hc
        obtain ⟨ci, cl⟩ := chC_in (by omega) hc
        have em := measure_sq k ri ci (n := (1 + (i : Int)).toNat) (by omega) (by omega) (by omega)
        (try simp only [ok_some, ok_none, ok_bind, ok_lift1, ok_lift2, ok_lift3, ok_lift4, ok_bind2, ok_app1, ok_app2, ok_app3, ok_app4, ok_bif, ok_andG, ok_orG, ok_chain, ok_bindOut, bo_nx, bo_rt, bo_bk, bo_ct, ok_finO, fo_nx, fo_rt, nx_nx, nx_rt, ok_mul, ok_mod, ok_div, ok_appG, ok_szG, ok_catG, decide_eq_true_eq, decide_eq_false_iff_not, Bool.not_eq_true', Bool.not_eq_false', cLe, cLt, reduceCtorEq, false_implies, true_implies, implies_true, and_true, true_and])
        refine ok_of (square_at_eq k ri ci) (ok_of em ⟨fun q => ?_, fun q => ?_⟩)
        · have hb : mes (1 + (i : Int)).toNat (sqL t rows cols) < -1 ∨ 1 < mes (1 + (i : Int)).toNat (sqL t rows cols) := by
            split at q <;> omega
          refine .inr ⟨rows, cols, (1 + (i : Int)).toNat, rfl, by omega, ?_, ?_, hb, fun z z1 z2 => ?_⟩
          · rw [show (((1 + (i : Int)).toNat : Nat) : Int) = 1 + i by omega]; exact hr
          · rw [show (((1 + (i : Int)).toNat : Nat) : Int) = 1 + i by omega]; exact hc
          · obtain ⟨j, rfl⟩ : ∃ j : Nat, z = 1 + (j : Int) := ⟨(z - 1).toNat, by omega⟩
            refine hprev j _ (by omega) ?_
            rw [rngL, List.getElem?_map, List.getElem?_range (by omega)]
            simp
        · split at q <;> omega
      · exact ⟨_, rfl, hall⟩
    · exact ⟨_, rfl, hall⟩
  · (try simp only [ok_some, ok_none, ok_bind, ok_lift1, ok_lift2, ok_lift3, ok_lift4, ok_bind2, ok_app1, ok_app2, ok_app3, ok_app4, ok_bif, ok_andG, ok_orG, ok_chain, ok_bindOut, bo_nx, bo_rt, bo_bk, bo_ct, ok_finO, fo_nx, fo_rt, nx_nx, nx_rt, ok_mul, ok_mod, ok_div, ok_appG, ok_szG, ok_catG, decide_eq_true_eq, decide_eq_false_iff_not, Bool.not_eq_true', Bool.not_eq_false', cLe, cLt, reduceCtorEq, false_implies, true_implies, implies_true, and_true, true_and])
    simp
end Lay.K42

set_option Elab.async false
set_option linter.all false
set_option maxRecDepth 100000
namespace Lay.K42
open PySem PySem.Spec PyProof.Rows L2 Lay
open Lay.Enc (enc)
theorem er_eq {α : Type} {o : Option (Er ⊕ α)} {x : Option Er} (h : Rz o x) : Rz o x := h
theorem rngL1 {i m : Nat} (hi : i < m) : (rngL 1 m)[i]? = some (1 + (i : Int)) := by
  rw [rngL, List.getElem?_map, List.getElem?_range hi]
  simp
theorem is_sure_rz {t : Tab} : Rz (m_is_sure t) (chk t) := by
  unfold m_is_sure b_is_sure
  refine rz_fin (ok_outR check_table_eq (fun e he => ?_) fun hn _ => ?_)
  · exact he.symm
  · (try simp only [ok_some, ok_none, ok_bind, ok_lift1, ok_lift2, ok_lift3, ok_lift4, ok_bind2, ok_app1, ok_app2, ok_app3, ok_app4, ok_bif, ok_andG, ok_orG, ok_chain, ok_bindOut, bo_nx, bo_rt, bo_bk, bo_ct, ok_finO, fo_nx, fo_rt, nx_nx, nx_rt, ok_mul, ok_mod, ok_div, ok_appG, ok_szG, ok_catG, decide_eq_true_eq, decide_eq_false_iff_not, Bool.not_eq_true', Bool.not_eq_false', cLe, cLt, reduceCtorEq, false_implies, true_implies, implies_true, and_true, true_and, bo_er, fx_er, fx_rt, fx_nx, er_inl, er_inr, ok_app6, ok_lift5])
    exact ok_mono (bad_of_ok (chk_none hn)) fun r _ => hn.symm
theorem bad_square_rz {t : Tab} : Rz (m_bad_square t) (chk t) := by
  unfold m_bad_square b_bad_square
  refine rz_fin (ok_outR check_table_eq (fun e he => ?_) fun hn _ => ?_)
  · exact he.symm
  · (try simp only [ok_some, ok_none, ok_bind, ok_lift1, ok_lift2, ok_lift3, ok_lift4, ok_bind2, ok_app1, ok_app2, ok_app3, ok_app4, ok_bif, ok_andG, ok_orG, ok_chain, ok_bindOut, bo_nx, bo_rt, bo_bk, bo_ct, ok_finO, fo_nx, fo_rt, nx_nx, nx_rt, ok_mul, ok_mod, ok_div, ok_appG, ok_szG, ok_catG, decide_eq_true_eq, decide_eq_false_iff_not, Bool.not_eq_true', Bool.not_eq_false', cLe, cLt, reduceCtorEq, false_implies, true_implies, implies_true, and_true, true_and, bo_er, fx_er, fx_rt, fx_nx, er_inl, er_inr, ok_app6, ok_lift5])
    exact ok_mono (bad_of_ok (chk_none hn)) fun r _ => hn.symm
theorem measure_rz {t : Tab} {rows : List Int} : Rz (m_measure t rows []) (chk t) := by
  unfold m_measure b_measure
  refine rz_fin (ok_outR check_table_eq (fun e he => ?_) fun hn _ => ?_)
  · exact he.symm
  · (try simp only [ok_some, ok_none, ok_bind, ok_lift1, ok_lift2, ok_lift3, ok_lift4, ok_bind2, ok_app1, ok_app2, ok_app3, ok_app4, ok_bif, ok_andG, ok_orG, ok_chain, ok_bindOut, bo_nx, bo_rt, bo_bk, bo_ct, ok_finO, fo_nx, fo_rt, nx_nx, nx_rt, ok_mul, ok_mod, ok_div, ok_appG, ok_szG, ok_catG, decide_eq_true_eq, decide_eq_false_iff_not, Bool.not_eq_true', Bool.not_eq_false', cLe, cLt, reduceCtorEq, false_implies, true_implies, implies_true, and_true, true_and, bo_er, fx_er, fx_rt, fx_nx, er_inl, er_inr, ok_app6, ok_lift5])
    rw [hn]
    refine ⟨fun h => rfl, fun h => ⟨fun _ => rfl, fun c => absurd ?_ c⟩⟩
    first
      | exact h
      | simpa using h
/-! ### rows from two numbers -/
theorem flat2_len {a b : Int} : ∀ f : List (List Int), (f.flatMap fun x => [a, b].map fun y => x ++ [y]).length = 2 * f.length
  | [] => rfl
  | x :: xs => by
    rw [List.flatMap_cons, List.length_append, flat2_len xs]
    simp; omega
def RF (a b : Int) (n : Nat) (f : List (List Int)) : Prop := f.length = 2 ^ n ∧ ∀ t, t ∈ f → t.length = n ∧ ∀ x, x ∈ t → x = a ∨ x = b
theorem rows_from_ok {a b : Int} {n : Nat} (h : n ≤ 5) : Ok (m_rows_from [a, b] n) (RF a b n) := by
  unfold m_rows_from b_rows_from
  (try simp only [ok_some, ok_none, ok_bind, ok_lift1, ok_lift2, ok_lift3, ok_lift4, ok_bind2, ok_app1, ok_app2, ok_app3, ok_app4, ok_bif, ok_andG, ok_orG, ok_chain, ok_bindOut, bo_nx, bo_rt, bo_bk, bo_ct, ok_finO, fo_nx, fo_rt, nx_nx, nx_rt, ok_mul, ok_mod, ok_div, ok_appG, ok_szG, ok_catG, decide_eq_true_eq, decide_eq_false_iff_not, Bool.not_eq_true', Bool.not_eq_false', cLe, cLt, reduceCtorEq, false_implies, true_implies, implies_true, and_true, true_and])
  refine ⟨by simp, by simp, ok_rng1 (by omega) (by omega) (ok_for (fun i f => RF a b i f) ⟨by simp, fun t ht => ?_⟩ (fun i f x hx hf => ?_) fun f hf => ?_)⟩
  · rw [List.mem_singleton] at ht; subst ht; simp
  · have hi : i < n := by
      have := (rng_get hx).1
      omega
    have h3 : 2 ^ i ≤ 2 ^ 4 := Nat.pow_le_pow_right (by decide) (by omega)
    have hl := hf.1
    (try simp only [ok_some, ok_none, ok_bind, ok_lift1, ok_lift2, ok_lift3, ok_lift4, ok_bind2, ok_app1, ok_app2, ok_app3, ok_app4, ok_bif, ok_andG, ok_orG, ok_chain, ok_bindOut, bo_nx, bo_rt, bo_bk, bo_ct, ok_finO, fo_nx, fo_rt, nx_nx, nx_rt, ok_mul, ok_mod, ok_div, ok_appG, ok_szG, ok_catG, decide_eq_true_eq, decide_eq_false_iff_not, Bool.not_eq_true', Bool.not_eq_false', cLe, cLt, reduceCtorEq, false_implies, true_implies, implies_true, and_true, true_and])
    refine ok_lc2 (fun _ => [a, b]) (fun t y => t ++ [y]) (fun _ _ => rfl) (fun t ht y _ => ?_) ?_
    · rw [ok_iff]
      (try simp only [ok_some, ok_none, ok_bind, ok_lift1, ok_lift2, ok_lift3, ok_lift4, ok_bind2, ok_app1, ok_app2, ok_app3, ok_app4, ok_bif, ok_andG, ok_orG, ok_chain, ok_bindOut, bo_nx, bo_rt, bo_bk, bo_ct, ok_finO, fo_nx, fo_rt, nx_nx, nx_rt, ok_mul, ok_mod, ok_div, ok_appG, ok_szG, ok_catG, decide_eq_true_eq, decide_eq_false_iff_not, Bool.not_eq_true', Bool.not_eq_false', cLe, cLt, reduceCtorEq, false_implies, true_implies, implies_true, and_true, true_and])
      have := (hf.2 t ht).1
      simp; omega
    · have e : (f.flatMap fun x => [a, b].map fun y => x ++ [y]).length = 2 ^ (i + 1) := by rw [flat2_len, hl, Nat.pow_succ]; omega
      (try simp only [ok_some, ok_none, ok_bind, ok_lift1, ok_lift2, ok_lift3, ok_lift4, ok_bind2, ok_app1, ok_app2, ok_app3, ok_app4, ok_bif, ok_andG, ok_orG, ok_chain, ok_bindOut, bo_nx, bo_rt, bo_bk, bo_ct, ok_finO, fo_nx, fo_rt, nx_nx, nx_rt, ok_mul, ok_mod, ok_div, ok_appG, ok_szG, ok_catG, decide_eq_true_eq, decide_eq_false_iff_not, Bool.not_eq_true', Bool.not_eq_false', cLe, cLt, reduceCtorEq, false_implies, true_implies, implies_true, and_true, true_and])
      refine ⟨by rw [e, Nat.pow_succ]; omega, e, fun t ht => ?_⟩
      obtain ⟨u, hu, ht⟩ := List.mem_flatMap.mp ht
      obtain ⟨y, hy, rfl⟩ := List.mem_map.mp ht
      obtain ⟨q1, q2⟩ := hf.2 u hu
      refine ⟨by simp; omega, fun x hx => ?_⟩
      rcases List.mem_append.mp hx with hx | hx
      · exact q2 x hx
      · rw [List.mem_singleton] at hx; subst hx
        simpa using hy
  · (try simp only [ok_some, ok_none, ok_bind, ok_lift1, ok_lift2, ok_lift3, ok_lift4, ok_bind2, ok_app1, ok_app2, ok_app3, ok_app4, ok_bif, ok_andG, ok_orG, ok_chain, ok_bindOut, bo_nx, bo_rt, bo_bk, bo_ct, ok_finO, fo_nx, fo_rt, nx_nx, nx_rt, ok_mul, ok_mod, ok_div, ok_appG, ok_szG, ok_catG, decide_eq_true_eq, decide_eq_false_iff_not, Bool.not_eq_true', Bool.not_eq_false', cLe, cLt, reduceCtorEq, false_implies, true_implies, implies_true, and_true, true_and])
    rw [rng_len] at hf
    exact hf
theorem parting_of_ok {t : Tab} (k : TK t) {rows : List Int} (h : inL t.length rows) (h5 : rows.length ≤ 5) : Ok (m_parting_of t rows) fun _ => True := by
  unfold m_parting_of b_parting_of
  have l1 := k.l1; have w2 := k.w2
  (try simp only [ok_some, ok_none, ok_bind, ok_lift1, ok_lift2, ok_lift3, ok_lift4, ok_bind2, ok_app1, ok_app2, ok_app3, ok_app4, ok_bif, ok_andG, ok_orG, ok_chain, ok_bindOut, bo_nx, bo_rt, bo_bk, bo_ct, ok_finO, fo_nx, fo_rt, nx_nx, nx_rt, ok_mul, ok_mod, ok_div, ok_appG, ok_szG, ok_catG, decide_eq_true_eq, decide_eq_false_iff_not, Bool.not_eq_true', Bool.not_eq_false', cLe, cLt, reduceCtorEq, false_implies, true_implies, implies_true, and_true, true_and])
  refine ⟨by simp, ok_mono (rows_from_ok (a := -1) (b := 1) h5) fun f hf => ok_forU (fun _ => True) (fun i s hs _ => ?_) fun _ => by (try simp only [ok_some, ok_none, ok_bind, ok_lift1, ok_lift2, ok_lift3, ok_lift4, ok_bind2, ok_app1, ok_app2, ok_app3, ok_app4, ok_bif, ok_andG, ok_orG, ok_chain, ok_bindOut, bo_nx, bo_rt, bo_bk, bo_ct, ok_finO, fo_nx, fo_rt, nx_nx, nx_rt, ok_mul, ok_mod, ok_div, ok_appG, ok_szG, ok_catG, decide_eq_true_eq, decide_eq_false_iff_not, Bool.not_eq_true', Bool.not_eq_false', cLe, cLt, reduceCtorEq, false_implies, true_implies, implies_true, and_true, true_and])⟩
  have hs := hf.2 s (List.mem_of_getElem? hs)
  refine ok_let (fun _ => True) ?_ fun v _ => ?_
  · (try simp only [ok_some, ok_none, ok_bind, ok_lift1, ok_lift2, ok_lift3, ok_lift4, ok_bind2, ok_app1, ok_app2, ok_app3, ok_app4, ok_bif, ok_andG, ok_orG, ok_chain, ok_bindOut, bo_nx, bo_rt, bo_bk, bo_ct, ok_finO, fo_nx, fo_rt, nx_nx, nx_rt, ok_mul, ok_mod, ok_div, ok_appG, ok_szG, ok_catG, decide_eq_true_eq, decide_eq_false_iff_not, Bool.not_eq_true', Bool.not_eq_false', cLe, cLt, reduceCtorEq, false_implies, true_implies, implies_true, and_true, true_and])
    refine ok_of (row0 l1) (ok_rng1 (by omega) (by omega) (ok_allP (fun _ => True) (fun j hj => ?_) fun _ _ _ => trivial))
    have hj := mem_rng.mp hj
    (try simp only [ok_some, ok_none, ok_bind, ok_lift1, ok_lift2, ok_lift3, ok_lift4, ok_bind2, ok_app1, ok_app2, ok_app3, ok_app4, ok_bif, ok_andG, ok_orG, ok_chain, ok_bindOut, bo_nx, bo_rt, bo_bk, bo_ct, ok_finO, fo_nx, fo_rt, nx_nx, nx_rt, ok_mul, ok_mod, ok_div, ok_appG, ok_szG, ok_catG, decide_eq_true_eq, decide_eq_false_iff_not, Bool.not_eq_true', Bool.not_eq_false', cLe, cLt, reduceCtorEq, false_implies, true_implies, implies_true, and_true, true_and])
    refine ok_allP (fun _ => True) (fun z hz => ?_) fun _ _ _ => trivial
    obtain ⟨z1, z2⟩ := zip_mem hz
    have hb := hs.2 _ z1
    have hi := h _ z2
    have hw : wd_ t = (t.getD 0 []).length := rfl
    have ee := el_at k hi.1 hi.2 (j := j) (by omega) (by omega)
    have eb := el_b k hi.1 hi.2 (j := j) (by omega) (by omega)
    show Ok (bind2 mulG (some z.a) (bind2 atI (bind2 atI (some t) (some z.b)) (some j))) _
    rw [ee]
    (try simp only [ok_some, ok_none, ok_bind, ok_lift1, ok_lift2, ok_lift3, ok_lift4, ok_bind2, ok_app1, ok_app2, ok_app3, ok_app4, ok_bif, ok_andG, ok_orG, ok_chain, ok_bindOut, bo_nx, bo_rt, bo_bk, bo_ct, ok_finO, fo_nx, fo_rt, nx_nx, nx_rt, ok_mul, ok_mod, ok_div, ok_appG, ok_szG, ok_catG, decide_eq_true_eq, decide_eq_false_iff_not, Bool.not_eq_true', Bool.not_eq_false', cLe, cLt, reduceCtorEq, false_implies, true_implies, implies_true, and_true, true_and])
    exact mulOk (by omega) (by omega)
  · (try simp only [ok_some, ok_none, ok_bind, ok_lift1, ok_lift2, ok_lift3, ok_lift4, ok_bind2, ok_app1, ok_app2, ok_app3, ok_app4, ok_bif, ok_andG, ok_orG, ok_chain, ok_bindOut, bo_nx, bo_rt, bo_bk, bo_ct, ok_finO, fo_nx, fo_rt, nx_nx, nx_rt, ok_mul, ok_mod, ok_div, ok_appG, ok_szG, ok_catG, decide_eq_true_eq, decide_eq_false_iff_not, Bool.not_eq_true', Bool.not_eq_false', cLe, cLt, reduceCtorEq, false_implies, true_implies, implies_true, and_true, true_and])
    refine ok_allP (fun _ => True) (fun x _ => ?_) fun m _ _ => ?_
    · show Ok (bif decide (-1 ≤ x) then some (decide (x ≤ 1)) else some false) _
      cases decide (-1 ≤ x) <;> exact ⟨_, rfl, trivial⟩
    · simp
theorem unparted_rz {t : Tab} : Rz (m_unparted t) (chk t) := by
  unfold m_unparted b_unparted
  refine rz_fin (ok_outR check_table_eq (fun e he => ?_) fun hn _ => ?_)
  · exact he.symm
  · have k := chk_none hn
    have l1 := k.l1; have l2 := k.l2
    rw [hn]
    (try simp only [ok_some, ok_none, ok_bind, ok_lift1, ok_lift2, ok_lift3, ok_lift4, ok_bind2, ok_app1, ok_app2, ok_app3, ok_app4, ok_bif, ok_andG, ok_orG, ok_chain, ok_bindOut, bo_nx, bo_rt, bo_bk, bo_ct, ok_finO, fo_nx, fo_rt, nx_nx, nx_rt, ok_mul, ok_mod, ok_div, ok_appG, ok_szG, ok_catG, decide_eq_true_eq, decide_eq_false_iff_not, Bool.not_eq_true', Bool.not_eq_false', cLe, cLt, reduceCtorEq, false_implies, true_implies, implies_true, and_true, true_and])
    refine ok_of (rng2_of (by omega) (by omega) (by omega) (by omega)) (ok_forU (fun _ => True) (fun i z hz _ => ?_) fun _ => ?_)
    · obtain ⟨hi, rfl⟩ := rng_get hz
      refine ok_set (v := chC t.length (1 + (i : Int))) (choices_eq l2 (by omega) (by omega)) ?_
      refine ok_bindOut.mpr (ok_forU (fun _ => True) (fun a rows hr _ => ?_) fun _ => ⟨_, rfl, trivial⟩)
      have hr := List.mem_of_getElem? hr
      obtain ⟨ri, rl⟩ := chC_in (by omega) hr
      (try simp only [ok_some, ok_none, ok_bind, ok_lift1, ok_lift2, ok_lift3, ok_lift4, ok_bind2, ok_app1, ok_app2, ok_app3, ok_app4, ok_bif, ok_andG, ok_orG, ok_chain, ok_bindOut, bo_nx, bo_rt, bo_bk, bo_ct, ok_finO, fo_nx, fo_rt, nx_nx, nx_rt, ok_mul, ok_mod, ok_div, ok_appG, ok_szG, ok_catG, decide_eq_true_eq, decide_eq_false_iff_not, Bool.not_eq_true', Bool.not_eq_false', cLe, cLt, reduceCtorEq, false_implies, true_implies, implies_true, and_true, true_and])
      refine ok_mono (parting_of_ok k ri (by omega)) fun r _ => ?_
      simp
      (try simp only [ok_some, ok_none, ok_bind, ok_lift1, ok_lift2, ok_lift3, ok_lift4, ok_bind2, ok_app1, ok_app2, ok_app3, ok_app4, ok_bif, ok_andG, ok_orG, ok_chain, ok_bindOut, bo_nx, bo_rt, bo_bk, bo_ct, ok_finO, fo_nx, fo_rt, nx_nx, nx_rt, ok_mul, ok_mod, ok_div, ok_appG, ok_szG, ok_catG, decide_eq_true_eq, decide_eq_false_iff_not, Bool.not_eq_true', Bool.not_eq_false', cLe, cLt, reduceCtorEq, false_implies, true_implies, implies_true, and_true, true_and, bo_er, fx_er, fx_rt, fx_nx, er_inl, er_inr, ok_app6, ok_lift5])
    · (try simp only [ok_some, ok_none, ok_bind, ok_lift1, ok_lift2, ok_lift3, ok_lift4, ok_bind2, ok_app1, ok_app2, ok_app3, ok_app4, ok_bif, ok_andG, ok_orG, ok_chain, ok_bindOut, bo_nx, bo_rt, bo_bk, bo_ct, ok_finO, fo_nx, fo_rt, nx_nx, nx_rt, ok_mul, ok_mod, ok_div, ok_appG, ok_szG, ok_catG, decide_eq_true_eq, decide_eq_false_iff_not, Bool.not_eq_true', Bool.not_eq_false', cLe, cLt, reduceCtorEq, false_implies, true_implies, implies_true, and_true, true_and, bo_er, fx_er, fx_rt, fx_nx, er_inl, er_inr, ok_app6, ok_lift5])
/-! ### stretches -/
theorem at_last {α : Type} {l : List α} (h : l ≠ []) : ∃ x, atI l (-1) = some x := by
  have h0 : 0 < l.length := List.length_pos_iff.mpr h
  refine ⟨l[l.length - 1]'(by omega), ?_⟩
  have e : ixN l.length (-1) = some (l.length - 1) := by
    unfold ixN
    rw [if_neg (by omega), if_pos (by omega)]
    congr 1; omega
  unfold atI
  rw [e]
  simp
theorem is_stretch_ok {r : List Int} (h : r.length ≤ 5) : Ok (m_is_stretch r) fun _ => True := by
  unfold m_is_stretch b_is_stretch
  (try simp only [ok_some, ok_none, ok_bind, ok_lift1, ok_lift2, ok_lift3, ok_lift4, ok_bind2, ok_app1, ok_app2, ok_app3, ok_app4, ok_bif, ok_andG, ok_orG, ok_chain, ok_bindOut, bo_nx, bo_rt, bo_bk, bo_ct, ok_finO, fo_nx, fo_rt, nx_nx, nx_rt, ok_mul, ok_mod, ok_div, ok_appG, ok_szG, ok_catG, decide_eq_true_eq, decide_eq_false_iff_not, Bool.not_eq_true', Bool.not_eq_false', cLe, cLt, reduceCtorEq, false_implies, true_implies, implies_true, and_true, true_and])
  refine ok_lc (fun y => decide (y.b = 1)) (fun y => y.a) (fun y _ => rfl) (fun y _ _ => rfl) ?_
  generalize ((enumL r).filter fun y => decide (y.b = 1)).map (fun y => y.a) = ones
  refine ok_map (fun x => decide (x < 0)) (fun x _ => rfl) fun _ c => ?_
  have hne : ones ≠ [] := fun e => by subst e; simp at c
  obtain ⟨x, hx⟩ := at_last hne
  refine ok_of hx (ok_atI (by decide) (by have := List.length_pos_iff.mpr hne; omega) fun y _ _ => ?_)
  (try simp only [ok_some, ok_none, ok_bind, ok_lift1, ok_lift2, ok_lift3, ok_lift4, ok_bind2, ok_app1, ok_app2, ok_app3, ok_app4, ok_bif, ok_andG, ok_orG, ok_chain, ok_bindOut, bo_nx, bo_rt, bo_bk, bo_ct, ok_finO, fo_nx, fo_rt, nx_nx, nx_rt, ok_mul, ok_mod, ok_div, ok_appG, ok_szG, ok_catG, decide_eq_true_eq, decide_eq_false_iff_not, Bool.not_eq_true', Bool.not_eq_false', cLe, cLt, reduceCtorEq, false_implies, true_implies, implies_true, and_true, true_and])
  try trivial
theorem are_stretches_rz {t : Tab} : Rz (m_are_stretches t) (chk t) := by
  unfold m_are_stretches b_are_stretches
  refine rz_fin (ok_outR check_table_eq (fun e he => ?_) fun hn _ => ?_)
  · exact he.symm
  · have k := chk_none hn
    rw [hn]
    (try simp only [ok_some, ok_none, ok_bind, ok_lift1, ok_lift2, ok_lift3, ok_lift4, ok_bind2, ok_app1, ok_app2, ok_app3, ok_app4, ok_bif, ok_andG, ok_orG, ok_chain, ok_bindOut, bo_nx, bo_rt, bo_bk, bo_ct, ok_finO, fo_nx, fo_rt, nx_nx, nx_rt, ok_mul, ok_mod, ok_div, ok_appG, ok_szG, ok_catG, decide_eq_true_eq, decide_eq_false_iff_not, Bool.not_eq_true', Bool.not_eq_false', cLe, cLt, reduceCtorEq, false_implies, true_implies, implies_true, and_true, true_and])
    refine ok_allP (fun _ => True) (fun r hr => ?_) fun _ _ _ => ?_
    · have := k.w r hr
      have := k.w2
      exact is_stretch_ok (by omega)
    · (try simp only [ok_some, ok_none, ok_bind, ok_lift1, ok_lift2, ok_lift3, ok_lift4, ok_bind2, ok_app1, ok_app2, ok_app3, ok_app4, ok_bif, ok_andG, ok_orG, ok_chain, ok_bindOut, bo_nx, bo_rt, bo_bk, bo_ct, ok_finO, fo_nx, fo_rt, nx_nx, nx_rt, ok_mul, ok_mod, ok_div, ok_appG, ok_szG, ok_catG, decide_eq_true_eq, decide_eq_false_iff_not, Bool.not_eq_true', Bool.not_eq_false', cLe, cLt, reduceCtorEq, false_implies, true_implies, implies_true, and_true, true_and, bo_er, fx_er, fx_rt, fx_nx, er_inl, er_inr, ok_app6, ok_lift5])
/-! ### sides -/
theorem two2 {l : List Int} (h : l.length = 2) : ∃ a b, l = [a, b] := by
  match l, h with
  | [a, b], _ => exact ⟨a, b, rfl⟩
theorem two_at {t : Tab} (k : TK t) {i j : Int} (i0 : 0 ≤ i) (i1 : i < t.length) (j0 : 0 ≤ j) (j1 : j < wd_ t) {P : Int → Prop} (p : P (el t i j)) : Ok (atI t i) fun x => Ok (atI x j) P := by
  have hl := k.w _ (row_mem i0 i1)
  exact ok_of (row_at i0 i1) ⟨_, (getD_at j0 (by rw [hl]; exact j1)).1, p⟩
theorem fits_ok {t : Tab} (k : TK t) {told : List Int} (h : told.length = t.length) : Ok (m_fits t told) fun _ => True := by
  unfold m_fits b_fits
  have l1 := k.l1; have l2 := k.l2; have w2 := k.w2
  (try simp only [ok_some, ok_none, ok_bind, ok_lift1, ok_lift2, ok_lift3, ok_lift4, ok_bind2, ok_app1, ok_app2, ok_app3, ok_app4, ok_bif, ok_andG, ok_orG, ok_chain, ok_bindOut, bo_nx, bo_rt, bo_bk, bo_ct, ok_finO, fo_nx, fo_rt, nx_nx, nx_rt, ok_mul, ok_mod, ok_div, ok_appG, ok_szG, ok_catG, decide_eq_true_eq, decide_eq_false_iff_not, Bool.not_eq_true', Bool.not_eq_false', cLe, cLt, reduceCtorEq, false_implies, true_implies, implies_true, and_true, true_and])
  refine ok_of (row0 l1) (ok_rng1 (by omega) (by omega) (ok_forU (fun _ => True) (fun i j hj _ => ?_) fun _ => ?_))
  · have hj := mem_rng.mp (List.mem_of_getElem? hj)
    have hw : wd_ t = (t.getD 0 []).length := rfl
    have hj1 : j < wd_ t := by omega
    refine ok_set (v := (rngL 0 t.length).filter fun i => !decide (el t i j = 0)) ?_ ?_
    · rw [ok_iff]
      (try simp only [ok_some, ok_none, ok_bind, ok_lift1, ok_lift2, ok_lift3, ok_lift4, ok_bind2, ok_app1, ok_app2, ok_app3, ok_app4, ok_bif, ok_andG, ok_orG, ok_chain, ok_bindOut, bo_nx, bo_rt, bo_bk, bo_ct, ok_finO, fo_nx, fo_rt, nx_nx, nx_rt, ok_mul, ok_mod, ok_div, ok_appG, ok_szG, ok_catG, decide_eq_true_eq, decide_eq_false_iff_not, Bool.not_eq_true', Bool.not_eq_false', cLe, cLt, reduceCtorEq, false_implies, true_implies, implies_true, and_true, true_and])
      refine ok_rng1 (by omega) (by omega) (ok_filter (fun i => !decide (el t i j = 0)) (fun i hi => ?_) rfl)
      have hi := mem_rng.mp hi
      show lift2 _ (bind2 atI (bind2 atI (some t) (some i)) (some j)) (some 0) = _
      rw [el_at k (by omega) (by omega) (by omega) hj1]
      rfl
    · have hin : ∀ x, x ∈ ((rngL 0 t.length).filter fun i => !decide (el t i j = 0)) → 0 ≤ x ∧ x < t.length := fun x hx => by
        have := mem_rng.mp (List.mem_filter.mp hx).1
        omega
      generalize ((rngL 0 t.length).filter fun i => !decide (el t i j = 0)) = own at *
      have two : own.length = 2 → ∃ a b, own = [a, b] := fun h2 => by
        match own, h2 with
        | [a, b], _ => exact ⟨a, b, rfl⟩
      (try simp only [ok_some, ok_none, ok_bind, ok_lift1, ok_lift2, ok_lift3, ok_lift4, ok_bind2, ok_app1, ok_app2, ok_app3, ok_app4, ok_bif, ok_andG, ok_orG, ok_chain, ok_bindOut, bo_nx, bo_rt, bo_bk, bo_ct, ok_finO, fo_nx, fo_rt, nx_nx, nx_rt, ok_mul, ok_mod, ok_div, ok_appG, ok_szG, ok_catG, decide_eq_true_eq, decide_eq_false_iff_not, Bool.not_eq_true', Bool.not_eq_false', cLe, cLt, reduceCtorEq, false_implies, true_implies, implies_true, and_true, true_and])
      intro c
      have two : own.length = 2 := by omega
      obtain ⟨a, b, rfl⟩ := two2 two
      have ha := hin a (by simp)
      have hb := hin b (by simp)
      obtain ⟨x, hx, _⟩ := atI_nat' (l := told) ha.1 (by omega)
      obtain ⟨y, hy, _⟩ := atI_nat' (l := told) hb.1 (by omega)
      have f0 : atI [a, b] 0 = some a := rfl
      have f1 : atI [a, b] 1 = some b := rfl
      exact ok_of f0 (ok_of hx (ok_of f1 (ok_of hy (ok_of f0 (two_at k ha.1 ha.2 (by omega) hj1 (ok_of f1 (two_at k hb.1 hb.2 (by omega) hj1 trivial)))))))
  · (try simp only [ok_some, ok_none, ok_bind, ok_lift1, ok_lift2, ok_lift3, ok_lift4, ok_bind2, ok_app1, ok_app2, ok_app3, ok_app4, ok_bif, ok_andG, ok_orG, ok_chain, ok_bindOut, bo_nx, bo_rt, bo_bk, bo_ct, ok_finO, fo_nx, fo_rt, nx_nx, nx_rt, ok_mul, ok_mod, ok_div, ok_appG, ok_szG, ok_catG, decide_eq_true_eq, decide_eq_false_iff_not, Bool.not_eq_true', Bool.not_eq_false', cLe, cLt, reduceCtorEq, false_implies, true_implies, implies_true, and_true, true_and, bo_er, fx_er, fx_rt, fx_nx, er_inl, er_inr, ok_app6, ok_lift5])
theorem sides_rz {t : Tab} : Rz (m_sides t) (chk t) := by
  unfold m_sides b_sides
  refine rz_fin (ok_outR check_table_eq (fun e he => ?_) fun hn _ => ?_)
  · exact he.symm
  · have k := chk_none hn
    have l1 := k.l1; have l2 := k.l2
    rw [hn]
    (try simp only [ok_some, ok_none, ok_bind, ok_lift1, ok_lift2, ok_lift3, ok_lift4, ok_bind2, ok_app1, ok_app2, ok_app3, ok_app4, ok_bif, ok_andG, ok_orG, ok_chain, ok_bindOut, bo_nx, bo_rt, bo_bk, bo_ct, ok_finO, fo_nx, fo_rt, nx_nx, nx_rt, ok_mul, ok_mod, ok_div, ok_appG, ok_szG, ok_catG, decide_eq_true_eq, decide_eq_false_iff_not, Bool.not_eq_true', Bool.not_eq_false', cLe, cLt, reduceCtorEq, false_implies, true_implies, implies_true, and_true, true_and])
    refine ⟨by simp, ok_mono (rows_from_ok (a := 0) (b := 1) l2) fun f hf => ok_forU (fun _ => True) (fun i s hs _ => ?_) fun _ => ?_⟩
    · have hs := hf.2 s (List.mem_of_getElem? hs)
      (try simp only [ok_some, ok_none, ok_bind, ok_lift1, ok_lift2, ok_lift3, ok_lift4, ok_bind2, ok_app1, ok_app2, ok_app3, ok_app4, ok_bif, ok_andG, ok_orG, ok_chain, ok_bindOut, bo_nx, bo_rt, bo_bk, bo_ct, ok_finO, fo_nx, fo_rt, nx_nx, nx_rt, ok_mul, ok_mod, ok_div, ok_appG, ok_szG, ok_catG, decide_eq_true_eq, decide_eq_false_iff_not, Bool.not_eq_true', Bool.not_eq_false', cLe, cLt, reduceCtorEq, false_implies, true_implies, implies_true, and_true, true_and])
      refine ok_mono (fits_ok k hs.1) fun r _ => ?_
      (try simp only [ok_some, ok_none, ok_bind, ok_lift1, ok_lift2, ok_lift3, ok_lift4, ok_bind2, ok_app1, ok_app2, ok_app3, ok_app4, ok_bif, ok_andG, ok_orG, ok_chain, ok_bindOut, bo_nx, bo_rt, bo_bk, bo_ct, ok_finO, fo_nx, fo_rt, nx_nx, nx_rt, ok_mul, ok_mod, ok_div, ok_appG, ok_szG, ok_catG, decide_eq_true_eq, decide_eq_false_iff_not, Bool.not_eq_true', Bool.not_eq_false', cLe, cLt, reduceCtorEq, false_implies, true_implies, implies_true, and_true, true_and, bo_er, fx_er, fx_rt, fx_nx, er_inl, er_inr, ok_app6, ok_lift5])
      try simp
    · (try simp only [ok_some, ok_none, ok_bind, ok_lift1, ok_lift2, ok_lift3, ok_lift4, ok_bind2, ok_app1, ok_app2, ok_app3, ok_app4, ok_bif, ok_andG, ok_orG, ok_chain, ok_bindOut, bo_nx, bo_rt, bo_bk, bo_ct, ok_finO, fo_nx, fo_rt, nx_nx, nx_rt, ok_mul, ok_mod, ok_div, ok_appG, ok_szG, ok_catG, decide_eq_true_eq, decide_eq_false_iff_not, Bool.not_eq_true', Bool.not_eq_false', cLe, cLt, reduceCtorEq, false_implies, true_implies, implies_true, and_true, true_and, bo_er, fx_er, fx_rt, fx_nx, er_inl, er_inr, ok_app6, ok_lift5])
/-! ### partings -/
def badI (t : Tab) (rows : List Int) (k r : Int) : Bool := !(decide (0 ≤ r) && decide (r < t.length)) || (decide (0 < k) && decide (r ≤ rows.getD (k - 1).toNat 0))
def chkR (t : Tab) (rows : List Int) : Option Er := match chk t with
  | some e => some e
  | none => (((rngL 0 rows.length).filter fun k => badI t rows k (rows.getD k.toNat 0)).head?).map fun k => ⟨"NotASet", k⟩
theorem badI_eq {t : Tab} {rows : List Int} {k r : Int} (h0 : 0 ≤ k) (h1 : k < rows.length) : (orG (lift1 (fun x => !x) (chainG cLe cLt (some (0 : Int)) (some r) (lift1 (fun l => (l.length : Int)) (some t)))) (andG (lift2 (fun i j => decide (j < i)) (some k) (some (0 : Int))) (lift2 (fun i j => decide (j ≤ i)) (bind2 atI (some rows) (lift2 (· - ·) (some k) (some (1 : Int)))) (some r)))) = some (badI t rows k r) := by
  rw [ok_iff]
  unfold badI
  (try simp only [ok_some, ok_none, ok_bind, ok_lift1, ok_lift2, ok_lift3, ok_lift4, ok_bind2, ok_app1, ok_app2, ok_app3, ok_app4, ok_bif, ok_andG, ok_orG, ok_chain, ok_bindOut, bo_nx, bo_rt, bo_bk, bo_ct, ok_finO, fo_nx, fo_rt, nx_nx, nx_rt, ok_mul, ok_mod, ok_div, ok_appG, ok_szG, ok_catG, decide_eq_true_eq, decide_eq_false_iff_not, Bool.not_eq_true', Bool.not_eq_false', cLe, cLt, reduceCtorEq, false_implies, true_implies, implies_true, and_true, true_and])
  refine ⟨fun a => ⟨fun b => by simp [b], fun b => ⟨fun c => ?_, fun c => ?_⟩⟩, fun a => by simp [a]⟩
  · obtain ⟨e, _⟩ := getD_at (r := rows) (j := k - 1) (by omega) (by omega)
    refine ok_of e ?_
    rw [decide_eq_true a, decide_eq_true b, decide_eq_true c]
    simp
  · rw [decide_eq_true a, decide_eq_true b, decide_eq_false c]
    simp
theorem chkR_none {t : Tab} {rows : List Int} (h : chkR t rows = none) : chk t = none ∧ inL t.length rows ∧ rows.length ≤ t.length := by
  unfold chkR at h
  cases hc : chk t with
  | some e => rw [hc] at h; cases h
  | none =>
    rw [hc] at h
    have h2 : ((rngL 0 rows.length).filter fun k => badI t rows k (rows.getD k.toNat 0)) = [] := by
      cases c : ((rngL 0 rows.length).filter fun k => badI t rows k (rows.getD k.toNat 0)) with
      | nil => rfl
      | cons x r => simp only [c] at h; cases h
    rw [List.filter_eq_nil_iff] at h2
    have key : ∀ i : Nat, i < rows.length → (0 ≤ rows.getD i 0 ∧ rows.getD i 0 < t.length) ∧ (0 < i → rows.getD (i - 1) 0 < rows.getD i 0) := fun i hi => by
      have := h2 (i : Int) (mem_rng.mpr ⟨by omega, by omega⟩)
      unfold badI at this
      simp only [Int.toNat_natCast, Bool.not_eq_true, Bool.or_eq_false_iff, Bool.not_eq_false', Bool.and_eq_true, Bool.and_eq_false_iff, decide_eq_true_eq, decide_eq_false_iff_not] at this
      obtain ⟨a, b⟩ := this
      refine ⟨a, fun h0 => ?_⟩
      have e : ((i : Int) - 1).toNat = i - 1 := by omega
      rw [e] at b
      omega
    have asc : ∀ i : Nat, i < rows.length → (i : Int) ≤ rows.getD i 0 := by
      intro i
      induction i with
      | zero => intro h; exact (key 0 h).1.1
      | succ i ih =>
        intro h
        have h1 := ih (by omega)
        have h2 := (key (i + 1) h).2 (by omega)
        rw [Nat.add_sub_cancel] at h2
        omega
    refine ⟨rfl, fun x hx => ?_, ?_⟩
    · obtain ⟨i, hi, rfl⟩ := List.getElem_of_mem hx
      have := (key i hi).1
      simpa [List.getD, List.getElem?_eq_getElem hi] using this
    · by_cases c : rows.length = 0
      · omega
      · have h1 := asc (rows.length - 1) (by omega)
        have h2 := (key (rows.length - 1) (by omega)).1.2
        omega
theorem partings_rz {t : Tab} {rows : List Int} : Rz (m_partings t rows) (chkR t rows) := by
  unfold m_partings b_partings
  refine rz_fin (ok_outR check_table_eq (fun e he => ?_) fun hn _ => ?_)
  · show some e = _
    unfold chkR
    rw [he]
  · have k := chk_none hn
    have l1 := k.l1; have l2 := k.l2
    have fe := find_enum 0 rows (fun k r => badI t rows k r) "NotASet"
    have ec : chkR t rows = (((rngL 0 rows.length).filter fun k => badI t rows k (rows.getD k.toNat 0)).head?).map fun k => ⟨"NotASet", k⟩ := by
      unfold chkR; rw [hn]
    rw [← ec] at fe
    refine ok_set (v := enumL rows) rfl (ok_bindOut.mpr (ok_forE (fun (y : T2 Int Int) => if badI t rows y.a y.b = true then some ⟨"NotASet", y.a⟩ else none) (fun y hy => ?_) (fun e he => ?_) (fun hn2 => ?_)))
    · have hy : 0 ≤ y.a ∧ y.a < rows.length := by
        rw [enumL_eqD (0 : Int)] at hy
        obtain ⟨k, hk, rfl⟩ := List.mem_map.mp hy
        have := mem_rng.mp hk
        exact ⟨by show 0 ≤ k; omega, by show k < _; omega⟩
      rw [ok_iff]
      refine ok_set (badI_eq hy.1 hy.2) ?_
      cases c : badI t rows y.a y.b <;> exact ⟨_, rfl, rfl⟩
    · rw [fe] at he
      show some e = _
      exact he.symm
    · rw [fe] at hn2
      obtain ⟨_, q1, q2⟩ := chkR_none hn2
      show Ok _ _
      rw [hn2]
      (try simp only [ok_some, ok_none, ok_bind, ok_lift1, ok_lift2, ok_lift3, ok_lift4, ok_bind2, ok_app1, ok_app2, ok_app3, ok_app4, ok_bif, ok_andG, ok_orG, ok_chain, ok_bindOut, bo_nx, bo_rt, bo_bk, bo_ct, ok_finO, fo_nx, fo_rt, nx_nx, nx_rt, ok_mul, ok_mod, ok_div, ok_appG, ok_szG, ok_catG, decide_eq_true_eq, decide_eq_false_iff_not, Bool.not_eq_true', Bool.not_eq_false', cLe, cLt, reduceCtorEq, false_implies, true_implies, implies_true, and_true, true_and])
      refine ok_mono (parting_of_ok k q1 (by omega)) fun r _ => ?_
      (try simp only [ok_some, ok_none, ok_bind, ok_lift1, ok_lift2, ok_lift3, ok_lift4, ok_bind2, ok_app1, ok_app2, ok_app3, ok_app4, ok_bif, ok_andG, ok_orG, ok_chain, ok_bindOut, bo_nx, bo_rt, bo_bk, bo_ct, ok_finO, fo_nx, fo_rt, nx_nx, nx_rt, ok_mul, ok_mod, ok_div, ok_appG, ok_szG, ok_catG, decide_eq_true_eq, decide_eq_false_iff_not, Bool.not_eq_true', Bool.not_eq_false', cLe, cLt, reduceCtorEq, false_implies, true_implies, implies_true, and_true, true_and, bo_er, fx_er, fx_rt, fx_nx, er_inl, er_inr, ok_app6, ok_lift5])
end Lay.K42

set_option Elab.async false
set_option linter.all false
set_option maxRecDepth 100000
namespace Lay.K42
open PySem PySem.Spec PyProof.Rows L2 Lay
open Lay.Enc (enc)
theorem gcd_log {n d : Int} {k : Nat} (h : 0 < d) (h2 : d.natAbs < 2 ^ k) (hk : k ≤ 8000) : DivOk (gcdI n d) := by
  have g := gcd_pos (n := n) h
  have g2 := gcd_le (n := n) h
  refine ⟨g, ?_⟩
  have : (gcdI n d).natAbs < 2 ^ k := by omega
  have := log2_bq this
  omega
theorem fraction_eq {n d : Int} {k : Nat} (h : 0 < d) (h2 : d.natAbs < 2 ^ k) (hk : k ≤ 8000) : m_fraction n d = some (frac n d) := by
  rw [ok_iff]
  unfold m_fraction b_fraction
  have g := gcd_log (n := n) h h2 hk
  (try simp only [ok_some, ok_none, ok_bind, ok_lift1, ok_lift2, ok_lift3, ok_lift4, ok_bind2, ok_app1, ok_app2, ok_app3, ok_app4, ok_bif, ok_andG, ok_orG, ok_chain, ok_bindOut, bo_nx, bo_rt, bo_bk, bo_ct, ok_finO, fo_nx, fo_rt, nx_nx, nx_rt, ok_mul, ok_mod, ok_div, ok_appG, ok_szG, ok_catG, decide_eq_true_eq, decide_eq_false_iff_not, Bool.not_eq_true', Bool.not_eq_false', cLe, cLt, reduceCtorEq, false_implies, true_implies, implies_true, and_true, true_and])
  exact ⟨fun c => absurd c (by omega), fun _ => ⟨g, g, rfl⟩⟩
theorem den_bits {x y : Rat} {j k : Nat} (hx : Bq j x) (hy : Bq k y) : 0 < (ofR x).b * (ofR y).b ∧ ((ofR x).b * (ofR y).b).natAbs < 2 ^ (j + k) := by
  refine ⟨Int.mul_pos (den_pos x) (den_pos y), ?_⟩
  rw [Int.natAbs_mul]; exact lt_mul hx.2 hy.2
theorem cross {x y : Rat} {j k : Nat} (hx : Bq j x) (hy : Bq k y) (h : j + k ≤ 8000) : MulOk (ofR x).a (ofR y).b ∧ MulOk (ofR y).a (ofR x).b ∧ MulOk (ofR x).b (ofR y).b ∧ MulOk (ofR x).a (ofR y).a ∧ MulOk (ofR x).b (ofR y).a :=
  ⟨mulOk_bits (i := (ofR x).a) (j := (ofR y).b) hx.1 hy.2 (by omega), mulOk_bits (i := (ofR y).a) (j := (ofR x).b) hy.1 hx.2 (by omega), mulOk_bits (i := (ofR x).b) (j := (ofR y).b) hx.2 hy.2 (by omega), mulOk_bits (i := (ofR x).a) (j := (ofR y).a) hx.1 hy.1 (by omega), mulOk_bits (i := (ofR x).b) (j := (ofR y).a) hx.2 hy.1 (by omega)⟩

theorem plus_eq {x y : Rat} {j k : Nat} (hx : Bq j x) (hy : Bq k y) (h : j + k ≤ 8000) : m_plus (ofR x) (ofR y) = some (ofR (x + y)) := by
  rw [ok_iff]
  unfold m_plus b_plus
  obtain ⟨h1, h2, h3, _⟩ := cross hx hy h
  obtain ⟨p1, p2⟩ := den_bits hx hy
  (try simp only [ok_some, ok_none, ok_bind, ok_lift1, ok_lift2, ok_lift3, ok_lift4, ok_bind2, ok_app1, ok_app2, ok_app3, ok_app4, ok_bif, ok_andG, ok_orG, ok_chain, ok_bindOut, bo_nx, bo_rt, bo_bk, bo_ct, ok_finO, fo_nx, fo_rt, nx_nx, nx_rt, ok_mul, ok_mod, ok_div, ok_appG, ok_szG, ok_catG, decide_eq_true_eq, decide_eq_false_iff_not, Bool.not_eq_true', Bool.not_eq_false', cLe, cLt, reduceCtorEq, false_implies, true_implies, implies_true, and_true, true_and])
  exact ⟨h1, h2, h3, ok_of (fraction_eq p1 p2 h) (add_frac x y)⟩

theorem times_eq {x y : Rat} {j k : Nat} (hx : Bq j x) (hy : Bq k y) (h : j + k ≤ 8000) : m_times (ofR x) (ofR y) = some (ofR (x * y)) := by
  rw [ok_iff]
  unfold m_times b_times
  obtain ⟨h1, h2, h3, h4, _⟩ := cross hx hy h
  obtain ⟨p1, p2⟩ := den_bits hx hy
  (try simp only [ok_some, ok_none, ok_bind, ok_lift1, ok_lift2, ok_lift3, ok_lift4, ok_bind2, ok_app1, ok_app2, ok_app3, ok_app4, ok_bif, ok_andG, ok_orG, ok_chain, ok_bindOut, bo_nx, bo_rt, bo_bk, bo_ct, ok_finO, fo_nx, fo_rt, nx_nx, nx_rt, ok_mul, ok_mod, ok_div, ok_appG, ok_szG, ok_catG, decide_eq_true_eq, decide_eq_false_iff_not, Bool.not_eq_true', Bool.not_eq_false', cLe, cLt, reduceCtorEq, false_implies, true_implies, implies_true, and_true, true_and])
  exact ⟨h4, h3, ok_of (fraction_eq p1 p2 h) (mul_frac x y)⟩

theorem total_eq {l : List Rat} {k : Nat} (h : ∀ x, x ∈ l → Bq k x) (hk : l.length * (k + 1) + 1 + k ≤ 8000) : m_total (l.map ofR) = some (ofR (sumR l)) := by
  rw [ok_iff]
  unfold m_total b_total
  (try simp only [ok_some, ok_none, ok_bind, ok_lift1, ok_lift2, ok_lift3, ok_lift4, ok_bind2, ok_app1, ok_app2, ok_app3, ok_app4, ok_bif, ok_andG, ok_orG, ok_chain, ok_bindOut, bo_nx, bo_rt, bo_bk, bo_ct, ok_finO, fo_nx, fo_rt, nx_nx, nx_rt, ok_mul, ok_mod, ok_div, ok_appG, ok_szG, ok_catG, decide_eq_true_eq, decide_eq_false_iff_not, Bool.not_eq_true', Bool.not_eq_false', cLe, cLt, reduceCtorEq, false_implies, true_implies, implies_true, and_true, true_and])
  refine ok_for (fun i s => s = ofR (sumR (l.take i))) rfl (fun i s y hy hs => ?_) fun s hs => ?_
  · subst hs
    rw [List.getElem?_map] at hy
    cases c : l[i]? with
    | none => rw [c] at hy; cases hy
    | some x =>
      rw [c] at hy; cases hy
      have hi := (List.getElem?_eq_some_iff.mp c).1
      have hm := List.mem_of_getElem? c
      have b1 := bq_sum (l := l.take i) (k := k) fun z hz => h z (List.mem_of_mem_take hz)
      have hl : (l.take i).length ≤ l.length := by rw [List.length_take]; omega
      have b2 := b1.mono (k := l.length * (k + 1) + 1) (by have := Nat.mul_le_mul_right (k + 1) hl; omega)
      (try simp only [ok_some, ok_none, ok_bind, ok_lift1, ok_lift2, ok_lift3, ok_lift4, ok_bind2, ok_app1, ok_app2, ok_app3, ok_app4, ok_bif, ok_andG, ok_orG, ok_chain, ok_bindOut, bo_nx, bo_rt, bo_bk, bo_ct, ok_finO, fo_nx, fo_rt, nx_nx, nx_rt, ok_mul, ok_mod, ok_div, ok_appG, ok_szG, ok_catG, decide_eq_true_eq, decide_eq_false_iff_not, Bool.not_eq_true', Bool.not_eq_false', cLe, cLt, reduceCtorEq, false_implies, true_implies, implies_true, and_true, true_and])
      refine ok_of (plus_eq b2 (h x hm) (by omega)) ?_
      rw [take1 c, sumR_append]
      simp [Rat.add_zero]
  · subst hs
    rw [List.length_map, List.take_length]
    (try simp only [ok_some, ok_none, ok_bind, ok_lift1, ok_lift2, ok_lift3, ok_lift4, ok_bind2, ok_app1, ok_app2, ok_app3, ok_app4, ok_bif, ok_andG, ok_orG, ok_chain, ok_bindOut, bo_nx, bo_rt, bo_bk, bo_ct, ok_finO, fo_nx, fo_rt, nx_nx, nx_rt, ok_mul, ok_mod, ok_div, ok_appG, ok_szG, ok_catG, decide_eq_true_eq, decide_eq_false_iff_not, Bool.not_eq_true', Bool.not_eq_false', cLe, cLt, reduceCtorEq, false_implies, true_implies, implies_true, and_true, true_and])

theorem neg_div_neg (n d : Int) : ((-n : Int) : Rat) / ((-d : Int) : Rat) = (n : Rat) / (d : Rat) := by
  rw [Rat.intCast_neg, Rat.intCast_neg]; grind
theorem fraction_ne {n d : Int} {k : Nat} (h : d ≠ 0) (h2 : d.natAbs < 2 ^ k) (hk : k ≤ 8000) : m_fraction n d = some (ofR ((n : Rat) / (d : Rat))) := by
  by_cases c : 0 < d
  · rw [fraction_eq c h2 hk, frac_div c]
  · have c' : 0 < -d := by omega
    rw [← neg_div_neg, ← frac_div c']
    rw [ok_iff]
    unfold m_fraction b_fraction
    have g := gcd_log (n := -n) c' (k := k) (by omega) hk
    (try simp only [ok_some, ok_none, ok_bind, ok_lift1, ok_lift2, ok_lift3, ok_lift4, ok_bind2, ok_app1, ok_app2, ok_app3, ok_app4, ok_bif, ok_andG, ok_orG, ok_chain, ok_bindOut, bo_nx, bo_rt, bo_bk, bo_ct, ok_finO, fo_nx, fo_rt, nx_nx, nx_rt, ok_mul, ok_mod, ok_div, ok_appG, ok_szG, ok_catG, decide_eq_true_eq, decide_eq_false_iff_not, Bool.not_eq_true', Bool.not_eq_false', cLe, cLt, reduceCtorEq, false_implies, true_implies, implies_true, and_true, true_and])
    exact ⟨fun _ => ⟨g, g, rfl⟩, fun z => absurd z (by omega)⟩

theorem bq_quot {n d : Int} {k : Nat} (h : n.natAbs < 2 ^ k) (h2 : d.natAbs < 2 ^ k) (hd : d ≠ 0) : Bq k ((n : Rat) / (d : Rat)) := by
  have e : ((2 ^ k : Nat) : Int) = 2 ^ k := by simp
  by_cases c : 0 < d
  · exact bq_div h (by omega) c
  · rw [← neg_div_neg]; exact bq_div (by omega) (by omega) (by omega)

/-! ### minors of a bad square -/
def cutP (l : List Int) (p : Nat) : List Int := l.take p ++ l.drop (p + 1)
theorem cutP_sub {l : List Int} {p : Nat} : (cutP l p).Sublist l := by
  have h : (l.take p ++ l.drop (p + 1)).Sublist (l.take p ++ l.drop p) := (List.Sublist.refl _).append (by
    rw [show p + 1 = p + 1 from rfl, ← List.drop_drop]
    exact List.drop_sublist _ _)
  rwa [List.take_append_drop] at h
theorem cutP_len {l : List Int} {p m : Nat} (h : l.length = m + 1) (hp : p < m + 1) : (cutP l p).length = m := by
  unfold cutP
  rw [List.length_append, List.length_take, List.length_drop]; omega
theorem chC_cut {many m p : Nat} {l : List Int} (h : l ∈ chC many ((m + 1 : Nat) : Int)) (hp : p < m + 1) : cutP l p ∈ chC many (m : Int) := by
  obtain ⟨a, b⟩ := (chC_mem (by omega)).mp h
  exact (chC_mem (by omega)).mpr ⟨cutP_sub.trans a, by have := cutP_len (l := l) (m := m) (by omega) hp; omega⟩
def minor (t : Tab) (rows cols : List Int) (m p j : Nat) : Int := mes m (sqL t (cutP rows p) (cutP cols j))
theorem minor_b {t : Tab} {rows cols : List Int} {m p j : Nat} (B : Bad t rows cols (m + 1)) (hp : p < m + 1) (hj : j < m + 1) : -1 ≤ minor t rows cols m p j ∧ minor t rows cols m p j ≤ 1 := by
  unfold minor
  by_cases c : m = 0
  · subst c; simp [mes]
  · have h := B.less (m : Int) (by omega) (by omega) _ (chC_cut B.r hp) _ (chC_cut B.c hj)
    rw [Int.toNat_natCast] at h
    exact ⟨h.2, h.1⟩
theorem rest_minor {t : Tab} {rows cols : List Int} {m j : Nat} : mes m (restR (sqL t rows cols) j) = minor t rows cols m 0 j := by
  unfold minor
  congr 1
  unfold restR sqL cutP
  rw [← List.map_drop, List.map_map, List.take_zero, List.nil_append, Nat.zero_add]
  refine List.map_congr_left fun i _ => ?_
  show (cols.map fun j => el t i j).take j ++ (cols.map fun j => el t i j).drop (j + 1) = _
  rw [List.map_append, List.map_take, List.map_drop]
theorem sumN_zero {f : Nat → Int} : ∀ {n : Nat}, (∀ j, j < n → f j = 0) → sumN f n = 0
  | 0, _ => rfl
  | n + 1, h => by simp only [sumN]; rw [sumN_zero fun j hj => h j (by omega), h n (by omega)]; rfl
theorem some_minor {t : Tab} {rows cols : List Int} {m : Nat} (B : Bad t rows cols (m + 1)) : ∃ j, j < m + 1 ∧ minor t rows cols m 0 j ≠ 0 := by
  refine Classical.byContradiction fun c => ?_
  have h : mes (m + 1) (sqL t rows cols) = 0 := by
    show sumN (mterm (mes m) (sqL t rows cols)) (m + 1) = 0
    refine sumN_zero fun j hj => ?_
    have h0 : minor t rows cols m 0 j = 0 := Classical.byContradiction fun q => c ⟨j, hj, q⟩
    unfold mterm
    rw [rest_minor, h0, Int.mul_zero]
  have := B.big
  omega
/-! ### a column of the inverse -/
def IsF (k : Nat) (q : T2 Int Int) : Prop := ∃ x : Rat, q = ofR x ∧ Bq k x
theorem den_big {n d : Int} (hn : n = 1 ∨ n = -1) (hd : d < -1 ∨ 1 < d) : 1 < (ofR ((n : Rat) / (d : Rat))).b := by
  have hp := den_pos ((n : Rat) / (d : Rat))
  have hdr : (d : Rat) ≠ 0 := fun c => by
    have : d = 0 := Rat.intCast_inj.mp (by rw [c]; rfl)
    omega
  show 1 < ((((n : Rat) / (d : Rat)).den : Nat) : Int)
  refine Classical.byContradiction fun c => ?_
  have h1 : (((n : Rat) / (d : Rat)).den) = 1 := by omega
  have e := num_den ((n : Rat) / (d : Rat))
  rw [h1] at e
  generalize ((n : Rat) / (d : Rat)).num = z at e
  have e2 : (z : Rat) * (d : Rat) = (n : Rat) := by
    have : (z : Rat) = (n : Rat) / (d : Rat) := by rw [← e]; simp [Rat.div_def]; grind
    rw [this]; grind
  have e3 : z * d = n := Rat.intCast_inj.mp (by rw [Rat.intCast_mul]; exact e2)
  have e4 : z.natAbs * d.natAbs = 1 := by rw [← Int.natAbs_mul, e3]; omega
  have e5 : d.natAbs = 1 := Nat.eq_one_of_mul_eq_one_left e4
  omega
structure CF (t : Tab) (rows cols : List Int) (m p : Nat) (c : List (T2 Int Int)) : Prop where
  len : c.length = m + 1
  f : ∀ q, q ∈ c → IsF 13 q
  big : ∀ j, j < m + 1 → minor t rows cols m p j ≠ 0 → ∃ q, q ∈ c ∧ 1 < q.b
theorem column_of_ok {t : Tab} (k : TK t) {rows cols : List Int} {m p : Nat} (B : Bad t rows cols (m + 1)) (h5 : m + 1 ≤ 5) (hp : p < m + 1) : Ok (m_column_of t rows cols p) (CF t rows cols m p) := by
  unfold m_column_of b_column_of
  obtain ⟨ri, rl⟩ := chC_in (by omega) B.r
  obtain ⟨ci, cl⟩ := chC_in (by omega) B.c
  have rl : rows.length = m + 1 := by omega
  have cl : cols.length = m + 1 := by omega
  have sq := sqL_sq k ri ci rl cl
  have ms := mes_small sq h5
  have big := B.big
  (try simp only [ok_some, ok_none, ok_bind, ok_lift1, ok_lift2, ok_lift3, ok_lift4, ok_bind2, ok_app1, ok_app2, ok_app3, ok_app4, ok_bif, ok_andG, ok_orG, ok_chain, ok_bindOut, bo_nx, bo_rt, bo_bk, bo_ct, ok_finO, fo_nx, fo_rt, nx_nx, nx_rt, ok_mul, ok_mod, ok_div, ok_appG, ok_szG, ok_catG, decide_eq_true_eq, decide_eq_false_iff_not, Bool.not_eq_true', Bool.not_eq_false', cLe, cLt, reduceCtorEq, false_implies, true_implies, implies_true, and_true, true_and])
  refine ok_of (square_at_eq k ri ci) (ok_of (measure_sq k ri ci rl cl h5) ⟨by simp, ok_rng1 (by omega) (by omega) (ok_for (fun i (s : List (T2 Int Int)) => s.length = i ∧ (∀ q, q ∈ s → IsF 13 q) ∧ ∀ j, j < i → minor t rows cols m p j ≠ 0 → ∃ q, q ∈ s ∧ 1 < q.b) ⟨rfl, fun q hq => (by cases hq), fun j hj => absurd hj (by omega)⟩ (fun i s x hx hs => ?_) fun s hs => ?_)⟩)
  · obtain ⟨hi, rfl⟩ := rng_get hx
    have hi : i < m + 1 := by omega
    have e1 : cutL rows none (some (p : Int)) = rows.take p := cut_to (by omega)
    have e2 : cutL rows (some ((p : Int) + 1)) none = rows.drop (p + 1) := cut_from (n := p + 1) (by omega)
    have e3 : cutL cols none (some (i : Int)) = cols.take i := cut_to (by omega)
    have e4 : cutL cols (some ((i : Int) + 1)) none = cols.drop (i + 1) := cut_from (n := i + 1) (by omega)
    obtain ⟨r1, r2⟩ := chC_in (many := t.length) (size := (m : Int)) (by omega) (chC_cut B.r hp)
    obtain ⟨c1, c2⟩ := chC_in (many := wd_ t) (size := (m : Int)) (by omega) (chC_cut B.c hi)
    have em := measure_sq k r1 c1 (n := m) (by omega) (by omega) (by omega)
    have esq := square_at_eq k r1 c1
    have mb := minor_b B hp hi
    have key : ∀ z : Int, z = 1 ∨ z = -1 → Ok (m_fraction (z * minor t rows cols m p i) (mes (m + 1) (sqL t rows cols))) fun q => IsF 13 q ∧ (minor t rows cols m p i ≠ 0 → 1 < q.b) := fun z hz => by
      have zb : (z * minor t rows cols m p i).natAbs ≤ 1 ∧ (minor t rows cols m p i ≠ 0 → z * minor t rows cols m p i = 1 ∨ z * minor t rows cols m p i = -1) := by
        rcases hz with rfl | rfl <;> omega
      generalize z * minor t rows cols m p i = y at *
      refine ok_of (fraction_ne (k := 13) (by omega) (by omega) (by decide)) ⟨⟨_, rfl, bq_quot (by omega) (by omega) (by omega)⟩, fun c => den_big (zb.2 c) big⟩
    have fin : ∀ {x : T2 Int Int}, (IsF 13 x ∧ (minor t rows cols m p i ≠ 0 → 1 < x.b)) → s.length < 16777216 ∧ (s ++ [x]).length = i + 1 ∧ (∀ (q : T2 Int Int), q ∈ s ++ [x] → IsF 13 q) ∧ ∀ (j : Nat), j < i + 1 → minor t rows cols m p j ≠ 0 → ∃ q, q ∈ s ++ [x] ∧ 1 < q.b := fun {x} hx => by
      obtain ⟨h1, h2, h3⟩ := hs
      refine ⟨by omega, by simp; omega, fun q hq => ?_, fun j hj hm => ?_⟩
      · rcases List.mem_append.mp hq with hq | hq
        · exact h2 q hq
        · rw [List.mem_singleton] at hq; subst hq; exact hx.1
      · by_cases c : j < i
        · obtain ⟨q, q1, q2⟩ := h3 j c hm
          exact ⟨q, List.mem_append_left _ q1, q2⟩
        · have : j = i := by omega
          subst this
          exact ⟨x, by simp, hx.2 hm⟩
    rw [Int.zero_add]
    (try simp only [ok_some, ok_none, ok_bind, ok_lift1, ok_lift2, ok_lift3, ok_lift4, ok_bind2, ok_app1, ok_app2, ok_app3, ok_app4, ok_bif, ok_andG, ok_orG, ok_chain, ok_bindOut, bo_nx, bo_rt, bo_bk, bo_ct, ok_finO, fo_nx, fo_rt, nx_nx, nx_rt, ok_mul, ok_mod, ok_div, ok_appG, ok_szG, ok_catG, decide_eq_true_eq, decide_eq_false_iff_not, Bool.not_eq_true', Bool.not_eq_false', cLe, cLt, reduceCtorEq, false_implies, true_implies, implies_true, and_true, true_and])
    rw [e1, e2, e3, e4]
    refine ⟨by simp; omega, by simp; omega, ok_of esq ⟨by decide, fun _ => ok_of em ⟨mulOk (by decide) (by unfold minor at mb; omega), ok_mono (key (-1) (.inr rfl)) fun x hx => fin hx⟩, fun _ => ok_of em ⟨mulOk (by decide) (by unfold minor at mb; omega), ok_mono (key 1 (.inl rfl)) fun x hx => fin hx⟩⟩⟩
  · (try simp only [ok_some, ok_none, ok_bind, ok_lift1, ok_lift2, ok_lift3, ok_lift4, ok_bind2, ok_app1, ok_app2, ok_app3, ok_app4, ok_bif, ok_andG, ok_orG, ok_chain, ok_bindOut, bo_nx, bo_rt, bo_bk, bo_ct, ok_finO, fo_nx, fo_rt, nx_nx, nx_rt, ok_mul, ok_mod, ok_div, ok_appG, ok_szG, ok_catG, decide_eq_true_eq, decide_eq_false_iff_not, Bool.not_eq_true', Bool.not_eq_false', cLe, cLt, reduceCtorEq, false_implies, true_implies, implies_true, and_true, true_and])
    rw [rng_len] at hs
    exact ⟨by omega, hs.2.1, fun j hj => hs.2.2 j (by omega)⟩
theorem isF_list {k : Nat} : ∀ {l : List (T2 Int Int)}, (∀ q, q ∈ l → IsF k q) → ∃ xs : List Rat, l = xs.map ofR ∧ ∀ x, x ∈ xs → Bq k x
  | [], _ => ⟨[], rfl, fun x h => (by cases h)⟩
  | q :: l, h => by
    obtain ⟨x, rfl, hx⟩ := h q (by simp)
    obtain ⟨xs, rfl, hxs⟩ := isF_list (l := l) fun q hq => h q (by simp [hq])
    exact ⟨x :: xs, rfl, fun y hy => by
      rcases List.mem_cons.mp hy with rfl | hy
      · exact hx
      · exact hxs y hy⟩
theorem IsF.mono {j k : Nat} {q : T2 Int Int} (h : IsF j q) (hk : j ≤ k) : IsF k q := let ⟨x, e, b⟩ := h; ⟨x, e, b.mono hk⟩
theorem ofI (n : Int) : (⟨n, 1⟩ : T2 Int Int) = ofR (n : Rat) := by
  show _ = T2.mk ((n : Rat)).num (((n : Rat)).den : Int)
  rw [Rat.num_intCast, Rat.den_intCast]; rfl
theorem lifted_ok {l : List (T2 Int Int)} (h : ∀ q, q ∈ l → IsF 13 q) : Ok (m_lifted l) fun r => r.length = l.length ∧ ∀ q, q ∈ r → IsF 30 q := by
  unfold m_lifted b_lifted
  (try simp only [ok_some, ok_none, ok_bind, ok_lift1, ok_lift2, ok_lift3, ok_lift4, ok_bind2, ok_app1, ok_app2, ok_app3, ok_app4, ok_bif, ok_andG, ok_orG, ok_chain, ok_bindOut, bo_nx, bo_rt, bo_bk, bo_ct, ok_finO, fo_nx, fo_rt, nx_nx, nx_rt, ok_mul, ok_mod, ok_div, ok_appG, ok_szG, ok_catG, decide_eq_true_eq, decide_eq_false_iff_not, Bool.not_eq_true', Bool.not_eq_false', cLe, cLt, reduceCtorEq, false_implies, true_implies, implies_true, and_true, true_and])
  refine ok_allP (fun q => IsF 30 q) (fun q hq => ?_) fun m hl hm => ?_
  · obtain ⟨x, rfl, hx⟩ := h q hq
    (try simp only [ok_some, ok_none, ok_bind, ok_lift1, ok_lift2, ok_lift3, ok_lift4, ok_bind2, ok_app1, ok_app2, ok_app3, ok_app4, ok_bif, ok_andG, ok_orG, ok_chain, ok_bindOut, bo_nx, bo_rt, bo_bk, bo_ct, ok_finO, fo_nx, fo_rt, nx_nx, nx_rt, ok_mul, ok_mod, ok_div, ok_appG, ok_szG, ok_catG, decide_eq_true_eq, decide_eq_false_iff_not, Bool.not_eq_true', Bool.not_eq_false', cLe, cLt, reduceCtorEq, false_implies, true_implies, implies_true, and_true, true_and])
    have hd : DivOk (ofR x).b := divOk (den_pos x) (by have := hx.2; show ((x.den : Int)).natAbs < _; omega)
    refine ⟨fun c => ⟨hd, ?_⟩, fun _ => ⟨x, rfl, hx.mono (by decide)⟩⟩
    rw [ofI]
    have hb : Bq 13 ((-((ofR x).a / (ofR x).b) : Int) : Rat) := bq_int (by
      have h1 := hx.1
      have h2 := Int.natAbs_ediv_le_natAbs (ofR x).a (ofR x).b
      show (-((ofR x).a / (ofR x).b)).natAbs < _
      rw [Int.natAbs_neg]
      have h3 : (ofR x).a.natAbs < 2 ^ 13 := h1
      omega) (by decide)
    exact ok_of (plus_eq hx hb (by decide)) ⟨_, rfl, (bq_add hx hb).mono (by decide)⟩
  · (try simp only [ok_some, ok_none, ok_bind, ok_lift1, ok_lift2, ok_lift3, ok_lift4, ok_bind2, ok_app1, ok_app2, ok_app3, ok_app4, ok_bif, ok_andG, ok_orG, ok_chain, ok_bindOut, bo_nx, bo_rt, bo_bk, bo_ct, ok_finO, fo_nx, fo_rt, nx_nx, nx_rt, ok_mul, ok_mod, ok_div, ok_appG, ok_szG, ok_catG, decide_eq_true_eq, decide_eq_false_iff_not, Bool.not_eq_true', Bool.not_eq_false', cLe, cLt, reduceCtorEq, false_implies, true_implies, implies_true, and_true, true_and])
    exact ⟨hl, hm⟩
theorem sum_of_ok {row : List Int} (hr : ∀ x, x ∈ row → -1 ≤ x ∧ x ≤ 1) (h5 : row.length ≤ 5) {told : List (T2 Int Int)} (h : ∀ q, q ∈ told → IsF 30 q) : Ok (m_sum_of row told) (IsF 200) := by
  unfold m_sum_of b_sum_of
  (try simp only [ok_some, ok_none, ok_bind, ok_lift1, ok_lift2, ok_lift3, ok_lift4, ok_bind2, ok_app1, ok_app2, ok_app3, ok_app4, ok_bif, ok_andG, ok_orG, ok_chain, ok_bindOut, bo_nx, bo_rt, bo_bk, bo_ct, ok_finO, fo_nx, fo_rt, nx_nx, nx_rt, ok_mul, ok_mod, ok_div, ok_appG, ok_szG, ok_catG, decide_eq_true_eq, decide_eq_false_iff_not, Bool.not_eq_true', Bool.not_eq_false', cLe, cLt, reduceCtorEq, false_implies, true_implies, implies_true, and_true, true_and])
  refine ok_allP (fun q => IsF 31 q) (fun z hz => ?_) fun l hl hm => ?_
  · obtain ⟨z1, z2⟩ := zip_mem hz
    obtain ⟨x, ex, hx⟩ := h _ z2
    have hb := hr _ z1
    have b1 : Bq 1 ((z.a : Int) : Rat) := bq_int (by omega) (by decide)
    (try simp only [ok_some, ok_none, ok_bind, ok_lift1, ok_lift2, ok_lift3, ok_lift4, ok_bind2, ok_app1, ok_app2, ok_app3, ok_app4, ok_bif, ok_andG, ok_orG, ok_chain, ok_bindOut, bo_nx, bo_rt, bo_bk, bo_ct, ok_finO, fo_nx, fo_rt, nx_nx, nx_rt, ok_mul, ok_mod, ok_div, ok_appG, ok_szG, ok_catG, decide_eq_true_eq, decide_eq_false_iff_not, Bool.not_eq_true', Bool.not_eq_false', cLe, cLt, reduceCtorEq, false_implies, true_implies, implies_true, and_true, true_and])
    rw [ofI, ex]
    exact ok_of (times_eq b1 hx (by decide)) ⟨_, rfl, bq_mul b1 hx⟩
  · obtain ⟨xs, rfl, hxs⟩ := isF_list hm
    have h4 : xs.length ≤ 5 := by
      rw [List.length_map] at hl
      rw [hl]
      unfold zipL
      rw [List.length_zipWith]; omega
    have h6 : xs.length * 32 ≤ 5 * 32 := Nat.mul_le_mul_right 32 h4
    (try simp only [ok_some, ok_none, ok_bind, ok_lift1, ok_lift2, ok_lift3, ok_lift4, ok_bind2, ok_app1, ok_app2, ok_app3, ok_app4, ok_bif, ok_andG, ok_orG, ok_chain, ok_bindOut, bo_nx, bo_rt, bo_bk, bo_ct, ok_finO, fo_nx, fo_rt, nx_nx, nx_rt, ok_mul, ok_mod, ok_div, ok_appG, ok_szG, ok_catG, decide_eq_true_eq, decide_eq_false_iff_not, Bool.not_eq_true', Bool.not_eq_false', cLe, cLt, reduceCtorEq, false_implies, true_implies, implies_true, and_true, true_and])
    exact ok_of (total_eq hxs (by omega)) ⟨_, rfl, (bq_sum hxs).mono (by omega)⟩
theorem index_in {l : List Int} {x : Int} (h : x ∈ l) : ∃ j : Nat, indexG l x = some (j : Int) ∧ j < l.length := by
  unfold indexG
  cases c : l.findIdx? fun y => decide (y = x) with
  | none =>
    have := List.findIdx?_eq_none_iff.mp c x h
    simp at this
  | some j =>
    obtain ⟨h, _⟩ := List.findIdx?_eq_some_iff_getElem.mp c
    exact ⟨j, rfl, h⟩
theorem broken_rz {t : Tab} : Rz (m_broken t) (chk t) := by
  unfold m_broken b_broken
  refine rz_fin (ok_outR check_table_eq (fun e he => ?_) fun hn _ => ?_)
  · exact he.symm
  · have k := chk_none hn
    have l1 := k.l1; have l2 := k.l2; have w2 := k.w2
    rw [hn]
    refine ok_let _ (bad_of_ok k) fun sq hsq => ?_
    rcases hsq with rfl | ⟨rows, cols, sz, rfl, B⟩
    · exact ⟨_, rfl, rfl⟩
    · obtain ⟨m, rfl⟩ : ∃ m, sz = m + 1 := ⟨sz - 1, by have := B.s1; omega⟩
      obtain ⟨ri, rl⟩ := chC_in (by omega) B.r
      obtain ⟨ci, cl⟩ := chC_in (by omega) B.c
      have rle : rows.length ≤ t.length := by
        have := ((chC_mem (by omega)).mp B.r).1.length_le
        rwa [rng_len] at this
      have hm : m + 1 ≤ 5 := by omega
      (try simp only [ok_some, ok_none, ok_bind, ok_lift1, ok_lift2, ok_lift3, ok_lift4, ok_bind2, ok_app1, ok_app2, ok_app3, ok_app4, ok_bif, ok_andG, ok_orG, ok_chain, ok_bindOut, bo_nx, bo_rt, bo_bk, bo_ct, ok_finO, fo_nx, fo_rt, nx_nx, nx_rt, ok_mul, ok_mod, ok_div, ok_appG, ok_szG, ok_catG, decide_eq_true_eq, decide_eq_false_iff_not, Bool.not_eq_true', Bool.not_eq_false', cLe, cLt, reduceCtorEq, false_implies, true_implies, implies_true, and_true, true_and])
      refine ⟨fun c => (by cases c), fun _ => ⟨_, rfl, ?_⟩⟩
      refine ok_rng1 (show (0 : Int) ≤ (rows.length : Int) by omega) (show (rows.length : Int) ≤ 16777216 by omega) (ok_all (fun (p : Int) c => CF t rows cols m p.toNat c) (fun p hp => ?_) fun cs hcl hcs => ?_)
      all_goals try (have hcl : cs.length = (rngL 0 ((rows.length : Int)).toNat).length := hcl)
      · have hp : 0 ≤ p ∧ p < 0 + (((rows.length : Int)).toNat : Int) := mem_rng.mp hp
        obtain ⟨p, rfl⟩ := Int.eq_ofNat_of_zero_le (show 0 ≤ p by omega)
        rw [Int.toNat_natCast]
        exact column_of_ok k B hm (by omega)
      · have hcl2 : cs.length = m + 1 := by rw [hcl, rng_len]; omega
        have hall : ∀ c, c ∈ cs → ∃ p, CF t rows cols m p c := fun c hc => by
          obtain ⟨i, hi, rfl⟩ := List.getElem_of_mem hc
          have hi2 : i < (rngL 0 ((rows.length : Int)).toNat).length := by omega
          exact ⟨_, hcs i _ _ (List.getElem?_eq_getElem hi2) (List.getElem?_eq_getElem hi)⟩
        have h0 : ∃ c, c ∈ cs ∧ ((c.map fun q => decide (1 < q.b)).any id) = true := by
          have hi : 0 < cs.length := by omega
          have hi2 : 0 < (rngL 0 ((rows.length : Int)).toNat).length := by omega
          have hc := hcs 0 _ _ (List.getElem?_eq_getElem hi2) (List.getElem?_eq_getElem hi)
          have e0 : ((rngL 0 ((rows.length : Int)).toNat)[0]'hi2).toNat = 0 := by
            unfold rngL
            simp
          rw [e0] at hc
          obtain ⟨j, hj, hj2⟩ := some_minor B
          obtain ⟨q, q1, q2⟩ := hc.big j hj hj2
          refine ⟨_, List.getElem_mem hi, ?_⟩
          rw [List.any_map, List.any_eq_true]
          exact ⟨q, q1, by simpa using q2⟩
        refine ok_filter (fun c => (c.map fun q => decide (1 < q.b)).any id) (fun c hc => ?_) ?_
        · rw [ok_iff]
          (try simp only [ok_some, ok_none, ok_bind, ok_lift1, ok_lift2, ok_lift3, ok_lift4, ok_bind2, ok_app1, ok_app2, ok_app3, ok_app4, ok_bif, ok_andG, ok_orG, ok_chain, ok_bindOut, bo_nx, bo_rt, bo_bk, bo_ct, ok_finO, fo_nx, fo_rt, nx_nx, nx_rt, ok_mul, ok_mod, ok_div, ok_appG, ok_szG, ok_catG, decide_eq_true_eq, decide_eq_false_iff_not, Bool.not_eq_true', Bool.not_eq_false', cLe, cLt, reduceCtorEq, false_implies, true_implies, implies_true, and_true, true_and])
          refine ok_map (fun q => decide (1 < q.b)) (fun q _ => rfl) rfl
        · refine ok_atI (by decide) ?_ fun own0 _ hown => ?_
          · obtain ⟨c, c1, c2⟩ := h0
            have := List.length_pos_of_mem (List.mem_filter (p := fun c : List (T2 Int Int) => (c.map fun q => decide (1 < q.b)).any id).mpr ⟨c1, c2⟩)
            omega
          · obtain ⟨p, cf⟩ := hall _ (List.mem_filter.mp hown).1
            refine ok_mono (lifted_ok cf.f) fun own ho => ok_of (row0 l1) (ok_rng1 (by omega) (by omega) (ok_allP (fun q => IsF 30 q) (fun x hx => ?_) fun told htl htold => ⟨by simp, ?_⟩))
            · (try simp only [ok_some, ok_none, ok_bind, ok_lift1, ok_lift2, ok_lift3, ok_lift4, ok_bind2, ok_app1, ok_app2, ok_app3, ok_app4, ok_bif, ok_andG, ok_orG, ok_chain, ok_bindOut, bo_nx, bo_rt, bo_bk, bo_ct, ok_finO, fo_nx, fo_rt, nx_nx, nx_rt, ok_mul, ok_mod, ok_div, ok_appG, ok_szG, ok_catG, decide_eq_true_eq, decide_eq_false_iff_not, Bool.not_eq_true', Bool.not_eq_false', cLe, cLt, reduceCtorEq, false_implies, true_implies, implies_true, and_true, true_and])
              refine ⟨fun hin => ?_, fun _ => ⟨0, rfl, by unfold Bq; decide⟩⟩
              obtain ⟨j, j1, j2⟩ := index_in (l := cols) (by simpa using hin)
              have := cf.len
              refine ok_of j1 (ok_atI (by omega) (by omega) fun q _ hq => ho.2 q hq)
            · refine ok_for (fun i s => s.length = i) rfl (fun i s y hy hs => ?_) fun s hs => ?_
              · have hy1 := enum_at hy
                have hym := List.mem_of_getElem? hy1.2
                have hil : i < t.length := by
                  have := (List.getElem?_eq_some_iff.mp hy1.2).1
                  omega
                have wl := k.w _ hym
                (try simp only [ok_some, ok_none, ok_bind, ok_lift1, ok_lift2, ok_lift3, ok_lift4, ok_bind2, ok_app1, ok_app2, ok_app3, ok_app4, ok_bif, ok_andG, ok_orG, ok_chain, ok_bindOut, bo_nx, bo_rt, bo_bk, bo_ct, ok_finO, fo_nx, fo_rt, nx_nx, nx_rt, ok_mul, ok_mod, ok_div, ok_appG, ok_szG, ok_catG, decide_eq_true_eq, decide_eq_false_iff_not, Bool.not_eq_true', Bool.not_eq_false', cLe, cLt, reduceCtorEq, false_implies, true_implies, implies_true, and_true, true_and])
                refine ok_mono (sum_of_ok (k.v _ hym) (by omega) htold) fun q hq => ?_
                obtain ⟨x, rfl, hx⟩ := hq
                have hd : DivOk (ofR x).b := ⟨den_pos x, by
                  have := log2_bq hx.2
                  show ((x.den : Int)).natAbs.log2 < _
                  rw [Int.natAbs_natCast]; omega⟩
                refine ⟨fun _ => ⟨by omega, by simp; omega⟩, fun _ => ⟨hd, by omega, by simp; omega⟩⟩
              · exact ⟨_, rfl, rfl⟩
theorem is_broken_rz {t : Tab} : Rz (m_is_broken t [] []) (chk t) := by
  unfold m_is_broken b_is_broken
  refine rz_fin (ok_outR check_table_eq (fun e he => ?_) fun hn _ => ?_)
  · exact he.symm
  · have k := chk_none hn
    have l1 := k.l1
    rw [hn]
    refine ok_set (v := ((t.getD 0 []).length : Int)) (by show lift1 _ (atI t 0) = _; rw [row0 l1]; rfl) ?_
    refine ok_set (v := true) ?_ ⟨_, rfl, rfl⟩
    rw [ok_iff]
    (try simp only [ok_some, ok_none, ok_bind, ok_lift1, ok_lift2, ok_lift3, ok_lift4, ok_bind2, ok_app1, ok_app2, ok_app3, ok_app4, ok_bif, ok_andG, ok_orG, ok_chain, ok_bindOut, bo_nx, bo_rt, bo_bk, bo_ct, ok_finO, fo_nx, fo_rt, nx_nx, nx_rt, ok_mul, ok_mod, ok_div, ok_appG, ok_szG, ok_catG, decide_eq_true_eq, decide_eq_false_iff_not, Bool.not_eq_true', Bool.not_eq_false', cLe, cLt, reduceCtorEq, false_implies, true_implies, implies_true, and_true, true_and])
    exact fun c => absurd c (by simp; omega)
/-! ### the law's words -/
def wd (k : Str) : Str := if k = "WrongSize" then "size" else if k = "BadRow" then "row" else "set"
theorem word_eq {e : Er} (h : e.k ∈ KS) : m__law_word e = some ⟨wd e.k, e.a⟩ := by
  obtain ⟨k, n⟩ := e
  simp only [KS, List.mem_cons, List.not_mem_nil, or_false] at h
  rcases h with rfl | rfl | rfl <;> kernel_rfl
theorem word_ok {e : Er} (h : e.k ∈ KS) : inK KS m__law_word e = some ⟨wd e.k, e.a⟩ := by
  unfold inK
  rw [if_pos h, word_eq h]
theorem chk_ks {t : Tab} {e : Er} (h : chk t = some e) : e.k ∈ KS := by
  unfold chk at h
  split at h
  · cases h; simp [KS]
  · obtain ⟨k, _, rfl⟩ := Option.map_eq_some_iff.mp h
    simp [KS]
theorem chkR_ks {t : Tab} {rows : List Int} {e : Er} (h : chkR t rows = some e) : e.k ∈ KS := by
  unfold chkR at h
  split at h
  · rename_i q; cases h; exact chk_ks q
  · obtain ⟨k, _, rfl⟩ := Option.map_eq_some_iff.mp h
    simp [KS]
def errWay (way : Int) (t : Tab) (rows : List Int) : Option Er := if way = 8 then chkR t rows else chk t
theorem law_of_eq {way : Int} {t : Tab} {rows : List Int} (h0 : 0 ≤ way) (h9 : way < 9) : m__law_of way t rows = some (wdO wd (errWay way t rows)) := by
  have : way = 0 ∨ way = 1 ∨ way = 2 ∨ way = 3 ∨ way = 4 ∨ way = 5 ∨ way = 6 ∨ way = 7 ∨ way = 8 := by omega
  rw [ok_iff]
  unfold m__law_of b__law_of
  rcases this with rfl | rfl | rfl | rfl | rfl | rfl | rfl | rfl | rfl
  · rw [show errWay 0 t rows = chk t from rfl]
    refine ok_finO.mpr (ok_tryO.mpr ?_)
    (try simp only [ok_some, ok_none, ok_bind, ok_lift1, ok_lift2, ok_lift3, ok_lift4, ok_bind2, ok_app1, ok_app2, ok_app3, ok_app4, ok_bif, ok_andG, ok_orG, ok_chain, ok_bindOut, bo_nx, bo_rt, bo_bk, bo_ct, ok_finO, fo_nx, fo_rt, nx_nx, nx_rt, ok_mul, ok_mod, ok_div, ok_appG, ok_szG, ok_catG, decide_eq_true_eq, decide_eq_false_iff_not, Bool.not_eq_true', Bool.not_eq_false', cLe, cLt, reduceCtorEq, false_implies, true_implies, implies_true, and_true, true_and, bo_er, fx_er, fx_rt, fx_nx, er_inl, er_inr, ok_app6, ok_lift5, Int.reduceEq, not_true_eq_false, not_false_eq_true, app1_some, app2_some, app3_some, app4_some])
    skip
    refine ok_outR is_sure_rz (fun e he => ?_) (fun hn _ => ?_)
    · (try simp only [ok_some, ok_none, ok_bind, ok_lift1, ok_lift2, ok_lift3, ok_lift4, ok_bind2, ok_app1, ok_app2, ok_app3, ok_app4, ok_bif, ok_andG, ok_orG, ok_chain, ok_bindOut, bo_nx, bo_rt, bo_bk, bo_ct, ok_finO, fo_nx, fo_rt, nx_nx, nx_rt, ok_mul, ok_mod, ok_div, ok_appG, ok_szG, ok_catG, decide_eq_true_eq, decide_eq_false_iff_not, Bool.not_eq_true', Bool.not_eq_false', cLe, cLt, reduceCtorEq, false_implies, true_implies, implies_true, and_true, true_and, bo_er, fx_er, fx_rt, fx_nx, er_inl, er_inr, ok_app6, ok_lift5])
      rw [he]
      exact ok_of (word_ok (chk_ks he)) rfl
    · (try simp only [ok_some, ok_none, ok_bind, ok_lift1, ok_lift2, ok_lift3, ok_lift4, ok_bind2, ok_app1, ok_app2, ok_app3, ok_app4, ok_bif, ok_andG, ok_orG, ok_chain, ok_bindOut, bo_nx, bo_rt, bo_bk, bo_ct, ok_finO, fo_nx, fo_rt, nx_nx, nx_rt, ok_mul, ok_mod, ok_div, ok_appG, ok_szG, ok_catG, decide_eq_true_eq, decide_eq_false_iff_not, Bool.not_eq_true', Bool.not_eq_false', cLe, cLt, reduceCtorEq, false_implies, true_implies, implies_true, and_true, true_and, bo_er, fx_er, fx_rt, fx_nx, er_inl, er_inr, ok_app6, ok_lift5])
      rw [hn]; rfl
  · rw [show errWay 1 t rows = chk t from rfl]
    refine ok_finO.mpr (ok_tryO.mpr ?_)
    (try simp only [ok_some, ok_none, ok_bind, ok_lift1, ok_lift2, ok_lift3, ok_lift4, ok_bind2, ok_app1, ok_app2, ok_app3, ok_app4, ok_bif, ok_andG, ok_orG, ok_chain, ok_bindOut, bo_nx, bo_rt, bo_bk, bo_ct, ok_finO, fo_nx, fo_rt, nx_nx, nx_rt, ok_mul, ok_mod, ok_div, ok_appG, ok_szG, ok_catG, decide_eq_true_eq, decide_eq_false_iff_not, Bool.not_eq_true', Bool.not_eq_false', cLe, cLt, reduceCtorEq, false_implies, true_implies, implies_true, and_true, true_and, bo_er, fx_er, fx_rt, fx_nx, er_inl, er_inr, ok_app6, ok_lift5, Int.reduceEq, not_true_eq_false, not_false_eq_true, app1_some, app2_some, app3_some, app4_some])
    skip
    refine ok_outR bad_square_rz (fun e he => ?_) (fun hn _ => ?_)
    · (try simp only [ok_some, ok_none, ok_bind, ok_lift1, ok_lift2, ok_lift3, ok_lift4, ok_bind2, ok_app1, ok_app2, ok_app3, ok_app4, ok_bif, ok_andG, ok_orG, ok_chain, ok_bindOut, bo_nx, bo_rt, bo_bk, bo_ct, ok_finO, fo_nx, fo_rt, nx_nx, nx_rt, ok_mul, ok_mod, ok_div, ok_appG, ok_szG, ok_catG, decide_eq_true_eq, decide_eq_false_iff_not, Bool.not_eq_true', Bool.not_eq_false', cLe, cLt, reduceCtorEq, false_implies, true_implies, implies_true, and_true, true_and, bo_er, fx_er, fx_rt, fx_nx, er_inl, er_inr, ok_app6, ok_lift5])
      rw [he]
      exact ok_of (word_ok (chk_ks he)) rfl
    · (try simp only [ok_some, ok_none, ok_bind, ok_lift1, ok_lift2, ok_lift3, ok_lift4, ok_bind2, ok_app1, ok_app2, ok_app3, ok_app4, ok_bif, ok_andG, ok_orG, ok_chain, ok_bindOut, bo_nx, bo_rt, bo_bk, bo_ct, ok_finO, fo_nx, fo_rt, nx_nx, nx_rt, ok_mul, ok_mod, ok_div, ok_appG, ok_szG, ok_catG, decide_eq_true_eq, decide_eq_false_iff_not, Bool.not_eq_true', Bool.not_eq_false', cLe, cLt, reduceCtorEq, false_implies, true_implies, implies_true, and_true, true_and, bo_er, fx_er, fx_rt, fx_nx, er_inl, er_inr, ok_app6, ok_lift5])
      rw [hn]; rfl
  · rw [show errWay 2 t rows = chk t from rfl]
    refine ok_finO.mpr (ok_tryO.mpr ?_)
    (try simp only [ok_some, ok_none, ok_bind, ok_lift1, ok_lift2, ok_lift3, ok_lift4, ok_bind2, ok_app1, ok_app2, ok_app3, ok_app4, ok_bif, ok_andG, ok_orG, ok_chain, ok_bindOut, bo_nx, bo_rt, bo_bk, bo_ct, ok_finO, fo_nx, fo_rt, nx_nx, nx_rt, ok_mul, ok_mod, ok_div, ok_appG, ok_szG, ok_catG, decide_eq_true_eq, decide_eq_false_iff_not, Bool.not_eq_true', Bool.not_eq_false', cLe, cLt, reduceCtorEq, false_implies, true_implies, implies_true, and_true, true_and, bo_er, fx_er, fx_rt, fx_nx, er_inl, er_inr, ok_app6, ok_lift5, Int.reduceEq, not_true_eq_false, not_false_eq_true, app1_some, app2_some, app3_some, app4_some])
    skip
    refine ok_outR measure_rz (fun e he => ?_) (fun hn _ => ?_)
    · (try simp only [ok_some, ok_none, ok_bind, ok_lift1, ok_lift2, ok_lift3, ok_lift4, ok_bind2, ok_app1, ok_app2, ok_app3, ok_app4, ok_bif, ok_andG, ok_orG, ok_chain, ok_bindOut, bo_nx, bo_rt, bo_bk, bo_ct, ok_finO, fo_nx, fo_rt, nx_nx, nx_rt, ok_mul, ok_mod, ok_div, ok_appG, ok_szG, ok_catG, decide_eq_true_eq, decide_eq_false_iff_not, Bool.not_eq_true', Bool.not_eq_false', cLe, cLt, reduceCtorEq, false_implies, true_implies, implies_true, and_true, true_and, bo_er, fx_er, fx_rt, fx_nx, er_inl, er_inr, ok_app6, ok_lift5])
      rw [he]
      exact ok_of (word_ok (chk_ks he)) rfl
    · (try simp only [ok_some, ok_none, ok_bind, ok_lift1, ok_lift2, ok_lift3, ok_lift4, ok_bind2, ok_app1, ok_app2, ok_app3, ok_app4, ok_bif, ok_andG, ok_orG, ok_chain, ok_bindOut, bo_nx, bo_rt, bo_bk, bo_ct, ok_finO, fo_nx, fo_rt, nx_nx, nx_rt, ok_mul, ok_mod, ok_div, ok_appG, ok_szG, ok_catG, decide_eq_true_eq, decide_eq_false_iff_not, Bool.not_eq_true', Bool.not_eq_false', cLe, cLt, reduceCtorEq, false_implies, true_implies, implies_true, and_true, true_and, bo_er, fx_er, fx_rt, fx_nx, er_inl, er_inr, ok_app6, ok_lift5])
      rw [hn]; rfl
  · rw [show errWay 3 t rows = chk t from rfl]
    refine ok_finO.mpr (ok_tryO.mpr ?_)
    (try simp only [ok_some, ok_none, ok_bind, ok_lift1, ok_lift2, ok_lift3, ok_lift4, ok_bind2, ok_app1, ok_app2, ok_app3, ok_app4, ok_bif, ok_andG, ok_orG, ok_chain, ok_bindOut, bo_nx, bo_rt, bo_bk, bo_ct, ok_finO, fo_nx, fo_rt, nx_nx, nx_rt, ok_mul, ok_mod, ok_div, ok_appG, ok_szG, ok_catG, decide_eq_true_eq, decide_eq_false_iff_not, Bool.not_eq_true', Bool.not_eq_false', cLe, cLt, reduceCtorEq, false_implies, true_implies, implies_true, and_true, true_and, bo_er, fx_er, fx_rt, fx_nx, er_inl, er_inr, ok_app6, ok_lift5, Int.reduceEq, not_true_eq_false, not_false_eq_true, app1_some, app2_some, app3_some, app4_some])
    skip
    refine ok_outR unparted_rz (fun e he => ?_) (fun hn _ => ?_)
    · (try simp only [ok_some, ok_none, ok_bind, ok_lift1, ok_lift2, ok_lift3, ok_lift4, ok_bind2, ok_app1, ok_app2, ok_app3, ok_app4, ok_bif, ok_andG, ok_orG, ok_chain, ok_bindOut, bo_nx, bo_rt, bo_bk, bo_ct, ok_finO, fo_nx, fo_rt, nx_nx, nx_rt, ok_mul, ok_mod, ok_div, ok_appG, ok_szG, ok_catG, decide_eq_true_eq, decide_eq_false_iff_not, Bool.not_eq_true', Bool.not_eq_false', cLe, cLt, reduceCtorEq, false_implies, true_implies, implies_true, and_true, true_and, bo_er, fx_er, fx_rt, fx_nx, er_inl, er_inr, ok_app6, ok_lift5])
      rw [he]
      exact ok_of (word_ok (chk_ks he)) rfl
    · (try simp only [ok_some, ok_none, ok_bind, ok_lift1, ok_lift2, ok_lift3, ok_lift4, ok_bind2, ok_app1, ok_app2, ok_app3, ok_app4, ok_bif, ok_andG, ok_orG, ok_chain, ok_bindOut, bo_nx, bo_rt, bo_bk, bo_ct, ok_finO, fo_nx, fo_rt, nx_nx, nx_rt, ok_mul, ok_mod, ok_div, ok_appG, ok_szG, ok_catG, decide_eq_true_eq, decide_eq_false_iff_not, Bool.not_eq_true', Bool.not_eq_false', cLe, cLt, reduceCtorEq, false_implies, true_implies, implies_true, and_true, true_and, bo_er, fx_er, fx_rt, fx_nx, er_inl, er_inr, ok_app6, ok_lift5])
      rw [hn]; rfl
  · rw [show errWay 4 t rows = chk t from rfl]
    refine ok_finO.mpr (ok_tryO.mpr ?_)
    (try simp only [ok_some, ok_none, ok_bind, ok_lift1, ok_lift2, ok_lift3, ok_lift4, ok_bind2, ok_app1, ok_app2, ok_app3, ok_app4, ok_bif, ok_andG, ok_orG, ok_chain, ok_bindOut, bo_nx, bo_rt, bo_bk, bo_ct, ok_finO, fo_nx, fo_rt, nx_nx, nx_rt, ok_mul, ok_mod, ok_div, ok_appG, ok_szG, ok_catG, decide_eq_true_eq, decide_eq_false_iff_not, Bool.not_eq_true', Bool.not_eq_false', cLe, cLt, reduceCtorEq, false_implies, true_implies, implies_true, and_true, true_and, bo_er, fx_er, fx_rt, fx_nx, er_inl, er_inr, ok_app6, ok_lift5, Int.reduceEq, not_true_eq_false, not_false_eq_true, app1_some, app2_some, app3_some, app4_some])
    skip
    refine ok_outR are_stretches_rz (fun e he => ?_) (fun hn _ => ?_)
    · (try simp only [ok_some, ok_none, ok_bind, ok_lift1, ok_lift2, ok_lift3, ok_lift4, ok_bind2, ok_app1, ok_app2, ok_app3, ok_app4, ok_bif, ok_andG, ok_orG, ok_chain, ok_bindOut, bo_nx, bo_rt, bo_bk, bo_ct, ok_finO, fo_nx, fo_rt, nx_nx, nx_rt, ok_mul, ok_mod, ok_div, ok_appG, ok_szG, ok_catG, decide_eq_true_eq, decide_eq_false_iff_not, Bool.not_eq_true', Bool.not_eq_false', cLe, cLt, reduceCtorEq, false_implies, true_implies, implies_true, and_true, true_and, bo_er, fx_er, fx_rt, fx_nx, er_inl, er_inr, ok_app6, ok_lift5])
      rw [he]
      exact ok_of (word_ok (chk_ks he)) rfl
    · (try simp only [ok_some, ok_none, ok_bind, ok_lift1, ok_lift2, ok_lift3, ok_lift4, ok_bind2, ok_app1, ok_app2, ok_app3, ok_app4, ok_bif, ok_andG, ok_orG, ok_chain, ok_bindOut, bo_nx, bo_rt, bo_bk, bo_ct, ok_finO, fo_nx, fo_rt, nx_nx, nx_rt, ok_mul, ok_mod, ok_div, ok_appG, ok_szG, ok_catG, decide_eq_true_eq, decide_eq_false_iff_not, Bool.not_eq_true', Bool.not_eq_false', cLe, cLt, reduceCtorEq, false_implies, true_implies, implies_true, and_true, true_and, bo_er, fx_er, fx_rt, fx_nx, er_inl, er_inr, ok_app6, ok_lift5])
      rw [hn]; rfl
  · rw [show errWay 5 t rows = chk t from rfl]
    refine ok_finO.mpr (ok_tryO.mpr ?_)
    (try simp only [ok_some, ok_none, ok_bind, ok_lift1, ok_lift2, ok_lift3, ok_lift4, ok_bind2, ok_app1, ok_app2, ok_app3, ok_app4, ok_bif, ok_andG, ok_orG, ok_chain, ok_bindOut, bo_nx, bo_rt, bo_bk, bo_ct, ok_finO, fo_nx, fo_rt, nx_nx, nx_rt, ok_mul, ok_mod, ok_div, ok_appG, ok_szG, ok_catG, decide_eq_true_eq, decide_eq_false_iff_not, Bool.not_eq_true', Bool.not_eq_false', cLe, cLt, reduceCtorEq, false_implies, true_implies, implies_true, and_true, true_and, bo_er, fx_er, fx_rt, fx_nx, er_inl, er_inr, ok_app6, ok_lift5, Int.reduceEq, not_true_eq_false, not_false_eq_true, app1_some, app2_some, app3_some, app4_some])
    skip
    refine ok_outR sides_rz (fun e he => ?_) (fun hn _ => ?_)
    · (try simp only [ok_some, ok_none, ok_bind, ok_lift1, ok_lift2, ok_lift3, ok_lift4, ok_bind2, ok_app1, ok_app2, ok_app3, ok_app4, ok_bif, ok_andG, ok_orG, ok_chain, ok_bindOut, bo_nx, bo_rt, bo_bk, bo_ct, ok_finO, fo_nx, fo_rt, nx_nx, nx_rt, ok_mul, ok_mod, ok_div, ok_appG, ok_szG, ok_catG, decide_eq_true_eq, decide_eq_false_iff_not, Bool.not_eq_true', Bool.not_eq_false', cLe, cLt, reduceCtorEq, false_implies, true_implies, implies_true, and_true, true_and, bo_er, fx_er, fx_rt, fx_nx, er_inl, er_inr, ok_app6, ok_lift5])
      rw [he]
      exact ok_of (word_ok (chk_ks he)) rfl
    · (try simp only [ok_some, ok_none, ok_bind, ok_lift1, ok_lift2, ok_lift3, ok_lift4, ok_bind2, ok_app1, ok_app2, ok_app3, ok_app4, ok_bif, ok_andG, ok_orG, ok_chain, ok_bindOut, bo_nx, bo_rt, bo_bk, bo_ct, ok_finO, fo_nx, fo_rt, nx_nx, nx_rt, ok_mul, ok_mod, ok_div, ok_appG, ok_szG, ok_catG, decide_eq_true_eq, decide_eq_false_iff_not, Bool.not_eq_true', Bool.not_eq_false', cLe, cLt, reduceCtorEq, false_implies, true_implies, implies_true, and_true, true_and, bo_er, fx_er, fx_rt, fx_nx, er_inl, er_inr, ok_app6, ok_lift5])
      rw [hn]; rfl
  · rw [show errWay 6 t rows = chk t from rfl]
    refine ok_finO.mpr (ok_tryO.mpr ?_)
    (try simp only [ok_some, ok_none, ok_bind, ok_lift1, ok_lift2, ok_lift3, ok_lift4, ok_bind2, ok_app1, ok_app2, ok_app3, ok_app4, ok_bif, ok_andG, ok_orG, ok_chain, ok_bindOut, bo_nx, bo_rt, bo_bk, bo_ct, ok_finO, fo_nx, fo_rt, nx_nx, nx_rt, ok_mul, ok_mod, ok_div, ok_appG, ok_szG, ok_catG, decide_eq_true_eq, decide_eq_false_iff_not, Bool.not_eq_true', Bool.not_eq_false', cLe, cLt, reduceCtorEq, false_implies, true_implies, implies_true, and_true, true_and, bo_er, fx_er, fx_rt, fx_nx, er_inl, er_inr, ok_app6, ok_lift5, Int.reduceEq, not_true_eq_false, not_false_eq_true, app1_some, app2_some, app3_some, app4_some])
    skip
    refine ok_outR broken_rz (fun e he => ?_) (fun hn _ => ?_)
    · (try simp only [ok_some, ok_none, ok_bind, ok_lift1, ok_lift2, ok_lift3, ok_lift4, ok_bind2, ok_app1, ok_app2, ok_app3, ok_app4, ok_bif, ok_andG, ok_orG, ok_chain, ok_bindOut, bo_nx, bo_rt, bo_bk, bo_ct, ok_finO, fo_nx, fo_rt, nx_nx, nx_rt, ok_mul, ok_mod, ok_div, ok_appG, ok_szG, ok_catG, decide_eq_true_eq, decide_eq_false_iff_not, Bool.not_eq_true', Bool.not_eq_false', cLe, cLt, reduceCtorEq, false_implies, true_implies, implies_true, and_true, true_and, bo_er, fx_er, fx_rt, fx_nx, er_inl, er_inr, ok_app6, ok_lift5])
      rw [he]
      exact ok_of (word_ok (chk_ks he)) rfl
    · (try simp only [ok_some, ok_none, ok_bind, ok_lift1, ok_lift2, ok_lift3, ok_lift4, ok_bind2, ok_app1, ok_app2, ok_app3, ok_app4, ok_bif, ok_andG, ok_orG, ok_chain, ok_bindOut, bo_nx, bo_rt, bo_bk, bo_ct, ok_finO, fo_nx, fo_rt, nx_nx, nx_rt, ok_mul, ok_mod, ok_div, ok_appG, ok_szG, ok_catG, decide_eq_true_eq, decide_eq_false_iff_not, Bool.not_eq_true', Bool.not_eq_false', cLe, cLt, reduceCtorEq, false_implies, true_implies, implies_true, and_true, true_and, bo_er, fx_er, fx_rt, fx_nx, er_inl, er_inr, ok_app6, ok_lift5])
      rw [hn]; rfl
  · rw [show errWay 7 t rows = chk t from rfl]
    refine ok_finO.mpr (ok_tryO.mpr ?_)
    (try simp only [ok_some, ok_none, ok_bind, ok_lift1, ok_lift2, ok_lift3, ok_lift4, ok_bind2, ok_app1, ok_app2, ok_app3, ok_app4, ok_bif, ok_andG, ok_orG, ok_chain, ok_bindOut, bo_nx, bo_rt, bo_bk, bo_ct, ok_finO, fo_nx, fo_rt, nx_nx, nx_rt, ok_mul, ok_mod, ok_div, ok_appG, ok_szG, ok_catG, decide_eq_true_eq, decide_eq_false_iff_not, Bool.not_eq_true', Bool.not_eq_false', cLe, cLt, reduceCtorEq, false_implies, true_implies, implies_true, and_true, true_and, bo_er, fx_er, fx_rt, fx_nx, er_inl, er_inr, ok_app6, ok_lift5, Int.reduceEq, not_true_eq_false, not_false_eq_true, app1_some, app2_some, app3_some, app4_some])
    skip
    refine ok_outR is_broken_rz (fun e he => ?_) (fun hn _ => ?_)
    · (try simp only [ok_some, ok_none, ok_bind, ok_lift1, ok_lift2, ok_lift3, ok_lift4, ok_bind2, ok_app1, ok_app2, ok_app3, ok_app4, ok_bif, ok_andG, ok_orG, ok_chain, ok_bindOut, bo_nx, bo_rt, bo_bk, bo_ct, ok_finO, fo_nx, fo_rt, nx_nx, nx_rt, ok_mul, ok_mod, ok_div, ok_appG, ok_szG, ok_catG, decide_eq_true_eq, decide_eq_false_iff_not, Bool.not_eq_true', Bool.not_eq_false', cLe, cLt, reduceCtorEq, false_implies, true_implies, implies_true, and_true, true_and, bo_er, fx_er, fx_rt, fx_nx, er_inl, er_inr, ok_app6, ok_lift5])
      rw [he]
      exact ok_of (word_ok (chk_ks he)) rfl
    · (try simp only [ok_some, ok_none, ok_bind, ok_lift1, ok_lift2, ok_lift3, ok_lift4, ok_bind2, ok_app1, ok_app2, ok_app3, ok_app4, ok_bif, ok_andG, ok_orG, ok_chain, ok_bindOut, bo_nx, bo_rt, bo_bk, bo_ct, ok_finO, fo_nx, fo_rt, nx_nx, nx_rt, ok_mul, ok_mod, ok_div, ok_appG, ok_szG, ok_catG, decide_eq_true_eq, decide_eq_false_iff_not, Bool.not_eq_true', Bool.not_eq_false', cLe, cLt, reduceCtorEq, false_implies, true_implies, implies_true, and_true, true_and, bo_er, fx_er, fx_rt, fx_nx, er_inl, er_inr, ok_app6, ok_lift5])
      rw [hn]; rfl
  · rw [show errWay 8 t rows = chkR t rows from rfl]
    refine ok_finO.mpr (ok_tryO.mpr ?_)
    (try simp only [ok_some, ok_none, ok_bind, ok_lift1, ok_lift2, ok_lift3, ok_lift4, ok_bind2, ok_app1, ok_app2, ok_app3, ok_app4, ok_bif, ok_andG, ok_orG, ok_chain, ok_bindOut, bo_nx, bo_rt, bo_bk, bo_ct, ok_finO, fo_nx, fo_rt, nx_nx, nx_rt, ok_mul, ok_mod, ok_div, ok_appG, ok_szG, ok_catG, decide_eq_true_eq, decide_eq_false_iff_not, Bool.not_eq_true', Bool.not_eq_false', cLe, cLt, reduceCtorEq, false_implies, true_implies, implies_true, and_true, true_and, bo_er, fx_er, fx_rt, fx_nx, er_inl, er_inr, ok_app6, ok_lift5, Int.reduceEq, not_true_eq_false, not_false_eq_true, app1_some, app2_some, app3_some, app4_some])
    skip
    refine ok_outR partings_rz (fun e he => ?_) (fun hn _ => ?_)
    · (try simp only [ok_some, ok_none, ok_bind, ok_lift1, ok_lift2, ok_lift3, ok_lift4, ok_bind2, ok_app1, ok_app2, ok_app3, ok_app4, ok_bif, ok_andG, ok_orG, ok_chain, ok_bindOut, bo_nx, bo_rt, bo_bk, bo_ct, ok_finO, fo_nx, fo_rt, nx_nx, nx_rt, ok_mul, ok_mod, ok_div, ok_appG, ok_szG, ok_catG, decide_eq_true_eq, decide_eq_false_iff_not, Bool.not_eq_true', Bool.not_eq_false', cLe, cLt, reduceCtorEq, false_implies, true_implies, implies_true, and_true, true_and, bo_er, fx_er, fx_rt, fx_nx, er_inl, er_inr, ok_app6, ok_lift5])
      rw [he]
      exact ok_of (word_ok (chkR_ks he)) rfl
    · (try simp only [ok_some, ok_none, ok_bind, ok_lift1, ok_lift2, ok_lift3, ok_lift4, ok_bind2, ok_app1, ok_app2, ok_app3, ok_app4, ok_bif, ok_andG, ok_orG, ok_chain, ok_bindOut, bo_nx, bo_rt, bo_bk, bo_ct, ok_finO, fo_nx, fo_rt, nx_nx, nx_rt, ok_mul, ok_mod, ok_div, ok_appG, ok_szG, ok_catG, decide_eq_true_eq, decide_eq_false_iff_not, Bool.not_eq_true', Bool.not_eq_false', cLe, cLt, reduceCtorEq, false_implies, true_implies, implies_true, and_true, true_and, bo_er, fx_er, fx_rt, fx_nx, er_inl, er_inr, ok_app6, ok_lift5])
      rw [hn]; rfl
end Lay.K42

set_option Elab.async false
set_option linter.all false
set_option maxRecDepth 100000
namespace Lay.K42
open PySem PySem.Spec PyProof.Rows L2 Lay
open Lay.Enc (enc)
theorem head_of {α : Type} {b : α → Bool} : ∀ {l : List α} {i : Nat} {x : α}, l[i]? = some x → b x = true → (∀ (j : Nat) (y : α), j < i → l[j]? = some y → b y = false) → (l.filter b).head? = some x
  | [], i, x, h, _, _ => by simp at h
  | a :: l, 0, x, h, hb, _ => by
    simp at h; subst h
    rw [List.filter_cons_of_pos hb]; rfl
  | a :: l, i + 1, x, h, hb, hp => by
    have h0 : b a = false := hp 0 a (by omega) rfl
    rw [List.filter_cons_of_neg (by simp [h0])]
    exact head_of (l := l) (i := i) (by simpa using h) hb fun j y hj hy => hp (j + 1) y (by omega) (by simpa using hy)
theorem head_none {α : Type} {b : α → Bool} {l : List α} (h : ∀ x, x ∈ l → b x = false) : l.filter b = [] := List.filter_eq_nil_iff.mpr fun x hx => by simp [h x hx]
theorem pick2 {α : Type} {a b : α} {c : Prop} [Decidable c] : atI [a, b] (if c then (1 : Int) else 0) = some (if c then b else a) := by split <;> rfl
theorem in3 {x : Int} : (x ∈ ([-1, 0, 1] : List Int)) ↔ (-1 ≤ x ∧ x ≤ 1) := by simp; omega
theorem fault_eq {t : Tab} (h : t.length ≤ 40) : m__law_fault t = some (wdO wd (chk t)) := by
  rw [ok_iff]
  unfold m__law_fault b__law_fault
  have e1 : ∀ n, (some ⟨"size", n⟩ : Option (T2 Str Int)) = wdO wd (some ⟨"WrongSize", n⟩) := fun n => by kernel_rfl
  have e2 : ∀ n, (some ⟨"row", n⟩ : Option (T2 Str Int)) = wdO wd (some ⟨"BadRow", n⟩) := fun n => by kernel_rfl
  (try simp only [ok_some, ok_none, ok_bind, ok_lift1, ok_lift2, ok_lift3, ok_lift4, ok_bind2, ok_app1, ok_app2, ok_app3, ok_app4, ok_bif, ok_andG, ok_orG, ok_chain, ok_bindOut, bo_nx, bo_rt, bo_bk, bo_ct, ok_finO, fo_nx, fo_rt, nx_nx, nx_rt, ok_mul, ok_mod, ok_div, ok_appG, ok_szG, ok_catG, decide_eq_true_eq, decide_eq_false_iff_not, Bool.not_eq_true', Bool.not_eq_false', cLe, cLt, reduceCtorEq, false_implies, true_implies, implies_true, and_true, true_and])
  refine ⟨fun h1 => ⟨fun h2 => ?_, fun h2 => ?_⟩, fun h1 => ?_⟩
  · rw [chk, if_pos (by omega)]; exact e1 _
  · refine ok_rng1 (by omega) (by omega) (ok_forU (fun k => badRow t (t.getD k.toNat []) = false) (fun i k hk hp => ?_) fun hall => ?_)
    · have ee : ((t.length : Nat) : Int).toNat = t.length := rfl
      rw [ee] at hk hp
      have hk0 : 0 ≤ k ∧ k < t.length := by have := mem_rng.mp (List.mem_of_getElem? hk); omega
      refine ok_set (row_at hk0.1 hk0.2) ?_
      have e : (orG (lift1 (fun x => !x) (chainG cLe cLe (some (1 : Int)) (lift1 (fun l => (l.length : Int)) (some (t.getD k.toNat []))) (some (5 : Int)))) (orG (lift2 (fun i j => !decide (i = j)) (lift1 (fun l => (l.length : Int)) (some (t.getD k.toNat []))) (lift1 (fun l => (l.length : Int)) (bind2 atI (some t) (some (0 : Int))))) (lift2 (fun x y => !decide (x = y)) (Option.bind (some (t.getD k.toNat [])) (lcL (fun (x5 : Int) => (lift2 (fun x l => !decide (x ∈ l)) (some x5) (Option.bind (lift2 List.cons (lift1 (fun i => -i) (some (1 : Int))) (lift2 List.cons (some (0 : Int)) (lift2 List.cons (some (1 : Int)) (some ([] : List Int))))) szG))) (fun (x5 : Int) => (some x5)))) (Option.bind (some ([] : List Int)) szG)))) = some (badRow t (t.getD k.toNat [])) := by
        generalize t.getD k.toNat [] = r
        rw [ok_iff]
        unfold badRow
        (try simp only [ok_some, ok_none, ok_bind, ok_lift1, ok_lift2, ok_lift3, ok_lift4, ok_bind2, ok_app1, ok_app2, ok_app3, ok_app4, ok_bif, ok_andG, ok_orG, ok_chain, ok_bindOut, bo_nx, bo_rt, bo_bk, bo_ct, ok_finO, fo_nx, fo_rt, nx_nx, nx_rt, ok_mul, ok_mod, ok_div, ok_appG, ok_szG, ok_catG, decide_eq_true_eq, decide_eq_false_iff_not, Bool.not_eq_true', Bool.not_eq_false', cLe, cLt, reduceCtorEq, false_implies, true_implies, implies_true, and_true, true_and])
        rw [row0 (by omega)]
        (try simp only [ok_some, ok_none, ok_bind, ok_lift1, ok_lift2, ok_lift3, ok_lift4, ok_bind2, ok_app1, ok_app2, ok_app3, ok_app4, ok_bif, ok_andG, ok_orG, ok_chain, ok_bindOut, bo_nx, bo_rt, bo_bk, bo_ct, ok_finO, fo_nx, fo_rt, nx_nx, nx_rt, ok_mul, ok_mod, ok_div, ok_appG, ok_szG, ok_catG, decide_eq_true_eq, decide_eq_false_iff_not, Bool.not_eq_true', Bool.not_eq_false', cLe, cLt, reduceCtorEq, false_implies, true_implies, implies_true, and_true, true_and])
        refine ⟨fun a => ⟨fun b => by simp [b], fun b => ⟨fun c => by rw [decide_eq_false c]; simp, fun c => ok_filter (fun x => !(decide (-1 ≤ x) && decide (x ≤ 1))) (fun x _ => ?_) ?_⟩⟩, fun a => by simp [a]⟩
        · rw [ok_iff]
          (try simp only [ok_some, ok_none, ok_bind, ok_lift1, ok_lift2, ok_lift3, ok_lift4, ok_bind2, ok_app1, ok_app2, ok_app3, ok_app4, ok_bif, ok_andG, ok_orG, ok_chain, ok_bindOut, bo_nx, bo_rt, bo_bk, bo_ct, ok_finO, fo_nx, fo_rt, nx_nx, nx_rt, ok_mul, ok_mod, ok_div, ok_appG, ok_szG, ok_catG, decide_eq_true_eq, decide_eq_false_iff_not, Bool.not_eq_true', Bool.not_eq_false', cLe, cLt, reduceCtorEq, false_implies, true_implies, implies_true, and_true, true_and])
          simp only [in3]
          by_cases c1 : -1 ≤ x <;> by_cases c2 : x ≤ 1 <;> simp [c1, c2]
        · rw [decide_eq_true a, decide_eq_true b, decide_eq_true c]
          refine ⟨by simp, ?_⟩
          simp only [Bool.true_and, Bool.not_true, Bool.false_or, Bool.and_true]
          congr 1
          rw [Bool.eq_iff_iff, decide_eq_true_eq, List.filter_eq_nil_iff, List.all_eq_true]
          constructor
          · intro q x hx
            simpa using q x hx
          · intro q x hx
            simpa using q x hx
      refine ok_set e ?_
      cases c : badRow t (t.getD k.toNat []) with
      | false => exact ⟨_, rfl, rfl⟩
      | true =>
        refine ⟨_, rfl, ?_⟩
        show _ = _
        rw [chk, if_neg (by omega), head_of hk c hp]
        exact e2 _
    · have ee : ((t.length : Nat) : Int).toNat = t.length := rfl
      rw [ee] at hall
      (try simp only [ok_some, ok_none, ok_bind, ok_lift1, ok_lift2, ok_lift3, ok_lift4, ok_bind2, ok_app1, ok_app2, ok_app3, ok_app4, ok_bif, ok_andG, ok_orG, ok_chain, ok_bindOut, bo_nx, bo_rt, bo_bk, bo_ct, ok_finO, fo_nx, fo_rt, nx_nx, nx_rt, ok_mul, ok_mod, ok_div, ok_appG, ok_szG, ok_catG, decide_eq_true_eq, decide_eq_false_iff_not, Bool.not_eq_true', Bool.not_eq_false', cLe, cLt, reduceCtorEq, false_implies, true_implies, implies_true, and_true, true_and])
      rw [chk, if_neg (by omega), head_none hall]
      rfl
  · rw [chk, if_pos (by omega)]; exact e1 _
/-! ### the law -/
theorem mixk {ds : List Int} {k many : Int} {P : Int → Prop} (h : DB ds) (hk : 0 ≤ k) (hk2 : k < 2 ^ 40) (hm : 0 < many) (p : ∀ r, 0 ≤ r → r < many → P r) : Ok (m__law_mix ds k many) P :=
  ok_mono (mix_ok h hk hk2 hm) fun r hr => p r hr.1 hr.2
theorem cut_sub {α : Type} {l : List α} {a b : Option Int} : (cutL l a b).Sublist l := by
  unfold cutL
  exact (List.take_sublist _ _).trans (List.drop_sublist _ _)
theorem wd_ok (k : Str) : ShG.ok (wd k) = true := by
  unfold wd
  repeat' split
  all_goals kernel_rfl
theorem wdO_ok (x : Option Er) : ShG.ok (wdO wd x) = true := by
  cases x with
  | none => rfl
  | some e =>
    show (ShG.ok (wd e.k) && true) = true
    rw [wd_ok]; rfl
theorem neG_same {α : Type} [Enc α] [DecidableEq α] [S : ShG α] {x : α} (h : S.ok x = true) : neG x x = some false := by
  unfold neG
  rw [h]; simp
theorem ok_sub {α : Type} {c : α → Option Bool} {P : List α → Prop} : ∀ {l : List α}, (∀ x, x ∈ l → Ok (c x) fun _ => True) → (∀ m : List α, m.Sublist l → P m) → Ok (lcL c (fun x => some x) l) P := by
  intro l hc hp
  have : ∃ m : List α, lcL c (fun x => some x) l = some m ∧ m.Sublist l := by
    clear hp
    induction l with
    | nil => exact ⟨[], rfl, List.Sublist.slnil⟩
    | cons x xs ih =>
      obtain ⟨m, e, s⟩ := ih fun y hy => hc y (by simp [hy])
      obtain ⟨b, eb, _⟩ := hc x (by simp)
      unfold lcL
      cases b with
      | true => exact ⟨x :: m, by rw [eb, e]; rfl, s.cons_cons x⟩
      | false => exact ⟨m, by rw [eb, e]; rfl, s.cons x⟩
  obtain ⟨m, e, s⟩ := this
  exact ⟨m, e, hp m s⟩
/-- rows of few small numbers -/
structure SL (n : Nat) (l : List Int) : Prop where
  len : l.length ≤ n
  b : ∀ k, k ∈ l → -2 ≤ k ∧ k ≤ 24
theorem SL.sub {n : Nat} {l m : List Int} (h : SL n l) (s : m.Sublist l) : SL n m := ⟨Nat.le_trans s.length_le h.len, fun k hk => h.b k (s.subset hk)⟩
theorem SL.mono {m n : Nat} {l : List Int} (h : SL m l) (k : m ≤ n) : SL n l := ⟨Nat.le_trans h.len k, h.b⟩
theorem SL.rev {n : Nat} {l : List Int} (h : SL n l) : SL n l.reverse := ⟨by rw [List.length_reverse]; exact h.len, fun k hk => h.b k (List.mem_reverse.mp hk)⟩
theorem SL.app {m n : Nat} {l r : List Int} (h : SL m l) (h2 : SL n r) : SL (m + n) (l ++ r) := ⟨by have := h.len; have := h2.len; rw [List.length_append]; omega, fun k hk => by
  rcases List.mem_append.mp hk with hk | hk
  · exact h.b k hk
  · exact h2.b k hk⟩
theorem SL.one {x : Int} (h : -2 ≤ x ∧ x ≤ 24) : SL 1 [x] := ⟨by simp, fun k hk => by rw [List.mem_singleton] at hk; subst hk; exact h⟩
theorem SL.rep {n : Nat} {l : List Int} (h : SL n l) : SL (6 * n) (List.replicate 6 l).flatten := ⟨by have := h.len; simp; omega, fun k hk => by
  obtain ⟨r, hr, hk⟩ := List.mem_flatten.mp hk
  rw [List.eq_of_mem_replicate hr] at hk
  exact h.b k hk⟩
structure GT (t : Tab) : Prop where
  len : t.length ≤ 24
  r : ∀ r, r ∈ t → SL 24 r
theorem or_ff {a b : Option Bool} (h1 : a = some false) (h2 : b = some false) : Ok (orG a b) fun t => t = false := by
  rw [h1, h2]; exact ⟨_, rfl, rfl⟩
theorem law_true (ns : List Int) (hn : ns.length ≤ 63) : m_law ns = some true := by
  rw [ok_iff]
  unfold m_law b_law
  refine ok_finO.mpr (ok_let DB (draws_ok ns hn) fun ds h => ok_forS (l := rngL 0 8) (by rfl) (fun _ _ => True) trivial (fun i st y hy _ => ?_) fun _ _ => by (try simp only [ok_some, ok_none, ok_bind, ok_lift1, ok_lift2, ok_lift3, ok_lift4, ok_bind2, ok_app1, ok_app2, ok_app3, ok_app4, ok_bif, ok_andG, ok_orG, ok_chain, ok_bindOut, bo_nx, bo_rt, bo_bk, bo_ct, ok_finO, fo_nx, fo_rt, nx_nx, nx_rt, ok_mul, ok_mod, ok_div, ok_appG, ok_szG, ok_catG, decide_eq_true_eq, decide_eq_false_iff_not, Bool.not_eq_true', Bool.not_eq_false', cLe, cLt, reduceCtorEq, false_implies, true_implies, implies_true, and_true, true_and]))
  obtain ⟨hi, rfl⟩ := rng_get hy
  have hi : i < 8 := by omega
  refine ok_let (fun a => a = 10 + 60 * (i : Int)) ?_ fun at_ hat => ?_
  · (try simp only [ok_some, ok_none, ok_bind, ok_lift1, ok_lift2, ok_lift3, ok_lift4, ok_bind2, ok_app1, ok_app2, ok_app3, ok_app4, ok_bif, ok_andG, ok_orG, ok_chain, ok_bindOut, bo_nx, bo_rt, bo_bk, bo_ct, ok_finO, fo_nx, fo_rt, nx_nx, nx_rt, ok_mul, ok_mod, ok_div, ok_appG, ok_szG, ok_catG, decide_eq_true_eq, decide_eq_false_iff_not, Bool.not_eq_true', Bool.not_eq_false', cLe, cLt, reduceCtorEq, false_implies, true_implies, implies_true, and_true, true_and])
    exact ⟨mulOk (by decide) (by omega), by omega⟩
  refine ok_let (fun w => 1 ≤ w ∧ w ≤ 4) (by (try simp only [ok_some, ok_none, ok_bind, ok_lift1, ok_lift2, ok_lift3, ok_lift4, ok_bind2, ok_app1, ok_app2, ok_app3, ok_app4, ok_bif, ok_andG, ok_orG, ok_chain, ok_bindOut, bo_nx, bo_rt, bo_bk, bo_ct, ok_finO, fo_nx, fo_rt, nx_nx, nx_rt, ok_mul, ok_mod, ok_div, ok_appG, ok_szG, ok_catG, decide_eq_true_eq, decide_eq_false_iff_not, Bool.not_eq_true', Bool.not_eq_false', cLe, cLt, reduceCtorEq, false_implies, true_implies, implies_true, and_true, true_and]); exact mixk h (by omega) (by omega) (by decide) fun r _ _ => by omega) fun wide hwide => ?_
  refine ok_let (fun t : Tab => (1 ≤ t.length ∧ t.length ≤ 4) ∧ ∀ r, r ∈ t → SL 4 r) ?_ fun t0 ht0 => ?_
  · (try simp only [ok_some, ok_none, ok_bind, ok_lift1, ok_lift2, ok_lift3, ok_lift4, ok_bind2, ok_app1, ok_app2, ok_app3, ok_app4, ok_bif, ok_andG, ok_orG, ok_chain, ok_bindOut, bo_nx, bo_rt, bo_bk, bo_ct, ok_finO, fo_nx, fo_rt, nx_nx, nx_rt, ok_mul, ok_mod, ok_div, ok_appG, ok_szG, ok_catG, decide_eq_true_eq, decide_eq_false_iff_not, Bool.not_eq_true', Bool.not_eq_false', cLe, cLt, reduceCtorEq, false_implies, true_implies, implies_true, and_true, true_and])
    refine mixk h (by omega) (by omega) (by decide) fun m m1 m2 => ok_rng1 (by omega) (by omega) (ok_allP (fun r => SL 4 r) (fun x hx => ?_) fun l hl hr => ⟨by rw [rng_len] at hl; omega, hr⟩)
    have hx := mem_rng.mp hx
    (try simp only [ok_some, ok_none, ok_bind, ok_lift1, ok_lift2, ok_lift3, ok_lift4, ok_bind2, ok_app1, ok_app2, ok_app3, ok_app4, ok_bif, ok_andG, ok_orG, ok_chain, ok_bindOut, bo_nx, bo_rt, bo_bk, bo_ct, ok_finO, fo_nx, fo_rt, nx_nx, nx_rt, ok_mul, ok_mod, ok_div, ok_appG, ok_szG, ok_catG, decide_eq_true_eq, decide_eq_false_iff_not, Bool.not_eq_true', Bool.not_eq_false', cLe, cLt, reduceCtorEq, false_implies, true_implies, implies_true, and_true, true_and])
    refine ok_rng1 (by omega) (by omega) (ok_allP (fun v => -2 ≤ v ∧ v ≤ 24) (fun j hj => ?_) fun l hl hr => ⟨by rw [rng_len] at hl; omega, hr⟩)
    have hj := mem_rng.mp hj
    (try simp only [ok_some, ok_none, ok_bind, ok_lift1, ok_lift2, ok_lift3, ok_lift4, ok_bind2, ok_app1, ok_app2, ok_app3, ok_app4, ok_bif, ok_andG, ok_orG, ok_chain, ok_bindOut, bo_nx, bo_rt, bo_bk, bo_ct, ok_finO, fo_nx, fo_rt, nx_nx, nx_rt, ok_mul, ok_mod, ok_div, ok_appG, ok_szG, ok_catG, decide_eq_true_eq, decide_eq_false_iff_not, Bool.not_eq_true', Bool.not_eq_false', cLe, cLt, reduceCtorEq, false_implies, true_implies, implies_true, and_true, true_and])
    exact ⟨mulOk (by decide) (by omega), mixk h (by omega) (by omega) (by decide) fun r _ _ => by omega⟩
  obtain ⟨⟨t1, t4⟩, t0r⟩ := ht0
  refine ok_let (fun r => 0 ≤ r ∧ r < t0.length) (by (try simp only [ok_some, ok_none, ok_bind, ok_lift1, ok_lift2, ok_lift3, ok_lift4, ok_bind2, ok_app1, ok_app2, ok_app3, ok_app4, ok_bif, ok_andG, ok_orG, ok_chain, ok_bindOut, bo_nx, bo_rt, bo_bk, bo_ct, ok_finO, fo_nx, fo_rt, nx_nx, nx_rt, ok_mul, ok_mod, ok_div, ok_appG, ok_szG, ok_catG, decide_eq_true_eq, decide_eq_false_iff_not, Bool.not_eq_true', Bool.not_eq_false', cLe, cLt, reduceCtorEq, false_implies, true_implies, implies_true, and_true, true_and]); exact mix_ok h (by omega) (by omega) (by omega)) fun spot hspot => ?_
  refine ok_let (fun r => 0 ≤ r ∧ r < 5) (by (try simp only [ok_some, ok_none, ok_bind, ok_lift1, ok_lift2, ok_lift3, ok_lift4, ok_bind2, ok_app1, ok_app2, ok_app3, ok_app4, ok_bif, ok_andG, ok_orG, ok_chain, ok_bindOut, bo_nx, bo_rt, bo_bk, bo_ct, ok_finO, fo_nx, fo_rt, nx_nx, nx_rt, ok_mul, ok_mod, ok_div, ok_appG, ok_szG, ok_catG, decide_eq_true_eq, decide_eq_false_iff_not, Bool.not_eq_true', Bool.not_eq_false', cLe, cLt, reduceCtorEq, false_implies, true_implies, implies_true, and_true, true_and]); exact mix_ok h (by omega) (by omega) (by decide)) fun word hword => ?_
  refine ok_ifS (fun t : Tab => GT t) ?_ fun t g => ?_
  · (try simp only [ok_some, ok_none, ok_bind, ok_lift1, ok_lift2, ok_lift3, ok_lift4, ok_bind2, ok_app1, ok_app2, ok_app3, ok_app4, ok_bif, ok_andG, ok_orG, ok_chain, ok_bindOut, bo_nx, bo_rt, bo_bk, bo_ct, ok_finO, fo_nx, fo_rt, nx_nx, nx_rt, ok_mul, ok_mod, ok_div, ok_appG, ok_szG, ok_catG, decide_eq_true_eq, decide_eq_false_iff_not, Bool.not_eq_true', Bool.not_eq_false', cLe, cLt, reduceCtorEq, false_implies, true_implies, implies_true, and_true, true_and])
    refine ⟨fun _ => ⟨by simp, ⟨_, show repG t0 6 = some _ from if_pos ⟨⟨by omega, by decide⟩, by decide⟩, by simp, by simp, ?_⟩⟩, fun _ => ⟨fun _ => ?_, fun _ => ⟨by omega, fun r hr => (t0r r hr).mono (by decide)⟩⟩⟩
    · refine ok_map (fun r => (List.replicate 6 r).flatten) (fun r hr => ?_) ⟨by simp, mixk h (by omega) (by omega) (by decide) fun r q1 q2 => ok_atI q1 (by simpa using q2) fun x _ hx => ?_⟩
      · have := (t0r r hr).len
        exact if_pos ⟨⟨by omega, by decide⟩, by decide⟩
      · simp only [List.mem_cons, List.not_mem_nil, or_false] at hx
        rcases hx with rfl | rfl | rfl | rfl
        · exact ⟨by simp, fun r hr => (by cases hr)⟩
        · refine ⟨?_, fun r hr => ?_⟩
          · rw [show Int.toNat 6 = 6 from rfl]; simp; omega
          · obtain ⟨l, hl, hr⟩ := List.mem_flatten.mp hr
            rw [List.eq_of_mem_replicate hl] at hr
            exact (t0r r hr).mono (by decide)
        · exact ⟨by simp, fun r hr => by rw [List.mem_singleton] at hr; subst hr; exact ⟨by simp, fun k hk => (by cases hk)⟩⟩
        · refine ⟨by rw [List.length_map]; omega, fun r hr => ?_⟩
          obtain ⟨u, hu, rfl⟩ := List.mem_map.mp hr
          exact (t0r u hu).rep
    · obtain ⟨row, er, _, hrow⟩ := atI_nat' (l := t0) hspot.1 (by omega)
      have hs := t0r row hrow
      have hl := hs.len
      have hc : SL 4 (cutL row (some 1) none) := hs.sub cut_sub
      have hcl := hc.len
      refine ok_of er ⟨by simp, by simp; omega, ok_of er ⟨by simp, ok_of er ⟨by simp; omega, by simp, ok_of er ⟨by simp; omega, by simp, mixk h (by omega) (by omega) (by decide) fun r q1 q2 => ok_atI q1 (by simpa using q2) fun x _ hx => ok_setG hspot.1 (by omega) ?_⟩⟩⟩⟩
      have hx : SL 24 x := by
        simp only [List.mem_cons, List.not_mem_nil, or_false] at hx
        rcases hx with rfl | rfl | rfl | rfl
        · exact (hs.app (SL.one (by omega))).mono (by decide)
        · exact hc.mono (by decide)
        · exact ((SL.one (by omega)).app hc).mono (by decide)
        · exact ((SL.one (by omega)).app hc).mono (by decide)
      refine ⟨by rw [List.length_set]; omega, fun r hr => ?_⟩
      rcases List.mem_or_eq_of_mem_set hr with hr | rfl
      · exact (t0r r hr).mono (by decide)
      · exact hx
  have gl := g.len
  refine ok_let (fun r => SL 24 r ∧ r.length ≤ t.length) ?_ fun rows0 hr0 => ?_
  · (try simp only [ok_some, ok_none, ok_bind, ok_lift1, ok_lift2, ok_lift3, ok_lift4, ok_bind2, ok_app1, ok_app2, ok_app3, ok_app4, ok_bif, ok_andG, ok_orG, ok_chain, ok_bindOut, bo_nx, bo_rt, bo_bk, bo_ct, ok_finO, fo_nx, fo_rt, nx_nx, nx_rt, ok_mul, ok_mod, ok_div, ok_appG, ok_szG, ok_catG, decide_eq_true_eq, decide_eq_false_iff_not, Bool.not_eq_true', Bool.not_eq_false', cLe, cLt, reduceCtorEq, false_implies, true_implies, implies_true, and_true, true_and])
    refine ok_rng1 (by omega) (by omega) (ok_sub (fun x hx => ?_) fun m hm => ?_)
    · have hx := mem_rng.mp hx
      (try simp only [ok_some, ok_none, ok_bind, ok_lift1, ok_lift2, ok_lift3, ok_lift4, ok_bind2, ok_app1, ok_app2, ok_app3, ok_app4, ok_bif, ok_andG, ok_orG, ok_chain, ok_bindOut, bo_nx, bo_rt, bo_bk, bo_ct, ok_finO, fo_nx, fo_rt, nx_nx, nx_rt, ok_mul, ok_mod, ok_div, ok_appG, ok_szG, ok_catG, decide_eq_true_eq, decide_eq_false_iff_not, Bool.not_eq_true', Bool.not_eq_false', cLe, cLt, reduceCtorEq, false_implies, true_implies, implies_true, and_true, true_and])
      exact mixk h (by omega) (by omega) (by decide) fun r _ _ => by first | trivial | (try simp only [ok_some, ok_none, ok_bind, ok_lift1, ok_lift2, ok_lift3, ok_lift4, ok_bind2, ok_app1, ok_app2, ok_app3, ok_app4, ok_bif, ok_andG, ok_orG, ok_chain, ok_bindOut, bo_nx, bo_rt, bo_bk, bo_ct, ok_finO, fo_nx, fo_rt, nx_nx, nx_rt, ok_mul, ok_mod, ok_div, ok_appG, ok_szG, ok_catG, decide_eq_true_eq, decide_eq_false_iff_not, Bool.not_eq_true', Bool.not_eq_false', cLe, cLt, reduceCtorEq, false_implies, true_implies, implies_true, and_true, true_and])
    · have := hm.length_le
      rw [rng_len] at this
      exact ⟨⟨by omega, fun k hk => by have := mem_rng.mp (hm.subset hk); omega⟩, by omega⟩
  obtain ⟨hr0, _⟩ := hr0
  refine ok_let (fun r => SL 48 r) ?_ fun rows hrows => ?_
  · (try simp only [ok_some, ok_none, ok_bind, ok_lift1, ok_lift2, ok_lift3, ok_lift4, ok_bind2, ok_app1, ok_app2, ok_app3, ok_app4, ok_bif, ok_andG, ok_orG, ok_chain, ok_bindOut, bo_nx, bo_rt, bo_bk, bo_ct, ok_finO, fo_nx, fo_rt, nx_nx, nx_rt, ok_mul, ok_mod, ok_div, ok_appG, ok_szG, ok_catG, decide_eq_true_eq, decide_eq_false_iff_not, Bool.not_eq_true', Bool.not_eq_false', cLe, cLt, reduceCtorEq, false_implies, true_implies, implies_true, and_true, true_and])
    have l0 := hr0.len
    have hc : SL 24 (cutL rows0 none (some 1)) := hr0.sub cut_sub
    have hcl := hc.len
    refine ⟨by simp, by simp; omega, by simp, by simp; omega, by omega, by simp, mixk h (by omega) (by omega) (by decide) fun r q1 q2 => ok_atI q1 (by simpa using q2) fun x _ hx => ?_⟩
    simp only [List.mem_cons, List.not_mem_nil, or_false] at hx
    rcases hx with rfl | rfl | rfl | rfl | rfl | rfl
    · exact hr0.mono (by decide)
    · exact hr0.mono (by decide)
    · exact hr0.rev.mono (by decide)
    · exact (hr0.app (SL.one (by omega))).mono (by decide)
    · exact ((SL.one (by omega)).app hr0).mono (by decide)
    · exact hr0.app hc
  have rsl : ∀ {n : Nat} {l : List Int}, SL n l → RB l (n * (33 + 2) + 3) := fun {n l} hl => rb_list hl.len fun x hx => rb_int (by have := hl.b x hx; omega)
  obtain ⟨kept, hkept⟩ : ∃ x, reprD (enc (T2.mk t rows)) = some x := ⟨_, rb_repr (rb_t2 (t := T2.mk t rows) (rb_list gl fun r hr => rsl (g.r r hr)) (RB.mono (n := 2000) (rsl hrows) (by decide))) (by decide)⟩
  have hkept2 : (Option.bind (lift2 T2.mk (some t) (some rows)) fun x => reprD (enc x)) = some kept := hkept
  refine ok_set hkept2 ?_
  refine ok_set (fault_eq (t := t) (by omega)) ?_
  have rl := hrows.len
  refine ok_set (v := (rngL 0 rows.length).filter fun k => badI t rows k (rows.getD k.toNat 0)) ?_ ?_
  · rw [ok_iff]
    (try simp only [ok_some, ok_none, ok_bind, ok_lift1, ok_lift2, ok_lift3, ok_lift4, ok_bind2, ok_app1, ok_app2, ok_app3, ok_app4, ok_bif, ok_andG, ok_orG, ok_chain, ok_bindOut, bo_nx, bo_rt, bo_bk, bo_ct, ok_finO, fo_nx, fo_rt, nx_nx, nx_rt, ok_mul, ok_mod, ok_div, ok_appG, ok_szG, ok_catG, decide_eq_true_eq, decide_eq_false_iff_not, Bool.not_eq_true', Bool.not_eq_false', cLe, cLt, reduceCtorEq, false_implies, true_implies, implies_true, and_true, true_and])
    refine ok_rng1 (by omega) (by omega) (ok_filter (fun k => badI t rows k (rows.getD k.toNat 0)) (fun k hk => ?_) rfl)
    have hk := mem_rng.mp hk
    obtain ⟨e, _⟩ := getD_at (r := rows) (j := k) (by omega) (by omega)
    show orG (lift1 _ (chainG cLe cLt (some (0 : Int)) (atI rows k) (some (t.length : Int)))) (andG (lift2 _ (some k) (some 0)) (lift2 _ (bind2 atI (some rows) (lift2 (· - ·) (some k) (some (1 : Int)))) (atI rows k))) = _
    rw [e]
    exact badI_eq (by omega) (by omega)
  generalize hbd : ((rngL 0 rows.length).filter fun k => badI t rows k (rows.getD k.toNat 0)) = bad
  have hbl : bad.length ≤ 48 := by
    rw [← hbd]
    have := List.length_filter_le (fun k => badI t rows k (rows.getD k.toNat 0)) (rngL 0 rows.length)
    rw [rng_len] at this
    omega
  refine ok_let (fun v => v = wdO wd (chkR t rows)) ?_ fun las hlas => ?_
  · refine ok_orD.mpr (ok_some.mpr ?_)
    unfold chkR
    cases hk : chk t with
    | some e => exact ⟨fun _ => rfl, fun c => by cases c⟩
    | none =>
      refine ⟨fun c => (by cases c), fun _ => ?_⟩
      rw [hbd]
      (try simp only [ok_some, ok_none, ok_bind, ok_lift1, ok_lift2, ok_lift3, ok_lift4, ok_bind2, ok_app1, ok_app2, ok_app3, ok_app4, ok_bif, ok_andG, ok_orG, ok_chain, ok_bindOut, bo_nx, bo_rt, bo_bk, bo_ct, ok_finO, fo_nx, fo_rt, nx_nx, nx_rt, ok_mul, ok_mod, ok_div, ok_appG, ok_szG, ok_catG, decide_eq_true_eq, decide_eq_false_iff_not, Bool.not_eq_true', Bool.not_eq_false', cLe, cLt, reduceCtorEq, false_implies, true_implies, implies_true, and_true, true_and])
      cases bad with
      | nil => exact ⟨by simp, by simp, ok_of (v := 0) rfl ⟨by simp, by simp, by rw [pick2]; exact ok_some.mpr rfl⟩⟩
      | cons k r =>
        refine ⟨by simp, by simp at hbl ⊢; omega, ok_of (v := k) (by rw [atI_eq (by omega) (by simp; omega)]; rfl) ⟨by simp, by simp, ?_⟩⟩
        rw [pick2]
        refine ok_some.mpr ?_
        rw [if_pos (by simp)]; kernel_rfl
  refine ok_skip (or_ff ?_ ?_) (by (try simp only [ok_some, ok_none, ok_bind, ok_lift1, ok_lift2, ok_lift3, ok_lift4, ok_bind2, ok_app1, ok_app2, ok_app3, ok_app4, ok_bif, ok_andG, ok_orG, ok_chain, ok_bindOut, bo_nx, bo_rt, bo_bk, bo_ct, ok_finO, fo_nx, fo_rt, nx_nx, nx_rt, ok_mul, ok_mod, ok_div, ok_appG, ok_szG, ok_catG, decide_eq_true_eq, decide_eq_false_iff_not, Bool.not_eq_true', Bool.not_eq_false', cLe, cLt, reduceCtorEq, false_implies, true_implies, implies_true, and_true, true_and]))
  · rw [ok_iff]
    refine ok_bind2.mpr (ok_of (v := (rngL 0 9).map fun way => wdO wd (errWay way t rows)) ?_ ?_)
    · refine (show (Option.bind (some (rngL 0 9)) _) = _ from ?_)
      refine lcL_map fun way hw => ?_
      have hw := mem_rng.mp hw
      exact law_of_eq (by omega) (by omega)
    · rw [hlas]
      refine ok_of (v := (rngL 0 9).map fun way => wdO wd (errWay way t rows)) ?_ ?_
      · rfl
      · exact ok_of (neG_same (by
          show ((rngL 0 9).map fun way => wdO wd (errWay way t rows)).all ShG.ok = true
          rw [List.all_map, List.all_eq_true]
          exact fun x _ => wdO_ok _)) rfl
  · rw [hkept2]
    show some (!decide (kept = kept)) = _
    simp
end Lay.K42

open PySem PySem.W PyProof.Rows
set_option maxHeartbeats 0 in
theorem PySem.Challenge.cw_wholebest_k42_errors_of_sure_holds : PySem.Challenge.rw_wholebest_k42_errors_of_sure.Holds := by
  w_on; o_law; k_head; (case hw => w_witness2)
  k_fill
  refine Lay.law_walk (l := PySem.Challenge.rw_wholebest_k42_errors_of_sure) (n := 63) (k := 10) (x := "script") (sp := fun K => Lay.spR K .dd Lay.K42.m_law) rfl (by decide) rfl ⟨rfl, by decide, by decide⟩ (fun w h Y => PySem.W.kIn_of Y) ?F (fun K H a ns hl hO hS => Lay.law_sp Lay.K42.law_true K H a ns hl hO hS)
  case F =>
    intro w mg fa h KX G hmg
    refine' Lay.K42.all_mk KX G hmg ?a0 ?l0 ?c0 ?k0 ?a1 ?l1 ?c1 ?k1 ?a2 ?l2 ?c2 ?k2 ?a3 ?l3 ?c3 ?k3 ?a4 ?l4 ?c4 ?k4 ?a5 ?l5 ?c5 ?k5 ?a6 ?l6 ?c6 ?k6 ?a7 ?l7 ?c7 ?k7 ?a8 ?l8 ?c8 ?k8 ?a9 ?l9 ?c9 ?k9 ?a10 ?l10 ?c10 ?k10 ?a11 ?l11 ?c11 ?k11 ?a12 ?l12 ?c12 ?k12 ?a13 ?l13 ?c13 ?k13 ?a14 ?l14 ?c14 ?k14 ?a15 ?l15 ?c15 ?k15 ?a16 ?l16 ?c16 ?k16 ?a17 ?l17 ?c17 ?k17 ?a18 ?l18 ?c18 ?k18 ?a19 ?l19 ?c19 ?k19 ?a20 ?l20 ?c20 ?k20 ?a21 ?l21 ?c21 ?k21 ?a22 ?l22 ?c22 ?k22 ?a23 ?l23 ?c23 ?k23 ?a24 ?l24 ?c24 ?k24 ?a25 ?l25 ?c25 ?k25 ?a26 ?l26 ?c26 ?k26 ?a27 ?l27 ?c27 ?k27 ?a28 ?l28 ?c28 ?k28 ?a29 ?l29 ?c29 ?k29 ?a30 ?l30 ?c30 ?k30 ?a31 ?l31 ?c31 ?k31 ?a32 ?l32 ?c32 ?k32 ?a33 ?l33 ?c33 ?k33 ?a34 ?l34 ?c34 ?k34 ?a35 ?l35 ?c35 ?k35 ?a36 ?l36 ?c36 ?k36 ?z0 ?z1 ?z2 ?z3 ?z4 ?z5 ?z6 ?z7 ?z8 ?z9 ?z10 ?z11 ?z12 ?z13 ?z14 ?z15 ?eD ?eIn ?eI ?eIc ?eC ?eV ?eF ?eL ?eT ?eS ?e_tf ?e_any ?e_gs ?e_tk ?e_dB ?e_dc ?e_dt ?en0 ?ex0 ?esa0 ?ega0 ?egg0 ?ecl0 ?ena0 ?ein0 ?ekc0 ?etc0 ?ehd0 ?en1 ?ex1 ?esa1 ?ega1 ?egg1 ?ecl1 ?ena1 ?ein1 ?ekc1 ?etc1 ?ehd1 ?en2 ?ex2 ?esa2 ?ega2 ?egg2 ?ecl2 ?ena2 ?ein2 ?ekc2 ?etc2 ?ehd2 ?eN
    (case a0 => k_is)
    (case l0 => k_is)
    (case c0 => k_is)
    (case k0 => k_is)
    (case a1 => k_is)
    (case l1 => k_is)
    (case c1 => k_is)
    (case k1 => k_is)
    (case a2 => k_is)
    (case l2 => k_is)
    (case c2 => k_is)
    (case k2 => k_is)
    (case a3 => k_is)
    (case l3 => k_is)
    (case c3 => k_is)
    (case k3 => k_is)
    (case a4 => k_is)
    (case l4 => k_is)
    (case c4 => k_is)
    (case k4 => k_is)
    (case a5 => k_is)
    (case l5 => k_is)
    (case c5 => k_is)
    (case k5 => k_is)
    (case a6 => k_is)
    (case l6 => k_is)
    (case c6 => k_is)
    (case k6 => k_is)
    (case a7 => k_is)
    (case l7 => k_is)
    (case c7 => k_is)
    (case k7 => k_is)
    (case a8 => k_is)
    (case l8 => k_is)
    (case c8 => k_is)
    (case k8 => k_is)
    (case a9 => k_is)
    (case l9 => k_is)
    (case c9 => k_is)
    (case k9 => k_is)
    (case a10 => k_is)
    (case l10 => k_is)
    (case c10 => k_is)
    (case k10 => k_is)
    (case a11 => k_is)
    (case l11 => k_is)
    (case c11 => k_is)
    (case k11 => k_is)
    (case a12 => k_is)
    (case l12 => k_is)
    (case c12 => k_is)
    (case k12 => k_is)
    (case a13 => k_is)
    (case l13 => k_is)
    (case c13 => k_is)
    (case k13 => k_is)
    (case a14 => k_is)
    (case l14 => k_is)
    (case c14 => k_is)
    (case k14 => k_is)
    (case a15 => k_is)
    (case l15 => k_is)
    (case c15 => k_is)
    (case k15 => k_is)
    (case a16 => k_is)
    (case l16 => k_is)
    (case c16 => k_is)
    (case k16 => k_is)
    (case a17 => k_is)
    (case l17 => k_is)
    (case c17 => k_is)
    (case k17 => k_is)
    (case a18 => k_is)
    (case l18 => k_is)
    (case c18 => k_is)
    (case k18 => k_is)
    (case a19 => k_is)
    (case l19 => k_is)
    (case c19 => k_is)
    (case k19 => k_is)
    (case a20 => k_is)
    (case l20 => k_is)
    (case c20 => k_is)
    (case k20 => k_is)
    (case a21 => k_is)
    (case l21 => k_is)
    (case c21 => k_is)
    (case k21 => k_is)
    (case a22 => k_is)
    (case l22 => k_is)
    (case c22 => k_is)
    (case k22 => k_is)
    (case a23 => k_is)
    (case l23 => k_is)
    (case c23 => k_is)
    (case k23 => k_is)
    (case a24 => k_is)
    (case l24 => k_is)
    (case c24 => k_is)
    (case k24 => k_is)
    (case a25 => k_is)
    (case l25 => k_is)
    (case c25 => k_is)
    (case k25 => k_is)
    (case a26 => k_is)
    (case l26 => k_is)
    (case c26 => k_is)
    (case k26 => k_is)
    (case a27 => k_is)
    (case l27 => k_is)
    (case c27 => k_is)
    (case k27 => k_is)
    (case a28 => k_is)
    (case l28 => k_is)
    (case c28 => k_is)
    (case k28 => k_is)
    (case a29 => k_is)
    (case l29 => k_is)
    (case c29 => k_is)
    (case k29 => k_is)
    (case a30 => k_is)
    (case l30 => k_is)
    (case c30 => k_is)
    (case k30 => k_is)
    (case a31 => k_is)
    (case l31 => k_is)
    (case c31 => k_is)
    (case k31 => k_is)
    (case a32 => k_is)
    (case l32 => k_is)
    (case c32 => k_is)
    (case k32 => k_is)
    (case a33 => k_is)
    (case l33 => k_is)
    (case c33 => k_is)
    (case k33 => k_is)
    (case a34 => k_is)
    (case l34 => k_is)
    (case c34 => k_is)
    (case k34 => k_is)
    (case a35 => k_is)
    (case l35 => k_is)
    (case c35 => k_is)
    (case k35 => k_is)
    (case a36 => k_is)
    (case l36 => k_is)
    (case c36 => k_is)
    (case k36 => k_is)
    (case z0 => k_is)
    (case z1 => k_is)
    (case z2 => k_is)
    (case z3 => k_is)
    (case z4 => k_is)
    (case z5 => k_is)
    (case z6 => k_is)
    (case z7 => k_is)
    (case z8 => k_is)
    (case z9 => k_is)
    (case z10 => k_is)
    (case z11 => k_is)
    (case z12 => k_is)
    (case z13 => k_is)
    (case z14 => k_is)
    (case z15 => k_is)
    (case eD => k_is)
    (case eIn => k_is)
    (case eI => k_is)
    (case eIc => k_is)
    (case eC => k_is)
    (case eV => rfl)
    (case eF => decide +kernel)
    (case eL => k_is)
    (case eT => decide +kernel)
    (case eS => k_is)
    (case e_tf => k_is)
    (case e_any => k_is)
    (case e_gs => k_is)
    (case e_tk => k_is)
    (case e_dB => k_is)
    (case e_dc => k_is)
    (case e_dt => k_is)
    (case en0 => k_is)
    (case ex0 => k_is)
    (case esa0 => k_is)
    (case ega0 => k_is)
    (case egg0 => k_is)
    (case ecl0 => k_is)
    (case ena0 => k_is)
    (case ein0 => k_is)
    (case ekc0 => k_is)
    (case etc0 => k_is)
    (case ehd0 => k_is)
    (case en1 => k_is)
    (case ex1 => k_is)
    (case esa1 => k_is)
    (case ega1 => k_is)
    (case egg1 => k_is)
    (case ecl1 => k_is)
    (case ena1 => k_is)
    (case ein1 => k_is)
    (case ekc1 => k_is)
    (case etc1 => k_is)
    (case ehd1 => k_is)
    (case en2 => k_is)
    (case ex2 => k_is)
    (case esa2 => k_is)
    (case ega2 => k_is)
    (case egg2 => k_is)
    (case ecl2 => k_is)
    (case ena2 => k_is)
    (case ein2 => k_is)
    (case ekc2 => k_is)
    (case etc2 => k_is)
    (case ehd2 => k_is)
    (case eN => decide +kernel)
