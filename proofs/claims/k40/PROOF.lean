import PyProof.Rows.All
import Wide.All
import OpenK.AllK
import Wide.FinOn
import HandS.ForMost
import HandS.ForExc
import HandS.IsInst
import HandS.Wide
import HandS.WideMore
import HandS.CallSlots
import HandS.Conv
import HandS.Rev
import HandS.Flow
import HandS.Style
import HandS.EndBits
import HandS.TupAny
import HandS.RevTup
import HandS.HeadNt
import HandS.HeadWalk
import HandS.HeadEnd
import HandS.Head0
import HandS.Head1
import HandS.Head2
import KE.KStateDown
import HandS.SortInts
import HandS.TupLe
import HandS.TryMany
import HandS.ExcIs
import HandS.List
import PySem.Challenge.RW_oncecodes_k40_whole_locks_and_buckets
set_option Elab.async false
set_option linter.all false
set_option maxRecDepth 100000
set_option maxHeartbeats 4000000
set_option autoImplicit false
namespace Mi
open PySem PySem.Spec PyProof.Rows L2

/-- a value with all that it holds -/
inductive D where
  | non | bl (b : Bool) | int (i : Int) | str (x : Str)
  | tup (ds : List D) | lst (ds : List D) | rls (ds : List D)
  | dct (ks : List Key) (ds : List D)
  | ty (n : String)

mutual
def Den (K : PySem.W.Frag) (H : Hp) : D → V → Prop
  | .non, v => v = .non
  | .bl b, v => v = .bl b
  | .int i, v => v = .int i
  | .str x, v => v = .str x
  | .tup ds, v => ∃ a vs, v = .ref a ∧ SqT K H a vs ∧ DenL K H ds vs
  | .lst ds, v => ∃ a vs, v = .ref a ∧ H a = some (.lst vs) ∧ DenL K H ds vs
  | .rls ds, v => ∃ a vs, v = .ref a ∧ SqL K H a vs ∧ DenL K H ds vs
  | .dct ks ds, v => ∃ a vs, v = .ref a ∧ H a = some (.dK (ks.zip vs)) ∧ ks.length = vs.length ∧ DenL K H ds vs
  | .ty n, v => v = .ty n
def DenL (K : PySem.W.Frag) (H : Hp) : List D → List V → Prop
  | [], vs => vs = []
  | d :: ds, vs => ∃ v r, vs = v :: r ∧ Den K H d v ∧ DenL K H ds r
end

theorem Same.seqT {K : PySem.W.Frag} {H H' : Hp} {a : Addr} {xs : List V} (e : Same H H') (h : SqT K H a xs) : SqT K H' a xs := by
  rcases h with (h | ⟨o, h⟩) | h
  · exact .inl (.inl (e _ _ h))
  · exact .inl (.inr ⟨o, e _ _ h⟩)
  · exact .inr h

mutual
theorem Den.mono {K : PySem.W.Frag} {H H' : Hp} (s : Same H H') : ∀ (d : D) (v : V), Den K H d v → Den K H' d v
  | .non, _, h => h
  | .bl _, _, h => h
  | .int _, _, h => h
  | .str _, _, h => h
  | .tup ds, v, h => by
    simp only [Den] at h ⊢
    obtain ⟨a, vs, e, q, l⟩ := h
    exact ⟨a, vs, e, Same.seqT s q, DenL.mono s ds vs l⟩
  | .lst ds, v, h => by
    simp only [Den] at h ⊢
    obtain ⟨a, vs, e, q, l⟩ := h
    exact ⟨a, vs, e, s _ _ q, DenL.mono s ds vs l⟩
  | .rls ds, v, h => by
    simp only [Den] at h ⊢
    obtain ⟨a, vs, e, q, l⟩ := h
    exact ⟨a, vs, e, s.seq q, DenL.mono s ds vs l⟩
  | .dct ks ds, v, h => by
    simp only [Den] at h ⊢
    obtain ⟨a, vs, e, q, n, l⟩ := h
    exact ⟨a, vs, e, s _ _ q, n, DenL.mono s ds vs l⟩
  | .ty _, _, h => h
theorem DenL.mono {K : PySem.W.Frag} {H H' : Hp} (s : Same H H') : ∀ (ds : List D) (vs : List V), DenL K H ds vs → DenL K H' ds vs
  | [], _, h => h
  | d :: ds, vs, h => by
    simp only [DenL] at h ⊢
    obtain ⟨v, r, e, h1, h2⟩ := h
    exact ⟨v, r, e, Den.mono s d v h1, DenL.mono s ds r h2⟩
end

section
variable {K : PySem.W.Frag} {H H' : Hp}
theorem DenL.length : ∀ {ds : List D} {vs : List V}, DenL K H ds vs → ds.length = vs.length
  | [], _, h => by simp only [DenL] at h; subst h; rfl
  | d :: ds, vs, h => by
    simp only [DenL] at h
    obtain ⟨v, r, rfl, _, h2⟩ := h
    rw [List.length_cons, List.length_cons, DenL.length h2]
theorem DenL.nil : DenL K H [] [] := by simp only [DenL]
theorem DenL.cons {d : D} {v : V} {ds : List D} {vs : List V} (h : Den K H d v) (t : DenL K H ds vs) : DenL K H (d :: ds) (v :: vs) := by
  simp only [DenL]
  exact ⟨v, vs, rfl, h, t⟩
theorem DenL.get : ∀ {ds : List D} {vs : List V} {i : Nat} {d : D}, DenL K H ds vs → ds[i]? = some d → ∃ v, vs[i]? = some v ∧ Den K H d v
  | [], _, _, _, _, e => by simp at e
  | d :: ds, vs, i, d', h, e => by
    simp only [DenL] at h
    obtain ⟨v, r, rfl, h1, h2⟩ := h
    cases i with
    | zero =>
      simp only [List.getElem?_cons_zero, Option.some.injEq] at e
      subst e
      exact ⟨v, rfl, h1⟩
    | succ i =>
      simp only [List.getElem?_cons_succ] at e ⊢
      exact DenL.get h2 e
theorem DenL.getV : ∀ {ds : List D} {vs : List V} {i : Nat} {v : V}, DenL K H ds vs → vs[i]? = some v → ∃ d, ds[i]? = some d ∧ Den K H d v
  | [], _, _, _, h, e => by simp only [DenL] at h; subst h; simp at e
  | d :: ds, vs, i, d', h, e => by
    simp only [DenL] at h
    obtain ⟨v, r, rfl, h1, h2⟩ := h
    cases i with
    | zero =>
      simp only [List.getElem?_cons_zero, Option.some.injEq] at e
      subst e
      exact ⟨d, rfl, h1⟩
    | succ i =>
      simp only [List.getElem?_cons_succ] at e ⊢
      exact DenL.getV h2 e
theorem DenL.append : ∀ {ds es : List D} {vs us : List V}, DenL K H ds vs → DenL K H es us → DenL K H (ds ++ es) (vs ++ us)
  | [], _, _, _, h, t => by simp only [DenL] at h; subst h; exact t
  | d :: ds, _, _, _, h, t => by
    simp only [DenL] at h
    obtain ⟨v, r, rfl, h1, h2⟩ := h
    exact DenL.cons h1 (DenL.append h2 t)
theorem DenL.take : ∀ {ds : List D} {vs : List V} (n : Nat), DenL K H ds vs → DenL K H (ds.take n) (vs.take n)
  | [], _, n, h => by simp only [DenL] at h; subst h; simp [DenL]
  | d :: ds, _, 0, h => by simp [DenL]
  | d :: ds, _, n + 1, h => by
    simp only [DenL] at h
    obtain ⟨v, r, rfl, h1, h2⟩ := h
    exact DenL.cons h1 (DenL.take n h2)
theorem DenL.drop : ∀ {ds : List D} {vs : List V} (n : Nat), DenL K H ds vs → DenL K H (ds.drop n) (vs.drop n)
  | [], _, n, h => by simp only [DenL] at h; subst h; simp [DenL]
  | d :: ds, _, 0, h => h
  | d :: ds, _, n + 1, h => by
    simp only [DenL] at h
    obtain ⟨v, r, rfl, h1, h2⟩ := h
    exact DenL.drop n h2
theorem DenL.dropLast : ∀ {ds : List D} {vs : List V}, DenL K H ds vs → DenL K H ds.dropLast vs.dropLast := fun {ds vs} h => by
  rw [List.dropLast_eq_take, List.dropLast_eq_take, ← DenL.length h]
  exact DenL.take _ h
theorem DenL.reverse : ∀ {ds : List D} {vs : List V}, DenL K H ds vs → DenL K H ds.reverse vs.reverse
  | [], _, h => by simp only [DenL] at h; subst h; simp [DenL]
  | d :: ds, _, h => by
    simp only [DenL] at h
    obtain ⟨v, r, rfl, h1, h2⟩ := h
    rw [List.reverse_cons, List.reverse_cons]
    exact DenL.append (DenL.reverse h2) (DenL.cons h1 DenL.nil)
theorem DenL.set : ∀ {ds : List D} {vs : List V} {d : D} {v : V} (i : Nat), DenL K H ds vs → Den K H d v → DenL K H (ds.set i d) (vs.set i v)
  | [], _, _, _, _, h, _ => by simp only [DenL] at h; subst h; simp [DenL]
  | d :: ds, _, d', v', i, h, hd => by
    simp only [DenL] at h
    obtain ⟨v, r, rfl, h1, h2⟩ := h
    cases i with
    | zero => exact DenL.cons hd h2
    | succ i => exact DenL.cons h1 (DenL.set i h2 hd)
theorem DenL.replicate {d : D} {v : V} (h : Den K H d v) : ∀ n : Nat, DenL K H (List.replicate n d) (List.replicate n v)
  | 0 => DenL.nil
  | n + 1 => by
    rw [List.replicate_succ, List.replicate_succ]
    exact DenL.cons h (DenL.replicate h n)
theorem DenL.rep {ds : List D} {vs : List V} (h : DenL K H ds vs) : ∀ n : Nat, DenL K H (List.replicate n ds).flatten (List.replicate n vs).flatten
  | 0 => DenL.nil
  | n + 1 => by
    rw [List.replicate_succ, List.replicate_succ, List.flatten_cons, List.flatten_cons]
    exact DenL.append h (DenL.rep h n)
theorem DenL.eraseIdx : ∀ {ds : List D} {vs : List V} (i : Nat), DenL K H ds vs → DenL K H (ds.eraseIdx i) (vs.eraseIdx i)
  | [], _, _, h => by simp only [DenL] at h; subst h; simp [DenL]
  | d :: ds, _, i, h => by
    simp only [DenL] at h
    obtain ⟨v, r, rfl, h1, h2⟩ := h
    cases i with
    | zero => exact h2
    | succ i => exact DenL.cons h1 (DenL.eraseIdx i h2)
end

/-! ### slots -/
inductive Sl where
  | un | val (d : D) | own (ds : List D) | brw (ds : List D)
abbrev En := List Sl
inductive R (α : Type) where
  | ok (a : α) | exc (c : Str) (e : En) | err

/-- the entry of a def: the heap there, what of it is seen, what is lent -/
structure Act where
  Hr : Hp
  He : Hp
  bor : Addr → Prop
  bld : Addr → Option (List V)
def off (A : Act) (a : Addr) : Prop := A.Hr a ≠ none ∧ A.He a = none
def Held (e : En) (i : Nat) : Prop := ∃ ds, e[i]? = some (.own ds) ∨ e[i]? = some (.brw ds)
def OwnAt (σ : L2.St) (e : En) (a : Addr) : Prop := ∃ i, Held e i ∧ σ[i]? = some (some (.ref a))
open Classical in
noncomputable def hid (A : Act) (σ : L2.St) (e : En) (H : Hp) : Hp := fun a => if OwnAt σ e a ∨ off A a then none else H a

structure Rep (K : PySem.W.Frag) (A : Act) (H : Hp) (σ : L2.St) (e : En) : Prop where
  len : σ.length = e.length
  sub : Same A.He A.Hr
  nbor : ∀ a, A.bor a ∨ A.bld a ≠ none → A.He a = none ∧ H a ≠ none
  nbld : ∀ a vs, A.bld a = some vs → A.Hr a ≠ none ∧ ¬ A.bor a ∧ H a = some (.lst vs)
  keep : ∀ b x, A.Hr b = some x → ¬ (A.bor b ∨ A.bld b ≠ none) → H b = some x
  val : ∀ (i : Nat) (d : D), e[i]? = some (.val d) → ∃ v, σ[i]? = some (some v) ∧ Den K (hid A σ e H) d v
  own : ∀ (i : Nat) (ds : List D), e[i]? = some (.own ds) → ∃ a vs, σ[i]? = some (some (.ref a)) ∧ H a = some (.lst vs) ∧ DenL K (hid A σ e H) ds vs ∧ A.Hr a = none
  brw : ∀ (i : Nat) (ds : List D), e[i]? = some (.brw ds) → ∃ a vs, σ[i]? = some (some (.ref a)) ∧ H a = some (.lst vs) ∧ DenL K (hid A σ e H) ds vs ∧ A.bor a
  inj : ∀ (i j : Nat) (a : Addr), Held e i → Held e j → σ[i]? = some (some (.ref a)) → σ[j]? = some (some (.ref a)) → i = j

section
variable {K : PySem.W.Frag} {A : Act} {H H' : Hp} {σ : L2.St} {e : En}
theorem hid_sub : Same (hid A σ e H) H := fun b o h => by
  unfold hid at h
  split at h
  · cases h
  · exact h
theorem hid_in {b : Addr} (n : ¬ OwnAt σ e b) (m : ¬ off A b) : hid A σ e H b = H b := by
  unfold hid
  rw [if_neg (by rintro (h | h); exact n h; exact m h)]
theorem hid_not {b : Addr} {o : HO} (h : hid A σ e H b = some o) : ¬ OwnAt σ e b ∧ ¬ off A b ∧ H b = some o := by
  unfold hid at h
  split at h
  · cases h
  · rename_i n
    exact ⟨fun x => n (.inl x), fun x => n (.inr x), h⟩
theorem hid_same (s : Same H H') : Same (hid A σ e H) (hid A σ e H') := fun b o h => by
  obtain ⟨n, m, h⟩ := hid_not h
  rw [hid_in n m]
  exact s _ _ h
theorem Rep.held {i : Nat} (r : Rep K A H σ e) (h : Held e i) : ∃ a vs, σ[i]? = some (some (.ref a)) ∧ H a = some (.lst vs) ∧ (A.Hr a = none ∨ A.bor a) := by
  obtain ⟨ds, h | h⟩ := h
  · obtain ⟨a, vs, h1, h2, _, h4⟩ := r.own i ds h
    exact ⟨a, vs, h1, h2, .inl h4⟩
  · obtain ⟨a, vs, h1, h2, _, h4⟩ := r.brw i ds h
    exact ⟨a, vs, h1, h2, .inr h4⟩
theorem Rep.ownAt {a : Addr} (r : Rep K A H σ e) (h : OwnAt σ e a) : ∃ vs, H a = some (.lst vs) ∧ (A.Hr a = none ∨ A.bor a) := by
  obtain ⟨i, hi, ha⟩ := h
  obtain ⟨b, vs, h1, h2, h3⟩ := r.held hi
  rw [ha] at h1
  cases h1
  exact ⟨vs, h2, h3⟩
/-- a new address is neither held nor out of sight -/
theorem Rep.new {p : Addr} (r : Rep K A H σ e) (h : H p = none) : ¬ OwnAt σ e p ∧ ¬ off A p ∧ ¬ (A.bor p ∨ A.bld p ≠ none) ∧ A.Hr p = none := by
  have nb : ¬ (A.bor p ∨ A.bld p ≠ none) := fun b => (r.nbor p b).2 h
  have nr : A.Hr p = none := by
    cases q : A.Hr p with
    | none => rfl
    | some x =>
      have := r.keep p x q nb
      rw [h] at this
      cases this
  refine ⟨fun o => ?_, fun o => o.1 nr, nb, nr⟩
  obtain ⟨vs, h2, _⟩ := r.ownAt o
  rw [h] at h2
  cases h2
theorem Rep.grow (r : Rep K A H σ e) (s : Same H H') : Rep K A H' σ e where
  len := r.len
  sub := r.sub
  nbor := fun a b => ⟨(r.nbor a b).1, fun h => by
    cases q : H a with
    | none => exact (r.nbor a b).2 q
    | some x => rw [s _ _ q] at h; cases h⟩
  nbld := fun a vs h => let ⟨h1, h2, h3⟩ := r.nbld a vs h; ⟨h1, h2, s _ _ h3⟩
  keep := fun b x h n => s _ _ (r.keep b x h n)
  val := fun i d h => by
    obtain ⟨v, h1, h2⟩ := r.val i d h
    exact ⟨v, h1, Den.mono (hid_same s) d v h2⟩
  own := fun i ds h => by
    obtain ⟨a, vs, h1, h2, h3, h4⟩ := r.own i ds h
    exact ⟨a, vs, h1, s _ _ h2, DenL.mono (hid_same s) ds vs h3, h4⟩
  brw := fun i ds h => by
    obtain ⟨a, vs, h1, h2, h3, h4⟩ := r.brw i ds h
    exact ⟨a, vs, h1, s _ _ h2, DenL.mono (hid_same s) ds vs h3, h4⟩
  inj := r.inj
/-- what is new stands in sight -/
theorem Rep.seen {b : Addr} {o : HO} (r : Rep K A H σ e) (h : H' b = some o) (n : H b = none) : hid A σ e H' b = some o := by
  obtain ⟨h1, h2, _⟩ := r.new n
  rw [hid_in h1 h2]
  exact h
/-- what was seen at the entry is seen -/
theorem Rep.entry (r : Rep K A H σ e) : Same A.He (hid A σ e H) := fun b o h => by
  have hr := r.sub _ _ h
  have nb : ¬ (A.bor b ∨ A.bld b ≠ none) := fun x => by rw [(r.nbor b x).1] at h; cases h
  have hb := r.keep b o hr nb
  rw [hid_in _ _]
  · exact hb
  · intro x
    obtain ⟨_, _, h3 | h3⟩ := r.ownAt x
    · rw [h3] at hr; cases hr
    · exact nb (.inl h3)
  · intro x
    rw [x.2] at h; cases h
theorem held_set {i j : Nat} {d : D} (h : Held (e.set i (.val d)) j) : Held e j ∧ j ≠ i := by
  obtain ⟨ds, h⟩ := h
  have ne : j ≠ i := by
    rintro rfl
    by_cases q : j < e.length
    · rw [List.getElem?_set_self q] at h
      rcases h with h | h <;> cases h
    · rw [List.getElem?_eq_none (by simpa using q)] at h
      rcases h with h | h <;> cases h
  rw [List.getElem?_set_ne (fun x => ne x.symm)] at h
  exact ⟨⟨ds, h⟩, ne⟩
theorem ownAt_set {i : Nat} {d : D} {v : Option V} {a : Addr} (h : OwnAt (σ.set i v) (e.set i (.val d)) a) : OwnAt σ e a := by
  obtain ⟨j, hj, ha⟩ := h
  obtain ⟨h1, h2⟩ := held_set hj
  rw [List.getElem?_set_ne (fun x => h2 x.symm)] at ha
  exact ⟨j, h1, ha⟩
theorem hid_set {i : Nat} {d : D} {v : Option V} : Same (hid A σ e H) (hid A (σ.set i v) (e.set i (.val d)) H) := fun b o h => by
  obtain ⟨n, m, h⟩ := hid_not h
  rw [hid_in (fun x => n (ownAt_set x)) m]
  exact h
/-- a slot takes a value -/
theorem Rep.set {i : Nat} {d : D} {v : V} (r : Rep K A H σ e) (h : Den K (hid A σ e H) d v) : Rep K A H (σ.set i (some v)) (e.set i (.val d)) where
  len := by rw [List.length_set, List.length_set]; exact r.len
  sub := r.sub
  nbor := r.nbor
  nbld := r.nbld
  keep := r.keep
  val := fun j d' h' => by
    by_cases hj : j = i
    · subst hj
      have q : j < e.length := by
        by_cases q : j < e.length
        · exact q
        · rw [List.getElem?_eq_none (by simpa using q)] at h'; cases h'
      rw [List.getElem?_set_self q] at h'
      cases h'
      exact ⟨v, List.getElem?_set_self (by rw [r.len]; exact q), Den.mono hid_set _ _ h⟩
    · rw [List.getElem?_set_ne (fun x => hj x.symm)] at h'
      obtain ⟨v', h1, h2⟩ := r.val j d' h'
      exact ⟨v', by rw [List.getElem?_set_ne (fun x => hj x.symm)]; exact h1, Den.mono hid_set _ _ h2⟩
  own := fun j ds h' => by
    have hj := (held_set ⟨ds, .inl h'⟩).2
    rw [List.getElem?_set_ne (fun x => hj x.symm)] at h'
    obtain ⟨a, vs, h1, h2, h3, h4⟩ := r.own j ds h'
    exact ⟨a, vs, by rw [List.getElem?_set_ne (fun x => hj x.symm)]; exact h1, h2, DenL.mono hid_set _ _ h3, h4⟩
  brw := fun j ds h' => by
    have hj := (held_set ⟨ds, .inr h'⟩).2
    rw [List.getElem?_set_ne (fun x => hj x.symm)] at h'
    obtain ⟨a, vs, h1, h2, h3, h4⟩ := r.brw j ds h'
    exact ⟨a, vs, by rw [List.getElem?_set_ne (fun x => hj x.symm)]; exact h1, h2, DenL.mono hid_set _ _ h3, h4⟩
  inj := fun j k a hj hk h1 h2 => by
    obtain ⟨hj, nj⟩ := held_set hj
    obtain ⟨hk, nk⟩ := held_set hk
    rw [List.getElem?_set_ne (fun x => nj x.symm)] at h1
    rw [List.getElem?_set_ne (fun x => nk x.symm)] at h2
    exact r.inj j k a hj hk h1 h2
/-- a held list becomes a value -/
theorem Rep.freeze {i : Nat} {ds : List D} (r : Rep K A H σ e) (h : e[i]? = some (.own ds)) :
    ∃ a, σ[i]? = some (some (.ref a)) ∧ Rep K A H σ (e.set i (.val (.lst ds))) ∧ Same (hid A σ e H) (hid A σ (e.set i (.val (.lst ds))) H) ∧ Den K (hid A σ (e.set i (.val (.lst ds))) H) (.lst ds) (.ref a) := by
  obtain ⟨a, vs, h1, h2, h3, h4⟩ := r.own i ds h
  have q : i < e.length := by
    by_cases q : i < e.length
    · exact q
    · rw [List.getElem?_eq_none (by simpa using q)] at h; cases h
  have es : σ.set i (some (.ref a)) = σ := by
    apply List.ext_getElem?
    intro j
    by_cases hj : i = j
    · subst hj
      rw [List.getElem?_set_self (by rw [r.len]; exact q), h1]
    · rw [List.getElem?_set_ne hj]
  have sm : Same (hid A σ e H) (hid A σ (e.set i (.val (.lst ds))) H) := by
    have := @hid_set A H σ e i (.lst ds) (some (.ref a))
    rw [es] at this
    exact this
  have na : ¬ OwnAt σ (e.set i (.val (.lst ds))) a := by
    rintro ⟨j, hj, ha⟩
    obtain ⟨hj, nj⟩ := held_set hj
    exact nj (r.inj j i a hj ⟨ds, .inl h⟩ ha h1)
  have nf : ¬ off A a := fun x => x.1 h4
  have hd : Den K (hid A σ (e.set i (.val (.lst ds))) H) (.lst ds) (.ref a) := by
    simp only [Den]
    exact ⟨a, vs, rfl, by rw [hid_in na nf]; exact h2, DenL.mono sm _ _ h3⟩
  refine ⟨a, h1, ?_, sm, hd⟩
  exact {
    len := by rw [List.length_set]; exact r.len
    sub := r.sub
    nbor := r.nbor
    nbld := r.nbld
    keep := r.keep
    val := fun j d' h' => by
      by_cases hj : j = i
      · subst hj
        rw [List.getElem?_set_self q] at h'
        cases h'
        exact ⟨_, h1, hd⟩
      · rw [List.getElem?_set_ne (fun x => hj x.symm)] at h'
        obtain ⟨v', h1, h2⟩ := r.val j d' h'
        exact ⟨v', h1, Den.mono sm _ _ h2⟩
    own := fun j ds' h' => by
      have hj := (held_set ⟨ds', .inl h'⟩).2
      rw [List.getElem?_set_ne (fun x => hj x.symm)] at h'
      obtain ⟨a, vs, h1, h2, h3, h4⟩ := r.own j ds' h'
      exact ⟨a, vs, h1, h2, DenL.mono sm _ _ h3, h4⟩
    brw := fun j ds' h' => by
      have hj := (held_set ⟨ds', .inr h'⟩).2
      rw [List.getElem?_set_ne (fun x => hj x.symm)] at h'
      obtain ⟨a, vs, h1, h2, h3, h4⟩ := r.brw j ds' h'
      exact ⟨a, vs, h1, h2, DenL.mono sm _ _ h3, h4⟩
    inj := fun j k b hj hk h1 h2 => r.inj j k b (held_set hj).1 (held_set hk).1 h1 h2 }
/-- the kind of a slot, told by what it holds -/
def Sl.turn : Sl → List D → Sl
  | .own _, ds => .own ds
  | .brw _, ds => .brw ds
  | s, _ => s
theorem held_turn {i j : Nat} {s : Sl} {ds : List D} (hs : e[i]? = some s) : Held (e.set i (s.turn ds)) j ↔ Held e j := by
  by_cases hj : j = i
  · subst hj
    have q : j < e.length := by
      by_cases q : j < e.length
      · exact q
      · rw [List.getElem?_eq_none (by simpa using q)] at hs; cases hs
    unfold Held
    rw [List.getElem?_set_self q, hs]
    cases s <;> simp [Sl.turn]
  · unfold Held
    rw [List.getElem?_set_ne (fun x => hj x.symm)]
theorem ownAt_turn {i : Nat} {s : Sl} {ds : List D} {a : Addr} (hs : e[i]? = some s) : OwnAt σ (e.set i (s.turn ds)) a ↔ OwnAt σ e a := by
  unfold OwnAt
  constructor
  · rintro ⟨j, h1, h2⟩
    exact ⟨j, (held_turn hs).1 h1, h2⟩
  · rintro ⟨j, h1, h2⟩
    exact ⟨j, (held_turn hs).2 h1, h2⟩
/-- a held list is rewritten -/
theorem Rep.put {i : Nat} {s : Sl} {a : Addr} {ds : List D} {vs : List V} (r : Rep K A H σ e) (hs : e[i]? = some s) (hh : Held e i) (ha : σ[i]? = some (some (.ref a))) (h : DenL K (hid A σ e H) ds vs) :
    Rep K A (upd H a (.lst vs)) σ (e.set i (s.turn ds)) ∧ hid A σ (e.set i (s.turn ds)) (upd H a (.lst vs)) = hid A σ e H := by
  have oa : OwnAt σ e a := ⟨i, hh, ha⟩
  obtain ⟨ws, ow, hra⟩ := r.ownAt oa
  have eh : hid A σ (e.set i (s.turn ds)) (upd H a (.lst vs)) = hid A σ e H := by
    funext b
    unfold hid
    by_cases hb : OwnAt σ e b ∨ off A b
    · rw [if_pos hb, if_pos (hb.imp (ownAt_turn hs).2 id)]
    · rw [if_neg hb, if_neg (fun x => hb (x.imp (ownAt_turn hs).1 id)), upd_ne]
      rintro rfl
      exact hb (.inl oa)
  refine ⟨?_, eh⟩
  have qi : i < e.length := by
    by_cases q : i < e.length
    · exact q
    · rw [List.getElem?_eq_none (by simpa using q)] at hs; cases hs
  exact {
    len := by rw [List.length_set]; exact r.len
    sub := r.sub
    nbor := fun b hb => ⟨(r.nbor b hb).1, by
      by_cases q : b = a
      · subst q; rw [upd_same]; exact fun x => by cases x
      · rw [upd_ne q]; exact (r.nbor b hb).2⟩
    nbld := fun b us hb => by
      obtain ⟨h1, h2, h3⟩ := r.nbld b us hb
      refine ⟨h1, h2, ?_⟩
      rw [upd_ne]
      · exact h3
      · rintro rfl
        rcases hra with h | h
        · exact h1 h
        · exact h2 h
    keep := fun b x hx nb => by
      have q : b ≠ a := by
        rintro rfl
        rcases hra with h | h
        · rw [h] at hx; cases hx
        · exact nb (.inl h)
      rw [upd_ne q]
      exact r.keep b x hx nb
    val := fun j d' h' => by
      rw [eh]
      by_cases hj : j = i
      · subst hj
        rw [List.getElem?_set_self qi] at h'
        obtain ⟨ds0, hh | hh⟩ := hh
        · rw [hs] at hh; cases hh; cases h'
        · rw [hs] at hh; cases hh; cases h'
      · rw [List.getElem?_set_ne (fun x => hj x.symm)] at h'
        exact r.val j d' h'
    own := fun j ds' h' => by
      rw [eh]
      by_cases hj : j = i
      · subst hj
        rw [List.getElem?_set_self qi] at h'
        obtain ⟨ds0, hh | hh⟩ := hh
        · rw [hs] at hh
          cases hh
          obtain ⟨b, us, k1, k2, k3, k4⟩ := r.own j ds0 hs
          rw [ha] at k1
          cases k1
          cases h'
          exact ⟨a, vs, ha, upd_same, h, k4⟩
        · rw [hs] at hh; cases hh; cases h'
      · rw [List.getElem?_set_ne (fun x => hj x.symm)] at h'
        obtain ⟨b, us, k1, k2, k3, k4⟩ := r.own j ds' h'
        refine ⟨b, us, k1, ?_, k3, k4⟩
        rw [upd_ne]
        · exact k2
        · rintro rfl
          exact hj (r.inj j i b ⟨ds', .inl h'⟩ hh k1 ha)
    brw := fun j ds' h' => by
      rw [eh]
      by_cases hj : j = i
      · subst hj
        rw [List.getElem?_set_self qi] at h'
        obtain ⟨ds0, hh | hh⟩ := hh
        · rw [hs] at hh; cases hh; cases h'
        · rw [hs] at hh
          cases hh
          obtain ⟨b, us, k1, k2, k3, k4⟩ := r.brw j ds0 hs
          rw [ha] at k1
          cases k1
          cases h'
          exact ⟨a, vs, ha, upd_same, h, k4⟩
      · rw [List.getElem?_set_ne (fun x => hj x.symm)] at h'
        obtain ⟨b, us, k1, k2, k3, k4⟩ := r.brw j ds' h'
        refine ⟨b, us, k1, ?_, k3, k4⟩
        rw [upd_ne]
        · exact k2
        · rintro rfl
          exact hj (r.inj j i b ⟨ds', .inr h'⟩ hh k1 ha)
    inj := fun j k b hj hk h1 h2 => r.inj j k b ((held_turn hs).1 hj) ((held_turn hs).1 hk) h1 h2 }
/-- a slot takes a new list, held -/
theorem Rep.take {i : Nat} {s : Sl} {ds : List D} {vs : List V} {p : Addr} (r : Rep K A H σ e) (hp : H p = none) (h : DenL K (hid A σ e H) ds vs) (hs : s = .own ds) (hi : i < e.length) :
    Rep K A (upd H p (.lst vs)) (σ.set i (some (.ref p))) (e.set i s) := by
  obtain ⟨no, nf, nb, nr⟩ := r.new hp
  have hl : ∀ j, j ≠ i → ((e.set i s)[j]? = e[j]? ∧ (σ.set i (some (V.ref p)))[j]? = σ[j]?) := fun j hj =>
    ⟨List.getElem?_set_ne (fun x => hj x.symm), List.getElem?_set_ne (fun x => hj x.symm)⟩
  have hii : (e.set i s)[i]? = some s := List.getElem?_set_self hi
  have hsi : (σ.set i (some (V.ref p)))[i]? = some (some (.ref p)) := List.getElem?_set_self (by rw [r.len]; exact hi)
  have oa : ∀ b, OwnAt (σ.set i (some (V.ref p))) (e.set i s) b → b = p ∨ OwnAt σ e b := by
    rintro b ⟨j, ⟨ds', h1⟩, h2⟩
    by_cases hj : j = i
    · subst hj
      rw [hsi] at h2
      cases h2
      exact .inl rfl
    · rw [(hl j hj).1] at h1
      rw [(hl j hj).2] at h2
      exact .inr ⟨j, ⟨ds', h1⟩, h2⟩
  have sm : Same (hid A σ e H) (hid A (σ.set i (some (V.ref p))) (e.set i s) (upd H p (.lst vs))) := fun b o h => by
    obtain ⟨n, m, h⟩ := hid_not h
    have q : b ≠ p := by rintro rfl; rw [hp] at h; cases h
    rw [hid_in (fun x => (oa b x).elim q n) m, upd_ne q]
    exact h
  have ne : ∀ b x, H b = some x → b ≠ p := fun b x h q => by rw [q, hp] at h; cases h
  exact {
    len := by rw [List.length_set, List.length_set]; exact r.len
    sub := r.sub
    nbor := fun b hb => ⟨(r.nbor b hb).1, by
      have q : b ≠ p := by rintro rfl; exact nb hb
      rw [upd_ne q]; exact (r.nbor b hb).2⟩
    nbld := fun b us hb => by
      obtain ⟨h1, h2, h3⟩ := r.nbld b us hb
      exact ⟨h1, h2, by rw [upd_ne (ne _ _ h3)]; exact h3⟩
    keep := fun b x hx nb' => by
      have k := r.keep b x hx nb'
      rw [upd_ne (ne _ _ k)]
      exact k
    val := fun j d' h' => by
      by_cases hj : j = i
      · subst hj
        rw [hii] at h'
        subst hs
        cases h'
      · rw [(hl j hj).1] at h'
        obtain ⟨v, k1, k2⟩ := r.val j d' h'
        exact ⟨v, by rw [(hl j hj).2]; exact k1, Den.mono sm _ _ k2⟩
    own := fun j ds' h' => by
      by_cases hj : j = i
      · subst hj
        rw [hii] at h'
        subst hs
        cases h'
        exact ⟨p, vs, hsi, upd_same, DenL.mono sm _ _ h, nr⟩
      · rw [(hl j hj).1] at h'
        obtain ⟨b, us, k1, k2, k3, k4⟩ := r.own j ds' h'
        exact ⟨b, us, by rw [(hl j hj).2]; exact k1, by rw [upd_ne (ne _ _ k2)]; exact k2, DenL.mono sm _ _ k3, k4⟩
    brw := fun j ds' h' => by
      by_cases hj : j = i
      · subst hj
        rw [hii] at h'
        subst hs
        cases h'
      · rw [(hl j hj).1] at h'
        obtain ⟨b, us, k1, k2, k3, k4⟩ := r.brw j ds' h'
        exact ⟨b, us, by rw [(hl j hj).2]; exact k1, by rw [upd_ne (ne _ _ k2)]; exact k2, DenL.mono sm _ _ k3, k4⟩
    inj := fun j k b hj hk h1 h2 => by
      by_cases qj : j = i
      · by_cases qk : k = i
        · rw [qj, qk]
        · subst qj
          rw [hsi] at h1
          cases h1
          rw [(hl k qk).2] at h2
          obtain ⟨ds', hk⟩ := hk
          rw [(hl k qk).1] at hk
          exact absurd ⟨k, ⟨ds', hk⟩, h2⟩ no
      · by_cases qk : k = i
        · subst qk
          rw [hsi] at h2
          cases h2
          rw [(hl j qj).2] at h1
          obtain ⟨ds', hj⟩ := hj
          rw [(hl j qj).1] at hj
          exact absurd ⟨j, ⟨ds', hj⟩, h1⟩ no
        · obtain ⟨d1, hj⟩ := hj
          obtain ⟨d2, hk⟩ := hk
          rw [(hl j qj).1] at hj
          rw [(hl k qk).1] at hk
          rw [(hl j qj).2] at h1
          rw [(hl k qk).2] at h2
          exact r.inj j k b ⟨d1, hj⟩ ⟨d2, hk⟩ h1 h2 }
/-- slots are forgotten -/
def wipeE (e : En) : List Nat → En
  | [] => e
  | v :: vs => (wipeE e vs).set v .un
theorem wipeE_length (e : En) : ∀ vs : List Nat, (wipeE e vs).length = e.length
  | [] => rfl
  | v :: vs => by unfold wipeE; rw [List.length_set, wipeE_length e vs]
theorem wipeE_get {e : En} {i : Nat} : ∀ {vs : List Nat}, i ∉ vs → (wipeE e vs)[i]? = e[i]?
  | [], _ => rfl
  | v :: vs, h => by
    simp only [List.mem_cons, not_or] at h
    unfold wipeE
    rw [List.getElem?_set_ne (fun x => h.1 x.symm), wipeE_get h.2]
theorem wipeE_un {e : En} {i : Nat} : ∀ {vs : List Nat}, i ∈ vs → ∀ s, (wipeE e vs)[i]? = some s → s = .un
  | [], h, _, _ => by simp at h
  | v :: vs, h, s, hs => by
    unfold wipeE at hs
    by_cases hi : v = i
    · subst hi
      by_cases hv : v < (wipeE e vs).length
      · rw [List.getElem?_set_self hv] at hs; cases hs; rfl
      · rw [List.getElem?_eq_none (by simpa using hv)] at hs; cases hs
    · rw [List.getElem?_set_ne hi] at hs
      have : i ∈ vs := by
        rcases List.mem_cons.mp h with x | x
        · exact absurd x.symm hi
        · exact x
      exact wipeE_un this s hs
theorem wipe_get {σ : L2.St} {i : Nat} : ∀ {vs : List Nat}, i ∉ vs → (wipe σ vs)[i]? = σ[i]?
  | [], _ => rfl
  | v :: vs, h => by
    simp only [List.mem_cons, not_or] at h
    unfold wipe
    rw [List.getElem?_set_ne (fun x => h.1 x.symm), wipe_get h.2]
/-- one state's slots are some of another's -/
structure Sub (σ : L2.St) (e : En) (σ' : L2.St) (e' : En) : Prop where
  len : σ'.length = e'.length
  slot : ∀ (i : Nat) (s : Sl), e'[i]? = some s → s = .un ∨ (e[i]? = some s ∧ σ'[i]? = σ[i]?)
theorem Sub.held {σ σ' : L2.St} {e e' : En} (x : Sub σ e σ' e') {i : Nat} (h : Held e' i) : Held e i ∧ σ'[i]? = σ[i]? := by
  obtain ⟨ds, h | h⟩ := h
  · rcases x.slot i _ h with q | ⟨q, z⟩
    · cases q
    · exact ⟨⟨ds, .inl q⟩, z⟩
  · rcases x.slot i _ h with q | ⟨q, z⟩
    · cases q
    · exact ⟨⟨ds, .inr q⟩, z⟩
theorem Sub.hid {A : Act} {H : Hp} {σ σ' : L2.St} {e e' : En} (x : Sub σ e σ' e') : Same (hid A σ e H) (hid A σ' e' H) := fun b o h => by
  obtain ⟨n, m, h⟩ := hid_not h
  rw [hid_in (fun ⟨i, hi, ha⟩ => n ⟨i, (x.held hi).1, (x.held hi).2 ▸ ha⟩) m]
  exact h
theorem Rep.part {σ' : L2.St} {e' : En} (r : Rep K A H σ e) (x : Sub σ e σ' e') : Rep K A H σ' e' where
  len := x.len
  sub := r.sub
  nbor := r.nbor
  nbld := r.nbld
  keep := r.keep
  val := fun i d h => by
    rcases x.slot i _ h with q | ⟨q, z⟩
    · cases q
    · obtain ⟨v, h1, h2⟩ := r.val i d q
      exact ⟨v, z.trans h1, Den.mono x.hid _ _ h2⟩
  own := fun i ds h => by
    rcases x.slot i _ h with q | ⟨q, z⟩
    · cases q
    · obtain ⟨a, vs, h1, h2, h3, h4⟩ := r.own i ds q
      exact ⟨a, vs, z.trans h1, h2, DenL.mono x.hid _ _ h3, h4⟩
  brw := fun i ds h => by
    rcases x.slot i _ h with q | ⟨q, z⟩
    · cases q
    · obtain ⟨a, vs, h1, h2, h3, h4⟩ := r.brw i ds q
      exact ⟨a, vs, z.trans h1, h2, DenL.mono x.hid _ _ h3, h4⟩
  inj := fun i j a hi hj h1 h2 => r.inj i j a (x.held hi).1 (x.held hj).1 ((x.held hi).2 ▸ h1) ((x.held hj).2 ▸ h2)
/-- slots change, none new is held -/
theorem Rep.vals {σ' : L2.St} {e' : En} (r : Rep K A H σ e) (hl : σ'.length = e'.length) (hs : ∀ (i : Nat) (s : Sl), e'[i]? = some s → s = .un ∨ (e[i]? = some s ∧ σ'[i]? = σ[i]?) ∨ ∃ d v, s = .val d ∧ σ'[i]? = some (some v) ∧ Den K (hid A σ e H) d v) :
    Rep K A H σ' e' ∧ Same (hid A σ e H) (hid A σ' e' H) := by
  have hh : ∀ i, Held e' i → Held e i ∧ σ'[i]? = σ[i]? := fun i h => by
    obtain ⟨ds, h | h⟩ := h
    · rcases hs i _ h with q | ⟨q, z⟩ | ⟨_, _, q, _⟩
      · cases q
      · exact ⟨⟨ds, .inl q⟩, z⟩
      · cases q
    · rcases hs i _ h with q | ⟨q, z⟩ | ⟨_, _, q, _⟩
      · cases q
      · exact ⟨⟨ds, .inr q⟩, z⟩
      · cases q
  have sm : Same (hid A σ e H) (hid A σ' e' H) := fun b o h => by
    obtain ⟨n, m, h⟩ := hid_not h
    rw [hid_in (fun ⟨i, hi, ha⟩ => n ⟨i, (hh i hi).1, (hh i hi).2 ▸ ha⟩) m]
    exact h
  refine ⟨{
    len := hl
    sub := r.sub
    nbor := r.nbor
    nbld := r.nbld
    keep := r.keep
    val := fun i d h => by
      rcases hs i _ h with q | ⟨q, z⟩ | ⟨d', v, q, z, dv⟩
      · cases q
      · obtain ⟨v, h1, h2⟩ := r.val i d q
        exact ⟨v, z.trans h1, Den.mono sm _ _ h2⟩
      · cases q
        exact ⟨v, z, Den.mono sm _ _ dv⟩
    own := fun i ds h => by
      rcases hs i _ h with q | ⟨q, z⟩ | ⟨_, _, q, _⟩
      · cases q
      · obtain ⟨a, vs, h1, h2, h3, h4⟩ := r.own i ds q
        exact ⟨a, vs, z.trans h1, h2, DenL.mono sm _ _ h3, h4⟩
      · cases q
    brw := fun i ds h => by
      rcases hs i _ h with q | ⟨q, z⟩ | ⟨_, _, q, _⟩
      · cases q
      · obtain ⟨a, vs, h1, h2, h3, h4⟩ := r.brw i ds q
        exact ⟨a, vs, z.trans h1, h2, DenL.mono sm _ _ h3, h4⟩
      · cases q
    inj := fun i j a hi hj h1 h2 => r.inj i j a (hh i hi).1 (hh j hj).1 ((hh i hi).2 ▸ h1) ((hh j hj).2 ▸ h2) }, sm⟩
theorem sub_wipe {vs : List Nat} (h : σ.length = e.length) : Sub σ e (wipe σ vs) (wipeE e vs) where
  len := by rw [wipe_length, wipeE_length]; exact h
  slot := fun i s hs => by
    by_cases hi : i ∈ vs
    · exact .inl (wipeE_un hi s hs)
    · rw [wipeE_get hi] at hs
      exact .inr ⟨hs, wipe_get hi⟩
/-- a list that is being built, out of sight -/
noncomputable def Act.build (A : Act) (D : Addr) (vs : List V) : Act := { Hr := upd A.Hr D (.lst []), He := A.He, bor := A.bor, bld := fun b => if b = D then some vs else A.bld b }
theorem bld_self {D : Addr} {vs : List V} : (A.build D vs).bld D = some vs := if_pos rfl
theorem bld_ne {D b : Addr} {vs : List V} (h : b ≠ D) : (A.build D vs).bld b = A.bld b := if_neg h
theorem off_build {D b : Addr} {vs : List V} (h : A.Hr D = none) : off (A.build D vs) b ↔ off A b ∨ (b = D ∧ A.He D = none) := by
  unfold off Act.build
  show upd A.Hr D (.lst []) b ≠ none ∧ A.He b = none ↔ _
  by_cases q : b = D
  · subst q
    rw [upd_same, h]
    simp
  · rw [upd_ne q]
    simp [q]
theorem Rep.heNone {p : Addr} (r : Rep K A H σ e) (h : A.Hr p = none) : A.He p = none := by
  cases q : A.He p with
  | none => rfl
  | some x => rw [r.sub _ _ q] at h; cases h
theorem hid_build {D : Addr} {o : HO} {vs : List V} (r : Rep K A H σ e) (h : H D = none) : hid (A.build D vs) σ e (upd H D o) = hid A σ e H := by
  obtain ⟨_, _, _, nr⟩ := r.new h
  funext b
  unfold hid
  by_cases q : b = D
  · subst q
    rw [if_pos (.inr ((off_build nr).2 (.inr ⟨rfl, r.heNone nr⟩))), h]
    split <;> rfl
  · by_cases z : OwnAt σ e b ∨ off A b
    · rw [if_pos z, if_pos (z.imp id fun y => (off_build nr).2 (.inl y))]
    · rw [if_neg z, if_neg (fun y => z (y.imp id fun w => ((off_build nr).1 w).resolve_right fun c => q c.1)), upd_ne q]
theorem Rep.build {D : Addr} (vs : List V) (r : Rep K A H σ e) (h : H D = none) : Rep K (A.build D vs) (upd H D (.lst vs)) σ e := by
  obtain ⟨no, nf, nb, nr⟩ := r.new h
  have ne : ∀ b x, H b = some x → b ≠ D := fun b x h' q => by rw [q, h] at h'; cases h'
  exact {
    len := r.len
    sub := fun b x hx => by
      have hx' : A.He b = some x := hx
      have q : b ≠ D := fun q => by rw [q, r.heNone nr] at hx'; cases hx'
      show upd A.Hr D (.lst []) b = some x
      rw [upd_ne q]
      exact r.sub b x hx
    nbor := fun a ha => by
      by_cases q : a = D
      · subst q
        refine ⟨r.heNone nr, ?_⟩
        rw [upd_same]
        exact fun z => by cases z
      · rw [bld_ne q] at ha
        refine ⟨(r.nbor a ha).1, ?_⟩
        rw [upd_ne q]
        exact (r.nbor a ha).2
    nbld := fun a us ha => by
      by_cases q : a = D
      · subst q
        rw [bld_self] at ha
        cases ha
        refine ⟨?_, fun z => nb (.inl z), upd_same⟩
        show upd A.Hr a (.lst []) a ≠ none
        rw [upd_same]
        exact fun z => by cases z
      · rw [bld_ne q] at ha
        obtain ⟨h1, h2, h3⟩ := r.nbld a us ha
        refine ⟨?_, h2, by rw [upd_ne q]; exact h3⟩
        show upd A.Hr D (.lst []) a ≠ none
        rw [upd_ne q]
        exact h1
    keep := fun b x hx nbb => by
      have q : b ≠ D := fun q => nbb (.inr (by rw [q, bld_self]; exact fun z => by cases z))
      have hx' : upd A.Hr D (.lst []) b = some x := hx
      rw [upd_ne q] at hx'
      rw [upd_ne q]
      refine r.keep b x hx' fun z => nbb (z.imp id fun y => ?_)
      rw [bld_ne q]
      exact y
    val := fun i d h' => by rw [hid_build r h]; exact r.val i d h'
    own := fun i ds h' => by
      rw [hid_build r h]
      obtain ⟨a, vs, h1, h2, h3, h4⟩ := r.own i ds h'
      refine ⟨a, vs, h1, by rw [upd_ne (ne _ _ h2)]; exact h2, h3, ?_⟩
      show upd A.Hr D (.lst []) a = none
      rw [upd_ne (ne _ _ h2)]
      exact h4
    brw := fun i ds h' => by
      rw [hid_build r h]
      obtain ⟨a, vs, h1, h2, h3, h4⟩ := r.brw i ds h'
      exact ⟨a, vs, h1, by rw [upd_ne (ne _ _ h2)]; exact h2, h3, h4⟩
    inj := r.inj }
theorem Rep.notOwn {D : Addr} {us : List V} (r : Rep K (A.build D us) H σ e) : ¬ OwnAt σ e D ∧ off (A.build D us) D ∧ H D = some (.lst us) := by
  obtain ⟨h1, h2, h3⟩ := r.nbld D us bld_self
  refine ⟨fun o => ?_, ⟨h1, (r.nbor D (.inr (by rw [bld_self]; exact fun z => by cases z))).1⟩, h3⟩
  obtain ⟨_, _, q | q⟩ := r.ownAt o
  · exact h1 q
  · exact h2 q
theorem hid_bput {D : Addr} {us ws : List V} {o : HO} (r : Rep K (A.build D us) H σ e) : hid (A.build D ws) σ e (upd H D o) = hid (A.build D us) σ e H := by
  obtain ⟨h1, h2, _⟩ := r.notOwn
  funext b
  unfold hid
  by_cases z : OwnAt σ e b ∨ off (A.build D us) b
  · rw [if_pos z, if_pos (show OwnAt σ e b ∨ off (A.build D ws) b from z)]
  · rw [if_neg z, if_neg (show ¬ (OwnAt σ e b ∨ off (A.build D ws) b) from z), upd_ne]
    rintro rfl
    exact z (.inr h2)
theorem Rep.bput {D : Addr} {us : List V} (ws : List V) (r : Rep K (A.build D us) H σ e) : Rep K (A.build D ws) (upd H D (.lst ws)) σ e := by
  obtain ⟨n1, n2, n3⟩ := r.notOwn
  exact {
    len := r.len
    sub := r.sub
    nbor := fun a ha => by
      by_cases q : a = D
      · subst q
        exact ⟨(r.nbor a (.inr (by rw [bld_self]; exact fun z => by cases z))).1, by rw [upd_same]; exact fun z => by cases z⟩
      · rw [bld_ne q] at ha
        rw [upd_ne q]
        exact r.nbor a (by rw [bld_ne q]; exact ha)
    nbld := fun a xs ha => by
      by_cases q : a = D
      · subst q
        rw [bld_self] at ha
        cases ha
        obtain ⟨h1, h2, _⟩ := r.nbld a us bld_self
        exact ⟨h1, h2, upd_same⟩
      · rw [bld_ne q] at ha
        rw [upd_ne q]
        exact r.nbld a xs (by rw [bld_ne q]; exact ha)
    keep := fun b x hx nb => by
      have q : b ≠ D := fun q => nb (.inr (by rw [q, bld_self]; exact fun z => by cases z))
      rw [upd_ne q]
      exact r.keep b x hx (by rw [bld_ne q] at nb ⊢; exact nb)
    val := fun i d h' => by rw [hid_bput r]; exact r.val i d h'
    own := fun i ds h' => by
      rw [hid_bput r]
      obtain ⟨a, vs, h1, h2, h3, h4⟩ := r.own i ds h'
      exact ⟨a, vs, h1, by rw [upd_ne (show a ≠ D from fun q => n1 ⟨i, ⟨ds, .inl h'⟩, by rw [← q]; exact h1⟩)]; exact h2, h3, h4⟩
    brw := fun i ds h' => by
      rw [hid_bput r]
      obtain ⟨a, vs, h1, h2, h3, h4⟩ := r.brw i ds h'
      exact ⟨a, vs, h1, by rw [upd_ne (show a ≠ D from fun q => n1 ⟨i, ⟨ds, .inr h'⟩, by rw [← q]; exact h1⟩)]; exact h2, h3, h4⟩
    inj := r.inj }
/-- what was so ahead of the building -/
structure Old (A : Act) (D : Addr) : Prop where
  hr : A.Hr D = none
  sub : Same A.He A.Hr
  bld : ∀ a vs, A.bld a = some vs → A.Hr a ≠ none
  nb : ¬ (A.bor D ∨ A.bld D ≠ none)
theorem Rep.old {D : Addr} (r : Rep K A H σ e) (h : H D = none) : Old A D :=
  ⟨(r.new h).2.2.2, r.sub, fun a vs q => (r.nbld a vs q).1, (r.new h).2.2.1⟩
/-- the built list comes into sight -/
theorem Rep.built {D : Addr} {us : List V} (r : Rep K (A.build D us) H σ e) (o : Old A D) : Rep K A H σ e ∧ Same (hid (A.build D us) σ e H) (hid A σ e H) ∧ hid A σ e H D = some (.lst us) := by
  obtain ⟨n1, n2, n3⟩ := r.notOwn
  have h := o.hr
  have sm : Same (hid (A.build D us) σ e H) (hid A σ e H) := fun b o q => by
    obtain ⟨n, m, q⟩ := hid_not q
    rw [hid_in n fun z => m ((off_build h).2 (.inl z))]
    exact q
  have nD : ∀ a, A.bor a ∨ A.bld a ≠ none → a ≠ D := fun a ha q => o.nb (q ▸ ha)
  refine ⟨{
    len := r.len
    sub := o.sub
    nbor := fun a ha => r.nbor a (by rw [bld_ne (nD a ha)]; exact ha)
    nbld := fun a vs ha => by
      have q : a ≠ D := nD a (.inr (by rw [ha]; exact fun z => by cases z))
      obtain ⟨_, h2, h3⟩ := r.nbld a vs (by rw [bld_ne q]; exact ha)
      exact ⟨o.bld a vs ha, h2, h3⟩
    keep := fun b x hx nbb => by
      have q : b ≠ D := fun q => by rw [q, h] at hx; cases hx
      refine r.keep b x ?_ (by rw [bld_ne q]; exact nbb)
      show upd A.Hr D (.lst []) b = some x
      rw [upd_ne q]
      exact hx
    val := fun i d h' => by
      obtain ⟨v, h1, h2⟩ := r.val i d h'
      exact ⟨v, h1, Den.mono sm _ _ h2⟩
    own := fun i ds h' => by
      obtain ⟨a, vs, h1, h2, h3, h4⟩ := r.own i ds h'
      refine ⟨a, vs, h1, h2, DenL.mono sm _ _ h3, ?_⟩
      have h4' : upd A.Hr D (.lst []) a = none := h4
      by_cases q : a = D
      · rw [q, upd_same] at h4'; cases h4'
      · rw [upd_ne q] at h4'; exact h4'
    brw := fun i ds h' => by
      obtain ⟨a, vs, h1, h2, h3, h4⟩ := r.brw i ds h'
      exact ⟨a, vs, h1, h2, DenL.mono sm _ _ h3, h4⟩
    inj := r.inj }, sm, ?_⟩
  rw [hid_in n1 fun z => z.1 h]
  exact n3
/-- the built list becomes a slot's own -/
theorem Rep.claim {ds : List D} {D : Addr} {us : List V} {i : Nat} {s : Sl} (r : Rep K (A.build D us) H σ e) (o : Old A D) (hd : DenL K (hid (A.build D us) σ e H) ds us) (hs : s = .own ds) (hi : i < e.length) :
    Rep K A H (σ.set i (some (.ref D))) (e.set i s) ∧ Same (hid (A.build D us) σ e H) (hid A (σ.set i (some (.ref D))) (e.set i s) H) := by
  obtain ⟨n1, n2, n3⟩ := r.notOwn
  obtain ⟨q, sm, hD⟩ := r.built o
  have hl : ∀ j, j ≠ i → ((e.set i s)[j]? = e[j]? ∧ (σ.set i (some (V.ref D)))[j]? = σ[j]?) := fun j hj =>
    ⟨List.getElem?_set_ne (fun x => hj x.symm), List.getElem?_set_ne (fun x => hj x.symm)⟩
  have hii : (e.set i s)[i]? = some s := List.getElem?_set_self hi
  have hsi : (σ.set i (some (V.ref D)))[i]? = some (some (.ref D)) := List.getElem?_set_self (by rw [r.len]; exact hi)
  have oa : ∀ b, OwnAt (σ.set i (some (V.ref D))) (e.set i s) b → b = D ∨ OwnAt σ e b := by
    rintro b ⟨j, ⟨ds', h1⟩, h2⟩
    by_cases hj : j = i
    · subst hj
      rw [hsi] at h2
      cases h2
      exact .inl rfl
    · rw [(hl j hj).1] at h1
      rw [(hl j hj).2] at h2
      exact .inr ⟨j, ⟨ds', h1⟩, h2⟩
  have sm2 : Same (hid (A.build D us) σ e H) (hid A (σ.set i (some (V.ref D))) (e.set i s) H) := fun b o' h => by
    obtain ⟨n, m, h⟩ := hid_not h
    have qb : b ≠ D := by rintro rfl; exact m n2
    rw [hid_in (fun x => (oa b x).elim qb n) fun z => m ((off_build o.hr).2 (.inl z))]
    exact h
  refine ⟨{
    len := by rw [List.length_set, List.length_set]; exact r.len
    sub := q.sub
    nbor := q.nbor
    nbld := q.nbld
    keep := q.keep
    val := fun j d' h' => by
      by_cases hj : j = i
      · subst hj
        rw [hii] at h'
        subst hs
        cases h'
      · rw [(hl j hj).1] at h'
        obtain ⟨v, k1, k2⟩ := r.val j d' h'
        exact ⟨v, by rw [(hl j hj).2]; exact k1, Den.mono sm2 _ _ k2⟩
    own := fun j ds' h' => by
      by_cases hj : j = i
      · subst hj
        rw [hii] at h'
        subst hs
        cases h'
        exact ⟨D, us, hsi, n3, DenL.mono sm2 _ _ hd, o.hr⟩
      · rw [(hl j hj).1] at h'
        obtain ⟨b, xs, k1, k2, k3, _⟩ := r.own j ds' h'
        obtain ⟨_, _, z1, _, _, z4⟩ := q.own j ds' h'
        rw [k1] at z1
        cases z1
        exact ⟨b, xs, by rw [(hl j hj).2]; exact k1, k2, DenL.mono sm2 _ _ k3, z4⟩
    brw := fun j ds' h' => by
      by_cases hj : j = i
      · subst hj
        rw [hii] at h'
        subst hs
        cases h'
      · rw [(hl j hj).1] at h'
        obtain ⟨b, xs, k1, k2, k3, _⟩ := r.brw j ds' h'
        obtain ⟨_, _, z1, _, _, z4⟩ := q.brw j ds' h'
        rw [k1] at z1
        cases z1
        exact ⟨b, xs, by rw [(hl j hj).2]; exact k1, k2, DenL.mono sm2 _ _ k3, z4⟩
    inj := fun j k b hj hk h1 h2 => by
      by_cases qj : j = i
      · by_cases qk : k = i
        · rw [qj, qk]
        · subst qj
          rw [hsi] at h1
          cases h1
          rw [(hl k qk).2] at h2
          obtain ⟨ds', hk⟩ := hk
          rw [(hl k qk).1] at hk
          exact absurd ⟨k, ⟨ds', hk⟩, h2⟩ n1
      · by_cases qk : k = i
        · subst qk
          rw [hsi] at h2
          cases h2
          rw [(hl j qj).2] at h1
          obtain ⟨ds', hj⟩ := hj
          rw [(hl j qj).1] at hj
          exact absurd ⟨j, ⟨ds', hj⟩, h1⟩ n1
        · obtain ⟨d1, hj⟩ := hj
          obtain ⟨d2, hk⟩ := hk
          rw [(hl j qj).1] at hj
          rw [(hl k qk).1] at hk
          rw [(hl j qj).2] at h1
          rw [(hl k qk).2] at h2
          exact r.inj j k b ⟨d1, hj⟩ ⟨d2, hk⟩ h1 h2 }, sm2⟩
end
end Mi
namespace Mi
open PySem PySem.Spec PyProof.Rows L2

abbrev FE := En → R (D × En)
abbrev FT := En → R (Bool × En)
abbrev FA := En → R (List D × En)
inductive Fl where
  | nx (e : En) | rt (d : D) (e : En) | rn (ds : List D) (e : En) | bk (e : En) | ct (e : En)
abbrev FS := En → R Fl
def R.bind {α β : Type} : R α → (α → R β) → R β
  | .ok a, f => f a
  | .exc c e, _ => .exc c e
  | .err, _ => .err
def lim : Nat := 16777216
theorem lim_eq : lim = sizeLine := by rw [sizeLine_eq]; rfl

/-! ### readings -/
def WX1 (mg : Str → Option Value) (W : WX) (c : Str) (σ : L2.St) (H : Hp) : Prop := ∃ u, mg c = some u ∧ W u none σ H
def Post {α β : Type} (K : PySem.W.Frag) (mg : Str → Option Value) (W : WX) (den : Hp → α → β → Prop) (A : Act) (σ : L2.St) (e : En) (H : Hp) (Q : β → Hp → Prop) : R (α × En) → Prop
  | .ok p => ∀ b H', Rep K A H' σ p.2 → Same (hid A σ e H) (hid A σ p.2 H') → den (hid A σ p.2 H') p.1 b → Q b H'
  | .exc c e' => ∀ H', Rep K A H' σ e' → Same (hid A σ e H) (hid A σ e' H') → WX1 mg W c σ H'
  | .err => False
def rd {α β : Type} (K : PySem.W.Frag) (mg : Str → Option Value) (W : WX) (den : Hp → α → β → Prop) (f : En → R (α × En)) : L2.St → Hp → (β → Hp → Prop) → Prop :=
  fun σ H Q => ∃ A e, Rep K A H σ e ∧ Post K mg W den A σ e H Q (f e)
def PostS (K : PySem.W.Frag) (mg : Str → Option Value) (W : WX) (D : Ends) (A : Act) (σ : L2.St) (e : En) (H : Hp) : R Fl → Prop
  | .ok (.nx e') => ∀ σ' H', Rep K A H' σ' e' → Same (hid A σ e H) (hid A σ' e' H') → D.nx σ' H'
  | .ok (.bk e') => ∀ σ' H', Rep K A H' σ' e' → Same (hid A σ e H) (hid A σ' e' H') → D.bk σ' H'
  | .ok (.ct e') => ∀ σ' H', Rep K A H' σ' e' → Same (hid A σ e H) (hid A σ' e' H') → D.ct σ' H'
  | .ok (.rt d e') => ∀ v σ' H', Rep K A H' σ' e' → Same (hid A σ e H) (hid A σ' e' H') → Den K (hid A σ' e' H') d v → D.rt v H'
  | .ok (.rn ds e') => ∀ q vs σ' H', Old A q → Rep K (A.build q vs) H' σ' e' → Same (hid A σ e H) (hid (A.build q vs) σ' e' H') → DenL K (hid (A.build q vs) σ' e' H') ds vs → D.rt (.ref q) H'
  | .exc c e' => ∀ σ' H', Rep K A H' σ' e' → Same (hid A σ e H) (hid A σ' e' H') → WX1 mg W c σ' H'
  | .err => False
def rdS (K : PySem.W.Frag) (mg : Str → Option Value) (W : WX) (g : FS) : TS := fun D σ H => ∃ A e, Rep K A H σ e ∧ PostS K mg W D A σ e H (g e)

abbrev rE (K : PySem.W.Frag) (mg : Str → Option Value) (W : WX) (f : FE) : TE := rd K mg W (Den K) f
abbrev rT (K : PySem.W.Frag) (mg : Str → Option Value) (W : WX) (f : FT) : TT := rd K mg W (fun _ (a : Bool) (b : Bool) => b = a) f
abbrev rA (K : PySem.W.Frag) (mg : Str → Option Value) (W : WX) (f : FA) : TA := rd K mg W (DenL K) f

theorem _root_.L2.PE.imp {X : Cx} {e : Expr} {t t' : TE} (h : PE X e t) (i : ∀ σ H Q, t' σ H Q → t σ H Q) : PE X e t' := ⟨fun pins s σ H Q I q => h.run pins s σ H Q I (i _ _ _ q)⟩
theorem _root_.L2.PT.imp {X : Cx} {e : Expr} {t t' : TT} (h : PT X e t) (i : ∀ σ H Q, t' σ H Q → t σ H Q) : PT X e t' := ⟨fun pins s σ H Q I q => h.run pins s σ H Q I (i _ _ _ q)⟩
theorem _root_.L2.PW.imp {X : Cx} {e : Expr} {t t' : TT} (h : PW X e t) (i : ∀ σ H Q, t' σ H Q → t σ H Q) : PW X e t' := ⟨fun wh pins s σ H Q I q => h.run wh pins s σ H Q I (i _ _ _ q)⟩
theorem _root_.L2.PA.imp {X : Cx} {e : List Expr} {t t' : TA} (h : PA X e t) (i : ∀ σ H Q, t' σ H Q → t σ H Q) : PA X e t' := ⟨fun pos pins s σ H Q I q => h.run pos pins s σ H Q I (i _ _ _ q)⟩
theorem _root_.L2.PS.imp {X : Cx} {e : Stmt} {t t' : TS} (h : PS X e t) (i : ∀ D σ H, t' D σ H → t D σ H) : PS X e t' := ⟨fun pins s σ H D I q => h.run pins s σ H D I (i _ _ _ q)⟩
theorem _root_.L2.PSs.imp {X : Cx} {e : List Stmt} {t t' : TS} (h : PSs X e t) (i : ∀ D σ H, t' D σ H → t D σ H) : PSs X e t' := ⟨fun pins s σ H D I q => h.run pins s σ H D I (i _ _ _ q)⟩
theorem _root_.L2.PI.imp {X : Cx} {tg it : Expr} {t t' : TI} (h : PI X tg it t) (i : ∀ σ H Q, t' σ H Q → t σ H Q) : PI X tg it t' := ⟨fun pins s σ H Q I q => h.run pins s σ H Q I (i _ _ _ q)⟩

section
variable {α β γ δ : Type} {K : PySem.W.Frag} {mg : Str → Option Value} {W : WX} {A : Act} {σ : L2.St} {e e1 : En} {H H1 : Hp}
theorem Post.shift {den : Hp → α → β → Prop} {Q : β → Hp → Prop} {r : R (α × En)} (s : Same (hid A σ e H) (hid A σ e1 H1)) (h : Post K mg W den A σ e H Q r) : Post K mg W den A σ e1 H1 Q r := by
  cases r with
  | ok p => exact fun b H' r' s' d => h b H' r' (s.trans s') d
  | exc c e' => exact fun H' r' s' => h H' r' (s.trans s')
  | err => exact h
theorem PostS.shift {σ1 : L2.St} {D : Ends} {r : R Fl} (s : Same (hid A σ e H) (hid A σ1 e1 H1)) (h : PostS K mg W D A σ e H r) : PostS K mg W D A σ1 e1 H1 r := by
  cases r with
  | ok p =>
    cases p with
    | nx e' => exact fun σ' H' r' s' => h σ' H' r' (s.trans s')
    | bk e' => exact fun σ' H' r' s' => h σ' H' r' (s.trans s')
    | ct e' => exact fun σ' H' r' s' => h σ' H' r' (s.trans s')
    | rt d e' => exact fun v σ' H' r' s' => h v σ' H' r' (s.trans s')
    | rn ds e' => exact fun q vs σ' H' o r' s' => h q vs σ' H' o r' (s.trans s')
  | exc c e' => exact fun σ' H' r' s' => h σ' H' r' (s.trans s')
  | err => exact h
/-- one part, then the rest -/
theorem rd_seq {den : Hp → α → β → Prop} {den' : Hp → γ → δ → Prop} {f : En → R (α × En)} {k : α × En → R (γ × En)} {Q : δ → Hp → Prop} {G : β → Hp → Prop} (r : Rep K A H σ e) (p : Post K mg W den' A σ e H Q ((f e).bind k))
    (hG : ∀ a e1 b H1, f e = .ok (a, e1) → Rep K A H1 σ e1 → Same (hid A σ e H) (hid A σ e1 H1) → den (hid A σ e1 H1) a b → Post K mg W den' A σ e1 H1 Q (k (a, e1)) → G b H1) : rd K mg W den f σ H G := by
  refine ⟨A, e, r, ?_⟩
  cases h : f e with
  | ok q =>
    obtain ⟨a, e1⟩ := q
    rw [h] at p
    exact fun b H1 r1 s1 d1 => hG a e1 b H1 h r1 s1 d1 (Post.shift s1 p)
  | exc c e' => rw [h] at p; exact p
  | err => rw [h] at p; exact p
theorem rd_seqS {den : Hp → α → β → Prop} {f : En → R (α × En)} {k : α × En → R Fl} {D : Ends} {G : β → Hp → Prop} (r : Rep K A H σ e) (p : PostS K mg W D A σ e H ((f e).bind k))
    (hG : ∀ a e1 b H1, f e = .ok (a, e1) → Rep K A H1 σ e1 → Same (hid A σ e H) (hid A σ e1 H1) → den (hid A σ e1 H1) a b → PostS K mg W D A σ e1 H1 (k (a, e1)) → G b H1) : rd K mg W den f σ H G := by
  refine ⟨A, e, r, ?_⟩
  cases h : f e with
  | ok q =>
    obtain ⟨a, e1⟩ := q
    rw [h] at p
    exact fun b H1 r1 s1 d1 => hG a e1 b H1 h r1 s1 d1 (PostS.shift s1 p)
  | exc c e' =>
    rw [h] at p
    exact fun H' r' s' => p σ H' r' s'
  | err => rw [h] at p; exact p
/-- a value that may lean on new objects -/
def Fresh (K : PySem.W.Frag) (Hh H H' : Hp) (d : D) (v : V) : Prop := ∀ Hv : Hp, Same Hh Hv → (∀ a o, H' a = some o → H a = none → Hv a = some o) → Den K Hv d v
theorem Fresh.flat {Hh H H' : Hp} {d : D} {v : V} (h : Den K Hh d v) : Fresh K Hh H H' d v := fun Hv s _ => Den.mono s _ _ h
theorem Fresh.lst {Hh H : Hp} {ds : List D} {vs : List V} {p : Addr} (hp : H p = none) (h : DenL K Hh ds vs) : Fresh K Hh H (upd H p (.lst vs)) (.lst ds) (.ref p) := fun Hv s n => by
  simp only [Den]
  exact ⟨p, vs, rfl, n p _ upd_same hp, DenL.mono s _ _ h⟩
theorem Fresh.tup {Hh H : Hp} {ds : List D} {vs : List V} {p : Addr} (hp : H p = none) (h : DenL K Hh ds vs) : Fresh K Hh H (upd H p (.tup vs)) (.tup ds) (.ref p) := fun Hv s n => by
  simp only [Den]
  exact ⟨p, vs, rfl, .inl (.inl (n p _ upd_same hp)), DenL.mono s _ _ h⟩
theorem same_upd {H : Hp} {p : Addr} {o : HO} (h : H p = none) : Same H (upd H p o) := fun b x e => by
  rw [upd_ne (ne_of_none e h)]
  exact e
theorem fin {H' : Hp} {Q : VK} {d : D} {v : V} (r : Rep K A H σ e) (p : Post K mg W (Den K) A σ e H Q (.ok (d, e))) (s : Same H H') (h : Fresh K (hid A σ e H) H H' d v) : Q v H' :=
  p v H' (r.grow s) (hid_same s) (h _ (hid_same s) fun _ _ a b => r.seen a b)
end

/-! ### expressions -/
section
variable {X : Cx} {W : WX} {pos : Pos} {a b c : Expr} {fa fb fc : FE}
def eC (d : D) : FE := fun e => .ok (d, e)
theorem v_const {ex : Expr} {v : V} {d : D} (h : PE X ex (tC v)) (hd : ∀ H, Den X.K H d v) : PE X ex (rE X.K X.mg W (eC d)) :=
  h.imp fun σ H Q ⟨A, e, r, p⟩ => p v H r (Same.refl _) (hd _)
theorem v_int {i : Int} {j : Nat} : PE X (.Constant (.int i) j pos) (rE X.K X.mg W (eC (.int i))) := v_const pe_int fun _ => by simp only [Den]
theorem v_bl {i : Bool} {j : Nat} : PE X (.Constant (.bool i) j pos) (rE X.K X.mg W (eC (.bl i))) := v_const pe_bl fun _ => by simp only [Den]
theorem v_non {j : Nat} : PE X (.Constant .none j pos) (rE X.K X.mg W (eC .non)) := v_const pe_non fun _ => by simp only [Den]
theorem v_str {i : Str} {j : Nat} : PE X (.Constant (.str i) j pos) (rE X.K X.mg W (eC (.str i))) := v_const pe_str fun _ => by simp only [Den]
/-- a local name; a held list is a value from then on -/
def eV (i : Nat) : FE := fun e => match e[i]? with
  | some (.val d) => .ok (d, e)
  | some (.own ds) => .ok (.lst ds, e.set i (.val (.lst ds)))
  | _ => .err
theorem v_var (i : Nat) {x : Str} (hN : X.N[i]? = some x := by rfl) (hv : Vis X.env.scope x := by first | exact Or.inl rfl | exact Or.inr (Or.inl rfl) | exact Or.inr (Or.inr rfl)) (hd : (x == ("__debug__" : Str)) = false := by decide)
    (hcd : (x == ("__classdict__" : Str)) = false := by decide) : PE X (.Name x pos) (rE X.K X.mg W (eV i)) :=
  (pe_var hN hv hd hcd).imp fun σ H Q ⟨A, e, r, p⟩ => by
    unfold eV at p
    cases h : e[i]? with
    | none => rw [h] at p; exact p.elim
    | some s =>
      rw [h] at p
      cases s with
      | un => exact p.elim
      | brw ds => exact p.elim
      | val d =>
        obtain ⟨v, h1, h2⟩ := r.val i d h
        exact ⟨v, h1, p v H r (Same.refl _) h2⟩
      | own ds =>
        obtain ⟨a, h1, h2, h3, h4⟩ := r.freeze h
        exact ⟨_, h1, p _ H h2 h3 h4⟩
/-- an operation by values -/
def eB (g : D → D → Option D) (fa fb : FE) : FE := fun e => (fa e).bind fun p => (fb p.2).bind fun q => match g p.1 q.1 with
  | some d => .ok (d, q.2)
  | none => .err
def RB (K : PySem.W.Frag) (r : R2) (g : D → D → Option D) : Prop := ∀ (Hh H : Hp) (a b : D) (x y : V) (d : D) (Q : VK), Same Hh H → Den K Hh a x → Den K Hh b y → g a b = some d → (∀ v H', Same H H' → Fresh K Hh H H' d v → Q v H') → r x y H Q
theorem rB_of {r : R2} {g : D → D → Option D} (hg : RB X.K r g) : ∀ σ H Q, rE X.K X.mg W (eB g fa fb) σ H Q → tOp r (rE X.K X.mg W fa) (rE X.K X.mg W fb) σ H Q := fun σ H Q ⟨A, e, rp, p⟩ => by
  refine rd_seq rp p fun da e1 x H1 _ r1 s1 d1 p1 => rd_seq r1 p1 fun db e2 y H2 _ r2 s2 d2 p2 => ?_
  cases h : g da db with
  | none =>
    simp only [h] at p2
    exact p2.elim
  | some d =>
    simp only [h] at p2
    exact hg _ H2 da db x y d Q hid_sub (Den.mono s2 _ _ d1) d2 h fun v H' s f => fin r2 p2 s f
theorem v_op {op : Operator} {r : R2} {g : D → D → Option D} (hg : RB X.K r g) (ho : OpR X (binaryOp op) r) (ha : PE X a (rE X.K X.mg W fa)) (hb : PE X b (rE X.K X.mg W fb)) : PE X (.BinOp a op b pos) (rE X.K X.mg W (eB g fa fb)) :=
  (pe_op ho ha hb).imp (rB_of hg)
theorem v_cmp {op : CmpOp} {r : R2} {g : D → D → Option D} (hg : RB X.K r g) (ho : OpR X (compareOp op) r) (hm : behindInMarks op b = false) (ha : PE X a (rE X.K X.mg W fa)) (hb : PE X b (rE X.K X.mg W fb)) : PE X (.Compare a [op] [b] pos) (rE X.K X.mg W (eB g fa fb)) :=
  (pe_cmpR ho ha hb hm).imp (rB_of hg)
theorem v_ix {r : R2} {g : D → D → Option D} (hg : RB X.K r g) (ho : IxR X r) (ha : PE X a (rE X.K X.mg W fa)) (hb : PE X b (rE X.K X.mg W fb)) (hs : PlainIx b := by exact fun _ _ => rfl) : PE X (.Subscript a b pos) (rE X.K X.mg W (eB g fa fb)) :=
  (pe_ix ho ha hb hs).imp (rB_of hg)
/-- a one-place operation -/
def eU (g : D → Option D) (fa : FE) : FE := fun e => (fa e).bind fun p => match g p.1 with
  | some d => .ok (d, p.2)
  | none => .err
def RU (K : PySem.W.Frag) (r : V → Hp → VK → Prop) (g : D → Option D) : Prop := ∀ (Hh H : Hp) (a : D) (x : V) (d : D) (Q : VK), Same Hh H → Den K Hh a x → g a = some d → (∀ v H', Same H H' → Fresh K Hh H H' d v → Q v H') → r x H Q
theorem v_un {op : UnaryOp} {r : V → Hp → VK → Prop} {g : D → Option D} (hg : RU X.K r g) (ho : UnR X (unaryOp op) r) (ha : PE X a (rE X.K X.mg W fa)) : PE X (.UnaryOp op a pos) (rE X.K X.mg W (eU g fa)) :=
  (pe_un ho ha).imp fun σ H Q ⟨A, e, rp, p⟩ => by
    refine rd_seq rp p fun da e1 x H1 _ r1 s1 d1 p1 => ?_
    cases h : g da with
    | none =>
      simp only [h] at p1
      exact p1.elim
    | some d =>
      simp only [h] at p1
      exact hg _ H1 da x d Q hid_sub d1 h fun v H' s f => fin r1 p1 s f
/-- argument lists -/
def aN : FA := fun e => .ok ([], e)
def aC (f : FE) (g : FA) : FA := fun e => (f e).bind fun p => (g p.2).bind fun q => .ok (p.1 :: q.1, q.2)
theorem va_nil : PA X [] (rA X.K X.mg W aN) := pa_nil.imp fun σ H Q ⟨A, e, r, p⟩ => p [] H r (Same.refl _) DenL.nil
theorem va_cons {es : List Expr} {f : FE} {g : FA} (ha : PE X a (rE X.K X.mg W f)) (hr : PA X es (rA X.K X.mg W g)) (hs : starEach (a :: es) X.env = (false, eval a X.env) :: starEach es X.env := by rfl) : PA X (a :: es) (rA X.K X.mg W (aC f g)) :=
  (pa_cons ha hr hs).imp fun σ H Q ⟨A, e, r, p⟩ => by
    refine rd_seq r p fun da e1 x H1 _ r1 s1 d1 p1 => rd_seq r1 p1 fun ds e2 xs H2 _ r2 s2 d2 p2 => ?_
    exact p2 _ _ r2 (Same.refl _) (DenL.cons (Den.mono s2 _ _ d1) d2)
/-- displays -/
def eTup (f : FA) : FE := fun e => (f e).bind fun p => if p.1.length ≤ lim then .ok (.tup p.1, p.2) else .err
def eLst (f : FA) : FE := fun e => (f e).bind fun p => if p.1.length ≤ lim then .ok (.lst p.1, p.2) else .err
theorem v_tup {es : List Expr} {f : FA} {x1 : Nat} (h : PA X es (rA X.K X.mg W f)) : PE X (.Tuple es x1 pos) (rE X.K X.mg W (eTup f)) :=
  (pe_tup h).imp fun σ H Q ⟨A, e, r, p⟩ => by
    refine rd_seq r p fun ds e1 xs H1 _ r1 s1 d1 p1 => ?_
    by_cases h : ds.length ≤ lim
    · simp only [h, if_true] at p1
      exact ⟨by rw [← d1.length, ← lim_eq]; exact h, fun q nq => fin r1 p1 (same_upd nq) (Fresh.tup nq d1)⟩
    · simp only [h, if_false] at p1
      exact p1.elim
theorem v_lst {es : List Expr} {f : FA} (h : PA X es (rA X.K X.mg W f)) : PE X (.List es pos) (rE X.K X.mg W (eLst f)) :=
  (pe_lst h).imp fun σ H Q ⟨A, e, r, p⟩ => by
    refine rd_seq r p fun ds e1 xs H1 _ r1 s1 d1 p1 => ?_
    by_cases h : ds.length ≤ lim
    · simp only [h, if_true] at p1
      exact ⟨by rw [← d1.length, ← lim_eq]; exact h, fun q nq => fin r1 p1 (same_upd nq) (Fresh.lst nq d1)⟩
    · simp only [h, if_false] at p1
      exact p1.elim
/-- a built-in -/
def eF (g : List D → Option D) (f : FA) : FE := fun e => (f e).bind fun p => match g p.1 with
  | some d => .ok (d, p.2)
  | none => .err
def RC (K : PySem.W.Frag) (r : List V → Hp → VK → Prop) (g : List D → Option D) : Prop := ∀ (Hh H : Hp) (ds : List D) (vs : List V) (d : D) (Q : VK), Same Hh H → DenL K Hh ds vs → g ds = some d → (∀ v H', Same H H' → Fresh K Hh H H' d v → Q v H') → r vs H Q
theorem rC_of {r : List V → Hp → VK → Prop} {g : List D → Option D} {f : FA} (hg : RC X.K r g) : ∀ σ H Q, rE X.K X.mg W (eF g f) σ H Q → tCB r (rA X.K X.mg W f) σ H Q := fun σ H Q ⟨A, e, rp, p⟩ => by
  refine rd_seq rp p fun ds e1 xs H1 _ r1 s1 d1 p1 => ?_
  cases h : g ds with
  | none =>
    simp only [h] at p1
    exact p1.elim
  | some d =>
    simp only [h] at p1
    exact hg _ H1 ds xs d Q hid_sub d1 h fun v H' s f => fin r1 p1 s f
/-- and, or, not as values; a if c else b -/
def eAnd (fa fb : FE) : FE := fun e => (fa e).bind fun p => match p.1 with
  | .bl true => fb p.2
  | .bl false => .ok (.bl false, p.2)
  | _ => .err
def eOr (fa fb : FE) : FE := fun e => (fa e).bind fun p => match p.1 with
  | .bl false => fb p.2
  | .bl true => .ok (.bl true, p.2)
  | _ => .err
def eNot (fa : FE) : FE := eU (fun d => match d with
  | .bl b => some (.bl (!b))
  | _ => none) fa
def eIf (c : FT) (fa fb : FE) : FE := fun e => (c e).bind fun p => if p.1 = true then fa p.2 else fb p.2
theorem den_bl {K : PySem.W.Frag} {H : Hp} {b : Bool} {v : V} (h : Den K H (.bl b) v) : v = .bl b := by simpa only [Den] using h
theorem den_int {K : PySem.W.Frag} {H : Hp} {b : Int} {v : V} (h : Den K H (.int b) v) : v = .int b := by simpa only [Den] using h
theorem den_str {K : PySem.W.Frag} {H : Hp} {b : Str} {v : V} (h : Den K H (.str b) v) : v = .str b := by simpa only [Den] using h
theorem den_non {K : PySem.W.Frag} {H : Hp} {v : V} (h : Den K H .non v) : v = .non := by simpa only [Den] using h
theorem v_one {op : BoolOp} (ha : PE X a (rE X.K X.mg W fa)) : PE X (.BoolOp op [a] pos) (rE X.K X.mg W fa) := pe_one ha
theorem v_and {rest : List Expr} (ha : PE X a (rE X.K X.mg W fa)) (hb : PE X (.BoolOp .And (b :: rest) pos) (rE X.K X.mg W fb)) : PE X (.BoolOp .And (a :: b :: rest) pos) (rE X.K X.mg W (eAnd fa fb)) :=
  (pe_and ha hb).imp fun σ H Q ⟨A, e, r, p⟩ => by
    refine rd_seq r p fun da e1 x H1 _ r1 s1 d1 p1 => ?_
    cases da with
    | bl k =>
      refine ⟨k, den_bl d1, ?_⟩
      cases k with
      | true => exact iteT ⟨A, e1, r1, p1⟩
      | false => exact iteF (p1 _ _ r1 (Same.refl _) (by simp only [Den]))
    | _ => exact p1.elim
theorem v_or {rest : List Expr} (ha : PE X a (rE X.K X.mg W fa)) (hb : PE X (.BoolOp .Or (b :: rest) pos) (rE X.K X.mg W fb)) : PE X (.BoolOp .Or (a :: b :: rest) pos) (rE X.K X.mg W (eOr fa fb)) :=
  (pe_or ha hb).imp fun σ H Q ⟨A, e, r, p⟩ => by
    refine rd_seq r p fun da e1 x H1 _ r1 s1 d1 p1 => ?_
    cases da with
    | bl k =>
      refine ⟨k, den_bl d1, ?_⟩
      cases k with
      | false => exact iteF ⟨A, e1, r1, p1⟩
      | true => exact iteT (p1 _ _ r1 (Same.refl _) (by simp only [Den]))
    | _ => exact p1.elim
theorem v_not (ha : PE X a (rE X.K X.mg W fa)) : PE X (.UnaryOp .Not a pos) (rE X.K X.mg W (eNot fa)) :=
  (pe_not ha).imp fun σ H Q ⟨A, e, r, p⟩ => by
    refine rd_seq r p fun da e1 x H1 _ r1 s1 d1 p1 => ?_
    cases da with
    | bl k => exact ⟨k, den_bl d1, p1 _ _ r1 (Same.refl _) (by simp only [Den])⟩
    | _ => exact p1.elim
theorem v_if {fc : FT} (hc : PT X c (rT X.K X.mg W fc)) (ha : PE X a (rE X.K X.mg W fa)) (hb : PE X b (rE X.K X.mg W fb)) : PE X (.IfExp c a b pos) (rE X.K X.mg W (eIf fc fa fb)) :=
  (pe_ifExp hc ha hb).imp fun σ H Q ⟨A, e, r, p⟩ => by
    refine rd_seq r p fun k e1 x H1 _ r1 s1 d1 p1 => ?_
    subst d1
    cases x with
    | true => exact iteT ⟨A, e1, r1, p1⟩
    | false => exact iteF ⟨A, e1, r1, p1⟩
/-! ### tests -/
def truth : D → Option Bool
  | .non => some false
  | .bl b => some b
  | .int i => some (i != 0)
  | .str x => if x.length ≤ lim then some ((x.length : Int) != 0) else none
  | .tup ds => some (!ds.isEmpty)
  | .lst ds => some (!ds.isEmpty)
  | .rls ds => some (!ds.isEmpty)
  | .dct _ ds => some (!ds.isEmpty)
  | .ty _ => none
theorem denL_empty {K : PySem.W.Frag} {H : Hp} {ds : List D} {vs : List V} (h : DenL K H ds vs) : (!ds.isEmpty) = !vs.isEmpty := by
  have := h.length
  cases ds <;> cases vs <;> first | rfl | simp at this
theorem truV {K : PySem.W.Frag} {H Hh : Hp} {d : D} {v : V} {k : Bool} (s : Same Hh H) (h : Den K Hh d v) (t : truth d = some k) : TruV K v H k := by
  have h' := Den.mono s _ _ h
  cases d with
  | non => rw [den_non h']; simp only [truth, Option.some.injEq] at t; subst t; rfl
  | bl b => rw [den_bl h']; simp only [truth, Option.some.injEq] at t; subst t; rfl
  | int i => rw [den_int h']; simp only [truth, Option.some.injEq] at t; subst t; rfl
  | str x =>
    rw [den_str h']
    simp only [truth] at t
    split at t
    · simp only [Option.some.injEq] at t
      rename_i q
      exact ⟨by rw [← lim_eq]; exact q, t.symm⟩
    · cases t
  | tup ds =>
    simp only [Den] at h'
    obtain ⟨a, vs, rfl, h1, h2⟩ := h'
    simp only [truth, Option.some.injEq] at t
    subst t
    exact .inr (.inl ⟨vs, h1, denL_empty h2⟩)
  | lst ds =>
    simp only [Den] at h'
    obtain ⟨a, vs, rfl, h1, h2⟩ := h'
    simp only [truth, Option.some.injEq] at t
    subst t
    exact .inl ⟨vs, .inl (.inl h1), denL_empty h2⟩
  | rls ds =>
    simp only [Den] at h'
    obtain ⟨a, vs, rfl, h1, h2⟩ := h'
    simp only [truth, Option.some.injEq] at t
    subst t
    exact .inl ⟨vs, h1, denL_empty h2⟩
  | dct ks ds =>
    simp only [Den] at h'
    obtain ⟨a, vs, rfl, h1, h2, h3⟩ := h'
    simp only [truth, Option.some.injEq] at t
    subst t
    refine .inr (.inr ⟨_, h1, ?_⟩)
    rw [denL_empty h3]
    cases ks <;> cases vs <;> first | rfl | simp at h2
  | ty n => cases t
def tE (f : FE) : FT := fun e => (f e).bind fun p => match truth p.1 with
  | some k => .ok (k, p.2)
  | none => .err
theorem vt_val (ha : PE X a (rE X.K X.mg W fa)) (he : ∀ whole, isTrue a X.env whole = (do let v ← whole; standAt a.pos; holding [v] (truthy v)) := by intro _; rfl) : PT X a (rT X.K X.mg W (tE fa)) :=
  (pt_truth ha he).imp fun σ H Q ⟨A, e, r, p⟩ => by
    refine rd_seq r p fun da e1 x H1 _ r1 s1 d1 p1 => ?_
    cases h : truth da with
    | none => simp only [h] at p1; exact p1.elim
    | some k =>
      simp only [h] at p1
      exact ⟨k, truV hid_sub d1 h, p1 _ _ r1 (Same.refl _) rfl⟩
/-- a comparison as a test -/
def bl? : D → Option Bool
  | .bl b => some b
  | _ => none
def tC1 (f : FE) : FT := fun e => (f e).bind fun p => match bl? p.1 with
  | some k => .ok (k, p.2)
  | none => .err
theorem bl_some {d : D} {k : Bool} (h : bl? d = some k) : d = .bl k := by
  cases d <;> simp only [bl?, Option.some.injEq] at h <;> first | (subst h; rfl) | cases h
theorem vt_cmp {op : CmpOp} {r : R2} {g : D → D → Option D} (hg : RB X.K r g) (ho : OpR X (compareOp op) r) (hm : behindInMarks op b = false) (ha : PE X a (rE X.K X.mg W fa)) (hb : PE X b (rE X.K X.mg W fb)) : PT X (.Compare a [op] [b] pos) (rT X.K X.mg W (tC1 (eB g fa fb))) :=
  (pt_cmpR ho ha hb hm).imp fun σ H Q ⟨A, e, r, p⟩ => by
    refine rB_of hg σ H _ ?_
    refine rd_seq r p fun da e1 x H1 _ r1 s1 d1 p1 => ?_
    cases h : bl? da with
    | none => simp only [h] at p1; exact p1.elim
    | some k =>
      simp only [h] at p1
      rw [bl_some h] at d1
      exact ⟨k, den_bl d1, p1 _ _ r1 (Same.refl _) rfl⟩
def tAnd1 (f g : FT) : FT := fun e => (f e).bind fun p => if p.1 = true then g p.2 else .ok (false, p.2)
def tOr1 (f g : FT) : FT := fun e => (f e).bind fun p => if p.1 = true then .ok (true, p.2) else g p.2
def tNot1 (f : FT) : FT := fun e => (f e).bind fun p => .ok (!p.1, p.2)
section
variable {ga gb : FT} {rest : List Expr}
theorem vw_and1 (ha : PT X a (rT X.K X.mg W ga)) : PW X (.BoolOp .And [a] pos) (rT X.K X.mg W ga) := pw_and1 ha
theorem vw_or1 (ha : PT X a (rT X.K X.mg W ga)) : PW X (.BoolOp .Or [a] pos) (rT X.K X.mg W ga) := pw_or1 ha
theorem vw_and (ha : PT X a (rT X.K X.mg W ga)) (hb : PW X (.BoolOp .And (b :: rest) pos) (rT X.K X.mg W gb)) : PW X (.BoolOp .And (a :: b :: rest) pos) (rT X.K X.mg W (tAnd1 ga gb)) :=
  (pw_and ha hb).imp fun σ H Q ⟨A, e, r, p⟩ => by
    refine rd_seq r p fun k e1 x H1 _ r1 s1 d1 p1 => ?_
    subst d1
    cases x with
    | true => exact iteT ⟨A, e1, r1, p1⟩
    | false => exact iteF (p1 _ _ r1 (Same.refl _) rfl)
theorem vw_or (ha : PT X a (rT X.K X.mg W ga)) (hb : PW X (.BoolOp .Or (b :: rest) pos) (rT X.K X.mg W gb)) : PW X (.BoolOp .Or (a :: b :: rest) pos) (rT X.K X.mg W (tOr1 ga gb)) :=
  (pw_or ha hb).imp fun σ H Q ⟨A, e, r, p⟩ => by
    refine rd_seq r p fun k e1 x H1 _ r1 s1 d1 p1 => ?_
    subst d1
    cases x with
    | true => exact iteT (p1 _ _ r1 (Same.refl _) rfl)
    | false => exact iteF ⟨A, e1, r1, p1⟩
theorem vt_not (ha : PT X a (rT X.K X.mg W ga)) : PT X (.UnaryOp .Not a pos) (rT X.K X.mg W (tNot1 ga)) :=
  (pt_not ha).imp fun σ H Q ⟨A, e, r, p⟩ => by
    refine rd_seq r p fun k e1 x H1 _ r1 s1 d1 p1 => ?_
    subst d1
    exact p1 _ _ r1 (Same.refl _) rfl
end
/-- a chain of two comparisons -/
def eCh (g g' : D → D → Option D) (fa fb fc : FE) : FE := fun e => (fa e).bind fun p => (fb p.2).bind fun q => match (g p.1 q.1).bind bl? with
  | some true => (fc q.2).bind fun s => match g' q.1 s.1 with
    | some d => .ok (d, s.2)
    | none => .err
  | some false => .ok (.bl false, q.2)
  | none => .err
theorem rCh_of {r r' : R2} {g g' : D → D → Option D} (hg : RB X.K r g) (hg' : RB X.K r' g') : ∀ σ H Q, rE X.K X.mg W (eCh g g' fa fb fc) σ H Q → tChain r r' (rE X.K X.mg W fa) (rE X.K X.mg W fb) (rE X.K X.mg W fc) σ H Q := fun σ H Q ⟨A, e, rp, p⟩ => by
  refine rd_seq rp p fun da e1 x H1 _ r1 s1 d1 p1 => rd_seq r1 p1 fun db e2 y H2 _ r2 s2 d2 p2 => ?_
  cases h : g da db with
  | none => simp only [h] at p2; exact p2.elim
  | some d =>
    refine hg _ H2 da db x y d _ hid_sub (Den.mono s2 _ _ d1) d2 h fun v H' s f => ?_
    have hv := f (hid A σ e2 H') (hid_same s) fun _ _ a b => r2.seen a b
    have r3 := r2.grow s
    simp only [h, Option.bind_some] at p2
    cases k : bl? d with
    | none => simp only [k] at p2; exact p2.elim
    | some b =>
      rw [bl_some k] at hv
      refine ⟨b, den_bl hv, ?_⟩
      cases b with
      | false =>
        simp only [k] at p2
        exact iteF (p2 _ _ r3 (hid_same s) (by simp only [Den]))
      | true =>
        simp only [k] at p2
        refine iteT (rd_seq r3 (Post.shift (hid_same s) p2) fun dc e3 z H3 _ r4 s4 d4 p4 => ?_)
        cases h' : g' db dc with
        | none => simp only [h'] at p4; exact p4.elim
        | some d' =>
          simp only [h'] at p4
          exact hg' _ H3 db dc y z d' Q hid_sub (Den.mono s4 _ _ (Den.mono (hid_same s) _ _ d2)) d4 h' fun v H' s f => fin r4 p4 s f
theorem v_chain {op op' : CmpOp} {r r' : R2} {g g' : D → D → Option D} (hg : RB X.K r g) (hg' : RB X.K r' g') (ho : OpR X (compareOp op) r) (ho' : OpR X (compareOp op') r')
    (ha : PE X a (rE X.K X.mg W fa)) (hb : PE X b (rE X.K X.mg W fb)) (hc : PE X c (rE X.K X.mg W fc)) (hm : lastMarks [op, op'] [b, c] = false := by with_unfolding_all rfl) : PE X (.Compare a [op, op'] [b, c] pos) (rE X.K X.mg W (eCh g g' fa fb fc)) :=
  (pe_chain ho ho' ha hb hc hm).imp (rCh_of hg hg')
theorem vt_chain {op op' : CmpOp} {r r' : R2} {g g' : D → D → Option D} (hg : RB X.K r g) (hg' : RB X.K r' g') (ho : OpR X (compareOp op) r) (ho' : OpR X (compareOp op') r')
    (ha : PE X a (rE X.K X.mg W fa)) (hb : PE X b (rE X.K X.mg W fb)) (hc : PE X c (rE X.K X.mg W fc)) (hm : lastMarks [op, op'] [b, c] = false := by with_unfolding_all rfl) : PT X (.Compare a [op, op'] [b, c] pos) (rT X.K X.mg W (tC1 (eCh g g' fa fb fc))) :=
  (pt_chain ho ho' ha hb hc hm).imp fun σ H Q ⟨A, e, r, p⟩ => by
    refine rCh_of hg hg' σ H _ ?_
    refine rd_seq r p fun da e1 x H1 _ r1 s1 d1 p1 => ?_
    cases h : bl? da with
    | none => simp only [h] at p1; exact p1.elim
    | some k =>
      simp only [h] at p1
      rw [bl_some h] at d1
      exact ⟨k, den_bl d1, p1 _ _ r1 (Same.refl _) rfl⟩
end
end Mi
namespace Mi
open PySem PySem.Spec PyProof.Rows L2

/-! ### targets -/
abbrev TD := D → En → Option En
def rdG (K : PySem.W.Frag) (G : TD) (js : List Nat) : TG := fun v σ H Q => ∃ A e d, Rep K A H σ e ∧ Den K (hid A σ e H) d v ∧ ∃ e1, G d e = some e1 ∧
  ∀ σ', Rep K A H σ' e1 → Same (hid A σ e H) (hid A σ' e1 H) → σ'.length = σ.length → (∀ j, j ∉ js → σ'[j]? = σ[j]?) → Q σ' H
abbrev TDs := List D → En → Option En
def rdGs (K : PySem.W.Frag) (G : TDs) (js : List Nat) : TGs := fun vs σ H Q => ∃ A e ds, Rep K A H σ e ∧ DenL K (hid A σ e H) ds vs ∧ ∃ e1, G ds e = some e1 ∧
  ∀ σ', Rep K A H σ' e1 → Same (hid A σ e H) (hid A σ' e1 H) → σ'.length = σ.length → (∀ j, j ∉ js → σ'[j]? = σ[j]?) → Q σ' H
theorem _root_.L2.PG.imp {X : Cx} {e : Expr} {t t' : TG} (h : PG X e t) (i : ∀ v σ H Q, t' v σ H Q → t v σ H Q) : PG X e t' := ⟨fun pins s σ H v u Q I r q => h.run pins s σ H v u Q I r (i _ _ _ _ q)⟩
theorem _root_.L2.PGs.imp {X : Cx} {e : List Expr} {t t' : TGs} (h : PGs X e t) (i : ∀ v σ H Q, t' v σ H Q → t v σ H Q) : PGs X e t' := ⟨fun pins s σ H v u Q I r q => h.run pins s σ H v u Q I r (i _ _ _ _ q)⟩
section
variable {X : Cx} {pos : Pos}
def gN (i : Nat) : TD := fun d e => some (e.set i (.val d))
theorem vg_name (i : Nat) {x : Str} (hN : X.N.Nodup) (hi : X.N[i]? = some x := by rfl) (hx : Loc X.env.scope x := by first | exact .inl rfl | exact .inr rfl) (hf : X.fn x = true ∨ X.env.scope.names.lookup x = some .local := by first | exact .inl rfl | exact .inr rfl) : PG X (.Name x pos) (rdG X.K (gN i) [i]) :=
  (pg_name hN hi hx hf).imp fun v σ H Q ⟨A, e, d, r, hd, e1, he, q⟩ => by
    cases he
    refine q _ (r.set hd) hid_set (List.length_set) fun j hj => ?_
    rw [List.getElem?_set_ne (fun z => hj (by simp [z]))]
def gsN : TDs := fun ds e => match ds with
  | [] => some e
  | _ => none
def gsC (G : TD) (Gs : TDs) : TDs := fun ds e => match ds with
  | d :: r => (G d e).bind (Gs r)
  | [] => none
theorem vgs_nil : PGs X [] (rdGs X.K gsN []) := pgs_nil.imp fun vs σ H Q ⟨A, e, ds, r, hd, e1, he, q⟩ => by
  cases ds with
  | nil =>
    simp only [DenL] at hd
    cases he
    exact ⟨hd, q σ r (Same.refl _) rfl fun _ _ => rfl⟩
  | cons d ds => cases he
theorem vgs_cons {t : Expr} {ts : List Expr} {G : TD} {Gs : TDs} {js ks : List Nat} (h1 : PG X t (rdG X.K G js)) (h2 : PGs X ts (rdGs X.K Gs ks))
    (hs : (assignEach (t :: ts) X.env).map (·.2) = assign t X.env :: (assignEach ts X.env).map (·.2) := by rfl) : PGs X (t :: ts) (rdGs X.K (gsC G Gs) (js ++ ks)) :=
  (pgs_cons h1 h2 hs).imp fun vs σ H Q ⟨A, e, ds, r, hd, e1, he, q⟩ => by
    cases ds with
    | nil => cases he
    | cons d ds =>
      simp only [DenL] at hd
      obtain ⟨v, us, rfl, hv, hu⟩ := hd
      cases h : G d e with
      | none => simp only [gsC, h] at he; cases he
      | some e2 =>
        have he' : Gs ds e2 = some e1 := by simpa only [gsC, h, Option.bind_some] using he
        refine ⟨v, us, rfl, A, e, d, r, hv, e2, h, fun σ' r' s' l' k' => ⟨A, e2, ds, r', DenL.mono s' _ _ hu, e1, he', fun σ2 r2 s2 l2 k2 => q σ2 r2 (s'.trans s2) (l2.trans l') fun j hj => ?_⟩⟩
        rw [k2 j (fun z => hj (List.mem_append_right _ z)), k' j (fun z => hj (List.mem_append_left _ z))]
def gT (n : Nat) (Gs : TDs) : TD := fun d e => match d with
  | .tup ds => if ds.length = n then Gs ds e else none
  | _ => none
theorem vg_tup {ts : List Expr} {k n : Nat} {Gs : TDs} {js : List Nat} (hc : X.calm = true) (h : PGs X ts (rdGs X.K Gs js)) (hn : (assignEach ts X.env).length = n := by rfl)
    (hst : (assignEach ts X.env).findIdx? (·.1) = none := by rfl) : PG X (.Tuple ts k pos) (rdG X.K (gT n Gs) js) :=
  (pg_tup hc h hn hst).imp fun v σ H Q ⟨A, e, d, r, hd, e1, he, q⟩ => by
    cases d with
    | tup ds =>
      simp only [Den] at hd
      obtain ⟨a, vs, rfl, h1, h2⟩ := hd
      by_cases hl : ds.length = n
      · have he' : Gs ds e = some e1 := by simpa only [gT, hl, if_true] using he
        exact ⟨a, vs, rfl, Same.seqT hid_sub h1, by rw [← h2.length]; exact hl, A, e, ds, r, h2, e1, he', q⟩
      · simp only [gT, hl, if_false] at he
        cases he
    | _ => cases he

/-! ### statements -/
section
variable {W : WX} {a b : Expr} {fa fb : FE} {st : Stmt} {rest : List Stmt} {g h : FS}
def sNx : FS := fun e => .ok (.nx e)
def sSeq (g h : FS) : FS := fun e => match g e with
  | .ok (.nx e1) => h e1
  | r => r
theorem vss_nil : PSs X [] (rdS X.K X.mg W sNx) := pss_nil.imp fun D σ H ⟨A, e, r, p⟩ => p σ H r (Same.refl _)
theorem vss_cons (h1 : PS X st (rdS X.K X.mg W g)) (h2 : PSs X rest (rdS X.K X.mg W h)) : PSs X (st :: rest) (rdS X.K X.mg W (sSeq g h)) :=
  (pss_cons h1 h2).imp fun D σ H ⟨A, e, r, p⟩ => by
    refine ⟨A, e, r, ?_⟩
    unfold sSeq at p
    cases q : g e with
    | ok f =>
      rw [q] at p
      cases f with
      | nx e1 => exact fun σ' H' r' s' => ⟨A, e1, r', PostS.shift s' p⟩
      | rt d e1 => exact p
      | rn ds e1 => exact p
      | bk e1 => exact p
      | ct e1 => exact p
    | exc c e1 => rw [q] at p; exact p
    | err => rw [q] at p; exact p
theorem vss_one (h1 : PS X st (rdS X.K X.mg W g)) : PSs X [st] (rdS X.K X.mg W g) := pss_one h1
theorem vs_pass : PS X (.Pass pos) (rdS X.K X.mg W sNx) := ps_pass.imp fun D σ H ⟨A, e, r, p⟩ => p σ H r (Same.refl _)
def sBk : FS := fun e => .ok (.bk e)
def sCt : FS := fun e => .ok (.ct e)
theorem vs_break : PS X (.Break pos) (rdS X.K X.mg W sBk) := ps_break.imp fun D σ H ⟨A, e, r, p⟩ => p σ H r (Same.refl _)
theorem vs_continue : PS X (.Continue pos) (rdS X.K X.mg W sCt) := ps_continue.imp fun D σ H ⟨A, e, r, p⟩ => p σ H r (Same.refl _)
def sErr : FS := fun _ => .err
theorem vs_never : PS X st (rdS X.K X.mg W sErr) := ps_never.imp fun D σ H ⟨A, e, r, p⟩ => p.elim
theorem vss_never {sts : List Stmt} : PSs X sts (rdS X.K X.mg W sErr) := pss_never.imp fun D σ H ⟨A, e, r, p⟩ => p.elim
def sRet (f : FE) : FS := fun e => (f e).bind fun p => .ok (.rt p.1 p.2)
theorem vs_ret (ha : PE X a (rE X.K X.mg W fa)) : PS X (.Return (some a) pos) (rdS X.K X.mg W (sRet fa)) :=
  (ps_ret ha).imp fun D σ H ⟨A, e, r, p⟩ => rd_seqS r p fun d e1 x H1 _ r1 s1 d1 p1 => p1 x σ H1 r1 (Same.refl _) d1
def sIf (c : FT) (g h : FS) : FS := fun e => (c e).bind fun p => if p.1 = true then g p.2 else h p.2
theorem vs_if {c : Expr} {fc : FT} {s1 s2 : List Stmt} (hc : PT X c (rT X.K X.mg W fc)) (ha : PSs X s1 (rdS X.K X.mg W g)) (hb : PSs X s2 (rdS X.K X.mg W h)) : PS X (.If c s1 s2 pos) (rdS X.K X.mg W (sIf fc g h)) :=
  (ps_if hc ha hb).imp fun D σ H ⟨A, e, r, p⟩ => rd_seqS r p fun k e1 x H1 _ r1 s1 d1 p1 => by
    subst d1
    cases x with
    | true => exact iteT ⟨A, e1, r1, p1⟩
    | false => exact iteF ⟨A, e1, r1, p1⟩
def sSet (i : Nat) (f : FE) : FS := fun e => (f e).bind fun p => .ok (.nx (p.2.set i (.val p.1)))
theorem rSet_of {i : Nat} : ∀ (D : Ends) σ H, rdS X.K X.mg W (sSet i fa) D σ H → tAsg (rE X.K X.mg W fa) (gName i) D σ H := fun D σ H ⟨A, e, r, p⟩ =>
  rd_seqS r p fun d e1 x H1 _ r1 s1 d1 p1 => p1 _ H1 (r1.set d1) hid_set
theorem vs_set (i : Nat) {x : Str} {pos' : Pos} (hN : X.N.Nodup) (ha : PE X a (rE X.K X.mg W fa)) (hi : X.N[i]? = some x := by rfl) (hx : Loc X.env.scope x := by first | exact .inl rfl | exact .inr rfl) (hs : swapsWith a (some (.Name x pos')) pos.line X.env = pure false := by rfl)
    (hf : X.fn x = true ∨ X.env.scope.names.lookup x = some .local := by first | exact .inl rfl | exact .inr rfl) : PS X (.Assign [.Name x pos'] a pos) (rdS X.K X.mg W (sSet i fa)) :=
  (ps_set hN hi hx ha hs hf).imp rSet_of
/-- a general target -/
def sAsg (G : TD) (f : FE) : FS := fun e => (f e).bind fun p => match G p.1 p.2 with
  | some e1 => .ok (.nx e1)
  | none => .err
theorem vs_asg {tg : Expr} {G : TD} {js : List Nat} (ha : PE X a (rE X.K X.mg W fa)) (hg : PG X tg (rdG X.K G js)) (hs : swapsWithSole [tg] a pos.line X.env = pure false := by rfl) (hw : swappedStores [tg] a X.env = pure none := by rfl)
    (h1 : (assignEach [tg] X.env).map (·.2) = [assign tg X.env] := by rfl) : PS X (.Assign [tg] a pos) (rdS X.K X.mg W (sAsg G fa)) :=
  (ps_asg ha hg hs hw h1).imp fun D σ H ⟨A, e, r, p⟩ => rd_seqS r p fun d e1 x H1 _ r1 s1 d1 p1 => by
    cases h : G d e1 with
    | none => simp only [h] at p1; exact p1.elim
    | some e2 =>
      simp only [h] at p1
      exact ⟨A, e1, d, r1, d1, e2, h, fun σ' r' s' _ _ => p1 σ' H1 r' s'⟩
/-! ### new lists -/
def PostN (K : PySem.W.Frag) (mg : Str → Option Value) (W : WX) (A : Act) (σ : L2.St) (e : En) (H : Hp) (Q : VK) : R (List D × En) → Prop
  | .ok p => ∀ q vs H', Old A q → Rep K (A.build q vs) H' σ p.2 → Same (hid A σ e H) (hid (A.build q vs) σ p.2 H') → DenL K (hid (A.build q vs) σ p.2 H') p.1 vs → Q (.ref q) H'
  | .exc c e' => ∀ H', Rep K A H' σ e' → Same (hid A σ e H) (hid A σ e' H') → WX1 mg W c σ H'
  | .err => False
def rN (K : PySem.W.Frag) (mg : Str → Option Value) (W : WX) (f : FA) : TE := fun σ H Q => ∃ A e, Rep K A H σ e ∧ PostN K mg W A σ e H Q (f e)
/-- how a reading of parts leads to a new list -/
theorem rN_seq {α β : Type} {K : PySem.W.Frag} {mg : Str → Option Value} {A : Act} {σ : L2.St} {e : En} {H : Hp} {den : Hp → α → β → Prop} {f : En → R (α × En)} {k : α × En → R (List D × En)} {Q : VK} {G : β → Hp → Prop} (r : Rep K A H σ e) (p : PostN K mg W A σ e H Q ((f e).bind k))
    (hG : ∀ a e1 b H1, f e = .ok (a, e1) → Rep K A H1 σ e1 → Same (hid A σ e H) (hid A σ e1 H1) → den (hid A σ e1 H1) a b → PostN K mg W A σ e1 H1 Q (k (a, e1)) → G b H1) : rd K mg W den f σ H G := by
  refine ⟨A, e, r, ?_⟩
  cases h : f e with
  | ok q =>
    obtain ⟨a, e1⟩ := q
    rw [h] at p
    refine fun b H1 r1 s1 d1 => hG a e1 b H1 h r1 s1 d1 ?_
    have p' : PostN K mg W A σ e H Q (k (a, e1)) := p
    revert p'
    cases k (a, e1) with
    | ok q => exact fun p' q vs H' o r' s' d' => p' q vs H' o r' (s1.trans s') d'
    | exc c e' => exact fun p' H' r' s' => p' H' r' (s1.trans s')
    | err => exact fun p' => p'
  | exc c e' => rw [h] at p; exact p
  | err => rw [h] at p; exact p
theorem finN {K : PySem.W.Frag} {mg : Str → Option Value} {A : Act} {σ : L2.St} {e : En} {H : Hp} {Q : VK} {ds : List D} {vs : List V} {q : Addr} (r : Rep K A H σ e) (p : PostN K mg W A σ e H Q (.ok (ds, e))) (hq : H q = none) (h : DenL K (hid A σ e H) ds vs) : Q (.ref q) (upd H q (.lst vs)) := by
  refine p q vs _ (r.old hq) (r.build vs hq) ?_ ?_
  · rw [hid_build r hq]; exact Same.refl _
  · rw [hid_build r hq]; exact h
/-- as a value -/
def eL (f : FA) : FE := fun e => (f e).bind fun p => .ok (.lst p.1, p.2)
theorem v_ofN {ex : Expr} {f : FA} (h : PE X ex (rN X.K X.mg W f)) : PE X ex (rE X.K X.mg W (eL f)) :=
  h.imp fun σ H Q ⟨A, e, r, p⟩ => by
    refine ⟨A, e, r, ?_⟩
    unfold eL at p
    cases q : f e with
    | ok z =>
      obtain ⟨ds, e1⟩ := z
      rw [q] at p
      intro a vs H' o r' s' d'
      obtain ⟨rb, sb, hb⟩ := r'.built o
      refine p _ H' rb (s'.trans sb) ?_
      simp only [Den]
      exact ⟨a, vs, rfl, hb, DenL.mono sb _ _ d'⟩
    | exc c e1 => rw [q] at p; exact p
    | err => rw [q] at p; exact p
def nLst (f : FA) : FA := fun e => (f e).bind fun p => if p.1.length ≤ lim then .ok p else .err
theorem n_lst {es : List Expr} {f : FA} (h : PA X es (rA X.K X.mg W f)) : PE X (.List es pos) (rN X.K X.mg W (nLst f)) :=
  (pe_lst h).imp fun σ H Q ⟨A, e, r, p⟩ => by
    refine rN_seq r p fun ds e1 xs H1 _ r1 s1 d1 p1 => ?_
    by_cases h : ds.length ≤ lim
    · simp only [h, if_true] at p1
      exact ⟨by rw [← d1.length, ← lim_eq]; exact h, fun q nq => finN r1 p1 nq d1⟩
    · simp only [h, if_false] at p1
      exact p1.elim
def RBN (K : PySem.W.Frag) (r : R2) (g : D → D → Option (List D)) : Prop := ∀ (Hh H : Hp) (a b : D) (x y : V) (ds : List D) (Q : VK), Same Hh H → Den K Hh a x → Den K Hh b y → g a b = some ds → (∀ p vs, H p = none → DenL K Hh ds vs → Q (.ref p) (upd H p (.lst vs))) → r x y H Q
def nB (g : D → D → Option (List D)) (fa fb : FE) : FA := fun e => (fa e).bind fun p => (fb p.2).bind fun q => match g p.1 q.1 with
  | some d => .ok (d, q.2)
  | none => .err
theorem n_op {op : Operator} {r : R2} {g : D → D → Option (List D)} (hg : RBN X.K r g) (ho : OpR X (binaryOp op) r) (ha : PE X a (rE X.K X.mg W fa)) (hb : PE X b (rE X.K X.mg W fb)) : PE X (.BinOp a op b pos) (rN X.K X.mg W (nB g fa fb)) :=
  (pe_op ho ha hb).imp fun σ H Q ⟨A, e, rp, p⟩ => by
    refine rN_seq rp p fun da e1 x H1 _ r1 s1 d1 p1 => rN_seq r1 p1 fun db e2 y H2 _ r2 s2 d2 p2 => ?_
    cases h : g da db with
    | none => simp only [h] at p2; exact p2.elim
    | some ds =>
      simp only [h] at p2
      exact hg _ H2 da db x y ds Q hid_sub (Den.mono s2 _ _ d1) d2 h fun q vs nq d => finN r2 p2 nq d
def RCN (K : PySem.W.Frag) (r : List V → Hp → VK → Prop) (g : List D → Option (List D)) : Prop := ∀ (Hh H : Hp) (ds : List D) (vs : List V) (es : List D) (Q : VK), Same Hh H → DenL K Hh ds vs → g ds = some es → (∀ p us, H p = none → DenL K Hh es us → Q (.ref p) (upd H p (.lst us))) → r vs H Q
def nF (g : List D → Option (List D)) (f : FA) : FA := fun e => (f e).bind fun p => match g p.1 with
  | some d => .ok (d, p.2)
  | none => .err
theorem rCN_of {r : List V → Hp → VK → Prop} {g : List D → Option (List D)} {f : FA} (hg : RCN X.K r g) : ∀ σ H Q, rN X.K X.mg W (nF g f) σ H Q → tCB r (rA X.K X.mg W f) σ H Q := fun σ H Q ⟨A, e, rp, p⟩ => by
  refine rN_seq rp p fun ds e1 xs H1 _ r1 s1 d1 p1 => ?_
  cases h : g ds with
  | none => simp only [h] at p1; exact p1.elim
  | some es =>
    simp only [h] at p1
    exact hg _ H1 ds xs es Q hid_sub d1 h fun q vs nq d => finN r1 p1 nq d
def sRetN (f : FA) : FS := fun e => (f e).bind fun p => .ok (.rn p.1 p.2)
theorem vs_retN {f : FA} (ha : PE X a (rN X.K X.mg W f)) : PS X (.Return (some a) pos) (rdS X.K X.mg W (sRetN f)) :=
  (ps_ret ha).imp fun D σ H ⟨A, e, r, p⟩ => by
    refine ⟨A, e, r, ?_⟩
    unfold sRetN at p
    cases q : f e with
    | ok z =>
      rw [q] at p
      exact fun a vs H' o r' s' d' => p a vs σ H' o r' s' d'
    | exc c e1 =>
      rw [q] at p
      exact fun H' r' => p σ H' r'
    | err => rw [q] at p; exact p
/-- x = a new list, to be changed in place -/
def sNew (i : Nat) (f : FA) : FS := fun e => (f e).bind fun p => if i < p.2.length then .ok (.nx (p.2.set i (.own p.1))) else .err
theorem vs_new (i : Nat) {x : Str} {pos' : Pos} {f : FA} (hN : X.N.Nodup) (ha : PE X a (rN X.K X.mg W f)) (hi : X.N[i]? = some x := by rfl) (hx : Loc X.env.scope x := by first | exact .inl rfl | exact .inr rfl)
    (hs : swapsWith a (some (.Name x pos')) pos.line X.env = pure false := by rfl)
    (hf : X.fn x = true ∨ X.env.scope.names.lookup x = some .local := by first | exact .inl rfl | exact .inr rfl) : PS X (.Assign [.Name x pos'] a pos) (rdS X.K X.mg W (sNew i f)) :=
  (ps_set hN hi hx ha hs hf).imp fun D σ H ⟨A, e, r, p⟩ => by
    refine ⟨A, e, r, ?_⟩
    unfold sNew at p
    cases q : f e with
    | ok z =>
      obtain ⟨ds, e1⟩ := z
      rw [q] at p
      intro a vs H' o r' s' d'
      by_cases h : i < e1.length
      · have p2 : PostS X.K X.mg W D A σ e H (if i < e1.length then .ok (.nx (e1.set i (.own ds))) else .err) := p
        rw [if_pos h] at p2
        obtain ⟨rc, sc⟩ := r'.claim (ds := ds) (i := i) (s := .own ds) o d' rfl h
        exact p2 _ _ rc (s'.trans sc)
      · have p2 : PostS X.K X.mg W D A σ e H (if i < e1.length then .ok (.nx (e1.set i (.own ds))) else .err) := p
        rw [if_neg h] at p2
        exact p2.elim
    | exc c e1 =>
      rw [q] at p
      exact fun H' r' => p σ H' r'
    | err => rw [q] at p; exact p
/-! ### x, y = e1, e2: each a value, or a new list to be changed in place -/
inductive Bp where
  | v (d : D) | n (ds : List D)
inductive Got (K : PySem.W.Frag) (Hf : Hp) : Act → Act → List Bp → List V → Prop
  | nil {A : Act} : Got K Hf A A [] []
  | v {A A' : Act} {d : D} {x : V} {bs : List Bp} {vs : List V} : Den K Hf d x → Got K Hf A A' bs vs → Got K Hf A A' (.v d :: bs) (x :: vs)
  | n {A A' : Act} {p : Addr} {ds : List D} {us : List V} {bs : List Bp} {vs : List V} : Old A p → DenL K Hf ds us → Got K Hf (A.build p us) A' bs vs → Got K Hf A A' (.n ds :: bs) (.ref p :: vs)
theorem Got.mono {K : PySem.W.Frag} {Hf Hg : Hp} (s : Same Hf Hg) {A A' : Act} {bs : List Bp} {vs : List V} (g : Got K Hf A A' bs vs) : Got K Hg A A' bs vs := by
  induction g with
  | nil => exact .nil
  | v h _ ih => exact .v (Den.mono s _ _ h) ih
  | n o h _ ih => exact .n o (DenL.mono s _ _ h) ih
def Bp.sl : Bp → Sl
  | .v d => .val d
  | .n ds => .own ds
def setsV (σ : L2.St) : List Nat → List V → L2.St
  | i :: is, v :: vs => (setsV σ is vs).set i (some v)
  | _, _ => σ
def setsE (e : En) : List Nat → List Bp → En
  | i :: is, b :: bs => (setsE e is bs).set i b.sl
  | _, _ => e
theorem setsE_length (e : En) : ∀ (is : List Nat) (bs : List Bp), (setsE e is bs).length = e.length
  | [], _ => rfl
  | _ :: _, [] => rfl
  | i :: is, b :: bs => by unfold setsE; rw [List.length_set, setsE_length e is bs]
theorem Got.all {K : PySem.W.Frag} {Hf H : Hp} {σ : L2.St} {e : En} {A A' : Act} {bs : List Bp} {vs : List V} (g : Got K Hf A A' bs vs) : ∀ (is : List Nat), is.length = bs.length → (∀ i ∈ is, i < e.length) → Rep K A' H σ e → Same Hf (hid A' σ e H) →
    Rep K A H (setsV σ is vs) (setsE e is bs) ∧ Same (hid A' σ e H) (hid A (setsV σ is vs) (setsE e is bs) H) := by
  induction g with
  | nil =>
    intro is hl hi r s
    cases is with
    | nil => exact ⟨r, Same.refl _⟩
    | cons i is => cases hl
  | v h _ ih =>
    intro is hl hi r s
    cases is with
    | nil => cases hl
    | cons i is =>
      obtain ⟨r1, s1⟩ := ih is (Nat.succ.inj hl) (fun j hj => hi j (List.mem_cons_of_mem _ hj)) r s
      exact ⟨r1.set (Den.mono (s.trans s1) _ _ h), s1.trans hid_set⟩
  | n o h _ ih =>
    intro is hl hi r s
    cases is with
    | nil => cases hl
    | cons i is =>
      obtain ⟨r1, s1⟩ := ih is (Nat.succ.inj hl) (fun j hj => hi j (List.mem_cons_of_mem _ hj)) r s
      obtain ⟨r2, s2⟩ := r1.claim (i := i) o (DenL.mono (s.trans s1) _ _ h) rfl (by rw [setsE_length]; exact hi i List.mem_cons_self)
      exact ⟨r2, s1.trans s2⟩
abbrev FB := En → R (List Bp × En)
def PostB (K : PySem.W.Frag) (mg : Str → Option Value) (W : WX) (A : Act) (σ : L2.St) (e : En) (H : Hp) (Q : List V → Hp → Prop) : R (List Bp × En) → Prop
  | .ok p => ∀ A' vs H', Rep K A' H' σ p.2 → Same (hid A σ e H) (hid A' σ p.2 H') → Got K (hid A' σ p.2 H') A A' p.1 vs → Q vs H'
  | .exc _ _ => False
  | .err => False
def rB (K : PySem.W.Frag) (mg : Str → Option Value) (W : WX) (f : FB) : TA := fun σ H Q => ∃ A e, Rep K A H σ e ∧ PostB K mg W A σ e H Q (f e)
def bN : FB := fun e => .ok ([], e)
def bV (f : FE) (g : FB) : FB := fun e => (f e).bind fun p => (g p.2).bind fun q => .ok (.v p.1 :: q.1, q.2)
def bL (f : FA) (g : FB) : FB := fun e => (f e).bind fun p => (g p.2).bind fun q => .ok (.n p.1 :: q.1, q.2)
theorem vb_nil : PA X [] (rB X.K X.mg W bN) := pa_nil.imp fun σ H Q ⟨A, e, r, p⟩ => p A [] H r (Same.refl _) .nil
theorem vb_v {es : List Expr} {f : FE} {g : FB} (ha : PE X a (rE X.K X.mg W f)) (hr : PA X es (rB X.K X.mg W g)) (hs : starEach (a :: es) X.env = (false, eval a X.env) :: starEach es X.env := by rfl) : PA X (a :: es) (rB X.K X.mg W (bV f g)) :=
  (pa_cons ha hr hs).imp fun σ H Q ⟨A, e, r, p⟩ => by
    refine ⟨A, e, r, ?_⟩
    unfold bV at p
    cases q : f e with
    | ok z =>
      obtain ⟨d, e1⟩ := z
      rw [q] at p
      intro x H1 r1 s1 d1
      refine ⟨A, e1, r1, ?_⟩
      have p1 : PostB X.K X.mg W A σ e H Q ((g e1).bind fun q => .ok (.v d :: q.1, q.2)) := p
      cases q2 : g e1 with
      | ok z =>
        rw [q2] at p1
        exact fun A' vs H2 r2 s2 g2 => p1 A' (x :: vs) H2 r2 (s1.trans s2) (.v (Den.mono s2 _ _ d1) g2)
      | exc c e2 => rw [q2] at p1; exact p1.elim
      | err => rw [q2] at p1; exact p1
    | exc c e1 => rw [q] at p; exact p.elim
    | err => rw [q] at p; exact p
theorem vb_l {es : List Expr} {f : FA} {g : FB} (ha : PE X a (rN X.K X.mg W f)) (hr : PA X es (rB X.K X.mg W g)) (hs : starEach (a :: es) X.env = (false, eval a X.env) :: starEach es X.env := by rfl) : PA X (a :: es) (rB X.K X.mg W (bL f g)) :=
  (pa_cons ha hr hs).imp fun σ H Q ⟨A, e, r, p⟩ => by
    refine ⟨A, e, r, ?_⟩
    unfold bL at p
    cases q : f e with
    | ok z =>
      obtain ⟨ds, e1⟩ := z
      rw [q] at p
      intro w us H1 o r1 s1 d1
      refine ⟨A.build w us, e1, r1, ?_⟩
      have p1 : PostB X.K X.mg W A σ e H Q ((g e1).bind fun q => .ok (.n ds :: q.1, q.2)) := p
      cases q2 : g e1 with
      | ok z =>
        rw [q2] at p1
        exact fun A' vs H2 r2 s2 g2 => p1 A' (.ref w :: vs) H2 r2 (s1.trans s2) (.n o (DenL.mono s2 _ _ d1) g2)
      | exc c e2 => rw [q2] at p1; exact p1.elim
      | err => rw [q2] at p1; exact p1
    | exc c e1 => rw [q] at p; exact p.elim
    | err => rw [q] at p; exact p
def sPar (is : List Nat) (f : FB) : FS := fun e => match f e with
  | .ok p => if p.1.length = is.length ∧ (∀ i ∈ is, i < p.2.length) then .ok (.nx (setsE p.2 is p.1)) else .err
  | _ => .err
theorem rPar_of {is : List Nat} {f : FB} : ∀ (D : Ends) σ H, rdS X.K X.mg W (sPar is f) D σ H → rB X.K X.mg W f σ H (fun vs H1 => vs.length = is.length ∧ D.nx (setsV σ is vs) H1) := fun D σ H ⟨A, e, r, p⟩ => by
  refine ⟨A, e, r, ?_⟩
  unfold sPar at p
  cases q : f e with
  | ok z =>
    obtain ⟨bs, e1⟩ := z
    rw [q] at p
    have p1 : PostS X.K X.mg W D A σ e H (if bs.length = is.length ∧ (∀ i ∈ is, i < e1.length) then .ok (.nx (setsE e1 is bs)) else .err) := p
    intro A' vs H1 r1 s1 g
    by_cases h : bs.length = is.length ∧ (∀ i ∈ is, i < e1.length)
    · rw [if_pos h] at p1
      obtain ⟨r2, s2⟩ := g.all is h.1.symm h.2 r1 (Same.refl _)
      have hl : ∀ {A A' : Act} {Hf : Hp} {bs : List Bp} {vs : List V}, Got X.K Hf A A' bs vs → bs.length = vs.length := fun g => by
        induction g with
        | nil => rfl
        | v _ _ ih => rw [List.length_cons, List.length_cons, ih]
        | n _ _ _ ih => rw [List.length_cons, List.length_cons, ih]
      exact ⟨(hl g).symm.trans h.1, p1 _ _ r2 (s1.trans s2)⟩
    · rw [if_neg h] at p1
      exact p1.elim
  | exc c e1 => rw [q] at p; exact p
  | err => rw [q] at p; exact p
theorem vs_par (i j : Nat) {x y : Str} {px py pt : Pos} {kt k2 : Nat} {pt2 : Pos} {f : FB} (hc : X.calm = true) (hN : X.N.Nodup) (ha : PA X [a, b] (rB X.K X.mg W f)) (hi : X.N[i]? = some x := by rfl) (hj : X.N[j]? = some y := by rfl) (hij : i ≠ j := by decide)
    (hx : X.env.scope.names.lookup x = some .local := by rfl) (hy : X.env.scope.names.lookup y = some .local := by rfl)
    (hw : swappedStores [.Tuple [.Name x px, .Name y py] kt pt] (.Tuple [a, b] k2 pt2) X.env = pure (some [x, y]) := by rfl)
    (hs : swapsWithSole [.Tuple [.Name x px, .Name y py] kt pt] (.Tuple [a, b] k2 pt2) pos.line X.env = pure false := by rfl) :
    PS X (.Assign [.Tuple [.Name x px, .Name y py] kt pt] (.Tuple [a, b] k2 pt2) pos) (rdS X.K X.mg W (sPar [i, j] f)) :=
  (ps_par hc hN hi hj hij hx hy ha hw hs).imp fun D σ H h => by
    obtain ⟨A, e, r, p⟩ := rPar_of D σ H h
    refine ⟨A, e, r, ?_⟩
    revert p
    cases f e with
    | ok z =>
      intro p A' vs H' r' s' g
      obtain ⟨hl, q⟩ := p A' vs H' r' s' g
      match vs, hl, q with
      | [v, w], _, q =>
        refine ⟨v, w, rfl, ?_⟩
        have q' : D.nx ((σ.set j (some w)).set i (some v)) H' := q
        rw [List.set_comm _ _ (Ne.symm hij)] at q'
        exact q'
    | exc c e1 => exact fun p => p
    | err => exact fun p => p
theorem vs_par3 (i j l : Nat) {c : Expr} {x y z : Str} {px py pz pt : Pos} {kt k2 : Nat} {pt2 : Pos} {f : FB} (hc : X.calm = true) (hN : X.N.Nodup) (ha : PA X [a, b, c] (rB X.K X.mg W f)) (hi : X.N[i]? = some x := by rfl) (hj : X.N[j]? = some y := by rfl) (hl : X.N[l]? = some z := by rfl)
    (hij : i ≠ j := by decide) (hil : i ≠ l := by decide) (hjl : j ≠ l := by decide)
    (hx : X.env.scope.names.lookup x = some .local := by rfl) (hy : X.env.scope.names.lookup y = some .local := by rfl) (hz : X.env.scope.names.lookup z = some .local := by rfl)
    (hw : swappedStores [.Tuple [.Name x px, .Name y py, .Name z pz] kt pt] (.Tuple [a, b, c] k2 pt2) X.env = pure (some [x, y, z]) := by rfl)
    (hs : swapsWithSole [.Tuple [.Name x px, .Name y py, .Name z pz] kt pt] (.Tuple [a, b, c] k2 pt2) pos.line X.env = pure false := by rfl) :
    PS X (.Assign [.Tuple [.Name x px, .Name y py, .Name z pz] kt pt] (.Tuple [a, b, c] k2 pt2) pos) (rdS X.K X.mg W (sPar [i, j, l] f)) :=
  (ps_par3 hc hN hi hj hl hij hil hjl hx hy hz ha hw hs).imp fun D σ H h => by
    obtain ⟨A, e, r, p⟩ := rPar_of D σ H h
    refine ⟨A, e, r, ?_⟩
    revert p
    cases f e with
    | ok z =>
      intro p A' vs H' r' s' g
      obtain ⟨hl, q⟩ := p A' vs H' r' s' g
      match vs, hl, q with
      | [u, v, w], _, q =>
        refine ⟨u, v, w, rfl, ?_⟩
        have q' : D.nx (((σ.set l (some w)).set j (some v)).set i (some u)) H' := q
        rw [List.set_comm _ _ (Ne.symm hjl), List.set_comm _ _ (Ne.symm hil), List.set_comm _ _ (Ne.symm hij)] at q'
        exact q'
    | exc c e1 => exact fun p => p
    | err => exact fun p => p
/-! ### x.append(e), x.pop() -/
def sApp (i : Nat) (f : FE) : FS := fun e => match e[i]? with
  | some (.own _) => (f e).bind fun p => match p.2[i]? with
    | some (.own ds) => if ds.length < lim then .ok (.nx (p.2.set i (.own (ds ++ [p.1])))) else .err
    | _ => .err
  | _ => .err
theorem vs_append (i : Nat) {x : Str} {p1 p2 p3 : Pos} (ha : PE X a (rE X.K X.mg W fa)) (hN : X.N[i]? = some x := by rfl) (hv : Vis X.env.scope x := by first | exact Or.inl rfl | exact Or.inr (Or.inl rfl) | exact Or.inr (Or.inr rfl))
    (hd : (x == ("__debug__" : Str)) = false := by decide) (hcd : (x == ("__classdict__" : Str)) = false := by decide)
    (hbase : attributeBase (.Name x p1) "append" X.env (eval (.Name x p1) X.env) = eval (.Name x p1) X.env := by rfl)
    (hfew : ((backTo p3 (starEach [a] X.env)).all (fun x => !x.1) && (backToKw p3 (keywordEach [] X.env)).all (fun x => x.1.isSome)
      && decide ([a].length + ([] : List Keyword).length + (if ([] : List Keyword).isEmpty then 0 else 1) < 30)) = true := by rfl)
    (hline : (p2.endLine == p3.line) = true := by rfl) (hs : starEach [a] X.env = (false, eval a X.env) :: starEach [] X.env := by rfl) (hplain : (backTo p3 (starEach [] X.env)).any (·.1) = false := by rfl)
    (hsw : swapsWith (.Call (.Attribute (.Name x p1) "append" p2) [a] [] p3) none pos.line X.env = pure false := by rfl) :
    PS X (.Expr (.Call (.Attribute (.Name x p1) "append" p2) [a] [] p3) pos) (rdS X.K X.mg W (sApp i fa)) :=
  (ps_expr (pe_bm PySem.F.plainAttrs_list PySem.F.slot_list_append PySem.F.type_list_append mt_append (pe_var hN hv hd hcd) (pa_cons ha pa_nil hs) hbase hfew hline hs hplain) hsw).imp fun D σ H ⟨A, e, r, p⟩ => by
    unfold sApp at p
    cases h : e[i]? with
    | none => rw [h] at p; exact p.elim
    | some s =>
      rw [h] at p
      cases s with
      | own ds0 =>
        obtain ⟨l, vs0, h1, h2, h3, h4⟩ := r.own i ds0 h
        refine ⟨.ref l, h1, .inl ⟨rfl, vs0, .inl (.inl h2)⟩, ?_⟩
        refine rd_seqS r p fun d e1 y H1 _ r1 s1 d1 p1 => ?_
        cases h' : e1[i]? with
        | none => simp only [h'] at p1; exact p1.elim
        | some s' =>
          simp only [h'] at p1
          cases s' with
          | own ds =>
            by_cases hl : ds.length < lim
            · simp only [hl, if_true] at p1
              obtain ⟨l', vs, k1, k2, k3, k4⟩ := r1.own i ds h'
              rw [h1] at k1
              cases k1
              obtain ⟨rp, hp⟩ := r1.put h' ⟨ds, .inl h'⟩ h1 (DenL.append k3 (DenL.cons d1 DenL.nil))
              have hp' : hid A σ (e1.set i (.own (ds ++ [d]))) (upd H1 l (.lst (vs ++ [y]))) = hid A σ e1 H1 := hp
              refine ⟨l, vs, y, rfl, rfl, k2, by rw [← k3.length, ← lim_eq]; exact hl, p1 σ _ rp ?_⟩
              rw [hp']
              exact Same.refl _
            · simp only [hl, if_false] at p1
              exact p1.elim
          | _ => exact p1.elim
      | _ => exact p.elim
/-- the last one is taken off -/
def ePop (i : Nat) : FE := fun e => match e[i]? with
  | some s => (match s with
    | .own ds | .brw ds => (match ds.getLast? with
      | some d => .ok (d, e.set i (s.turn ds.dropLast))
      | none => .err)
    | _ => .err)
  | none => .err
theorem v_pop (i : Nat) {x : Str} {p1 p2 : Pos} (hN : X.N[i]? = some x := by rfl) (hv : Vis X.env.scope x := by first | exact Or.inl rfl | exact Or.inr (Or.inl rfl) | exact Or.inr (Or.inr rfl))
    (hd : (x == ("__debug__" : Str)) = false := by decide) (hcd : (x == ("__classdict__" : Str)) = false := by decide)
    (hbase : attributeBase (.Name x p1) "pop" X.env (eval (.Name x p1) X.env) = eval (.Name x p1) X.env := by rfl) (hline : (p2.endLine == pos.line) = true := by rfl) :
    PE X (.Call (.Attribute (.Name x p1) "pop" p2) [] [] pos) (rE X.K X.mg W (ePop i)) :=
  (pe_bm0 PySem.F.plainAttrs_list PySem.F.slot_list_pop PySem.F.type_list_pop mt_pop (pe_var hN hv hd hcd) hbase hline).imp fun σ H Q ⟨A, e, r, p⟩ => by
    unfold ePop at p
    cases h : e[i]? with
    | none => rw [h] at p; exact p.elim
    | some s =>
      rw [h] at p
      have go : ∀ ds, (s = .own ds ∨ s = .brw ds) → Post X.K X.mg W (Den X.K) A σ e H Q (match ds.getLast? with
          | some d => .ok (d, e.set i (s.turn ds.dropLast))
          | none => .err) → tBM0 X.K "list" rPop (tVar i) σ H Q := fun ds hs p => by
        have hh : Held e i := ⟨ds, by rcases hs with rfl | rfl; exact .inl h; exact .inr h⟩
        have ho : ∃ a vs, σ[i]? = some (some (.ref a)) ∧ H a = some (.lst vs) ∧ DenL X.K (hid A σ e H) ds vs := by
          rcases hs with rfl | rfl
          · obtain ⟨a, vs, k1, k2, k3, _⟩ := r.own i ds h
            exact ⟨a, vs, k1, k2, k3⟩
          · obtain ⟨a, vs, k1, k2, k3, _⟩ := r.brw i ds h
            exact ⟨a, vs, k1, k2, k3⟩
        obtain ⟨a, vs, k1, k2, k3⟩ := ho
        cases hg : ds.getLast? with
        | none => rw [hg] at p; exact p.elim
        | some d =>
          rw [hg] at p
          rw [List.getLast?_eq_getElem?] at hg
          obtain ⟨v, hv, dv⟩ := k3.get hg
          rw [k3.length] at hv
          obtain ⟨rp, hp⟩ := r.put h hh k1 k3.dropLast
          refine ⟨.ref a, k1, .inl ⟨rfl, vs, .inl (.inl k2)⟩, a, vs, v, rfl, rfl, k2, hv, ?_⟩
          refine p v _ rp ?_ ?_
          · rw [hp]; exact Same.refl _
          · rw [hp]; exact dv
      cases s with
      | own ds => exact go ds (.inl rfl) p
      | brw ds => exact go ds (.inr rfl) p
      | _ => exact p.elim
/-- len(x), x[k] of a held list, which stays held -/
def ePeek (i : Nat) (g : List D → Option D) : FE := fun e => match e[i]? with
  | some (.own ds) | some (.brw ds) => (match g ds with
    | some d => .ok (d, e)
    | none => .err)
  | _ => .err
theorem peek {i : Nat} {A : Act} {σ : L2.St} {e : En} {H : Hp} {g : List D → Option D} {Q : VK} (r : Rep X.K A H σ e) (p : Post X.K X.mg W (Den X.K) A σ e H Q (ePeek i g e)) :
    ∃ ds a vs d, σ[i]? = some (some (.ref a)) ∧ H a = some (.lst vs) ∧ DenL X.K (hid A σ e H) ds vs ∧ g ds = some d ∧ ∀ v, Den X.K (hid A σ e H) d v → Q v H := by
  unfold ePeek at p
  have go : ∀ ds, (e[i]? = some (.own ds) ∨ e[i]? = some (.brw ds)) → Post X.K X.mg W (Den X.K) A σ e H Q (match g ds with
      | some d => .ok (d, e)
      | none => .err) → ∃ ds a vs d, σ[i]? = some (some (.ref a)) ∧ H a = some (.lst vs) ∧ DenL X.K (hid A σ e H) ds vs ∧ g ds = some d ∧ ∀ v, Den X.K (hid A σ e H) d v → Q v H := fun ds hs p => by
    have ho : ∃ a vs, σ[i]? = some (some (.ref a)) ∧ H a = some (.lst vs) ∧ DenL X.K (hid A σ e H) ds vs := by
      rcases hs with h | h
      · obtain ⟨a, vs, k1, k2, k3, _⟩ := r.own i ds h
        exact ⟨a, vs, k1, k2, k3⟩
      · obtain ⟨a, vs, k1, k2, k3, _⟩ := r.brw i ds h
        exact ⟨a, vs, k1, k2, k3⟩
    obtain ⟨a, vs, k1, k2, k3⟩ := ho
    cases hg : g ds with
    | none => rw [hg] at p; exact p.elim
    | some d =>
      rw [hg] at p
      exact ⟨ds, a, vs, d, k1, k2, k3, hg, fun v hv => p v H r (Same.refl _) hv⟩
  cases h : e[i]? with
  | none => rw [h] at p; exact p.elim
  | some s =>
    rw [h] at p
    cases s with
    | own ds => exact go ds (.inl h) p
    | brw ds => exact go ds (.inr h) p
    | _ => exact p.elim
def lenOf : List D → Option D := fun ds => some (.int ds.length)
theorem v_lenHeld (i : Nat) {x : Str} {p p1 : Pos} (hg : Gl X "len") (hm : X.mg "len" = none) (hN : X.N[i]? = some x := by rfl) (hv : Vis X.env.scope x := by first | exact Or.inl rfl | exact Or.inr (Or.inl rfl) | exact Or.inr (Or.inr rfl))
    (hd : (x == ("__debug__" : Str)) = false := by decide) (hcd : (x == ("__classdict__" : Str)) = false := by decide) :
    PE X (.Call (.Name "len" p) [.Name x p1] [] pos) (rE X.K X.mg W (ePeek i lenOf)) :=
  (pe_callB call_len_seq hg hm PySem.boot_len (pa_cons (pe_var hN hv hd hcd) pa_nil)).imp fun σ H Q ⟨A, e, r, p⟩ => by
    obtain ⟨ds, a, vs, d, k1, k2, k3, k4, q⟩ := peek r p
    refine ⟨.ref a, k1, a, vs, rfl, .inl (.inl (.inl k2)), q _ ?_⟩
    simp only [lenOf, Option.some.injEq] at k4
    subst k4
    simp only [Den]
    rw [k3.length]
/-! ### x op= e -/
def RI (K : PySem.W.Frag) (t : TIp) (g : D → D → Option D) : Prop := RB K t g
def sAug (i : Nat) (g : D → D → Option D) (f : FE) : FS := fun e => match e[i]? with
  | some (.val d0) => (f e).bind fun p => match g d0 p.1 with
    | some d => .ok (.nx (p.2.set i (.val d)))
    | none => .err
  | _ => .err
theorem vs_aug (i : Nat) {x : Str} {op : Operator} {t : TIp} {g : D → D → Option D} {pos' : Pos} (hg : RB X.K t g) (ho : PIp X op t) (hN : X.N.Nodup) (ha : PE X a (rE X.K X.mg W fa)) (hi : X.N[i]? = some x := by rfl) (hx : Loc X.env.scope x := by first | exact .inl rfl | exact .inr rfl)
    (hf : X.fn x = true ∨ X.env.scope.names.lookup x = some .local := by first | exact .inl rfl | exact .inr rfl) : PS X (.AugAssign (.Name x pos') op a pos) (rdS X.K X.mg W (sAug i g fa)) :=
  (ps_aug hN hi hx ha ho hf).imp fun D σ H ⟨A, e, r, p⟩ => by
    unfold sAug at p
    cases h : e[i]? with
    | none => rw [h] at p; exact p.elim
    | some s =>
      rw [h] at p
      cases s with
      | val d0 =>
        obtain ⟨v0, h1, h2⟩ := r.val i d0 h
        refine ⟨v0, h1, rd_seqS r p fun d e1 y H1 _ r1 s1 d1 p1 => ?_⟩
        cases h' : g d0 d with
        | none => simp only [h'] at p1; exact p1.elim
        | some d' =>
          simp only [h'] at p1
          refine hg _ H1 d0 d v0 y d' _ hid_sub (Den.mono s1 _ _ h2) d1 h' fun z H2 s2 f2 => ?_
          have dz := f2 (hid A σ e1 H2) (hid_same s2) fun _ _ a b => r1.seen a b
          exact p1 _ H2 ((r1.grow s2).set dz) ((hid_same s2).trans hid_set)
      | _ => exact p.elim
end
end
end Mi
namespace Mi
open PySem PySem.Spec PyProof.Rows L2

/-! ### what a loop walks -/
def JD (K : PySem.W.Frag) (Hh : Hp) (items : List D) (J : It) : Prop := ∀ Hv H : Hp, Same Hh Hv → Same Hv H → ∀ i : Nat,
  (i < items.length → J.go i H) ∧ (∀ d, items[i]? = some d → ∀ x H', J.yld i H x H' → Same H H' ∧ Fresh K Hv H H' d x) ∧ (items.length ≤ i → J.stop i H)
abbrev rI (K : PySem.W.Frag) (mg : Str → Option Value) (W : WX) (f : FA) : TI := rd K mg W (JD K) f
theorem JD.mono {K : PySem.W.Frag} {Hh Hg : Hp} {items : List D} {J : It} (s : Same Hh Hg) (h : JD K Hh items J) : JD K Hg items J := fun Hv H s1 s2 => h Hv H (s.trans s1) s2
section
variable {X : Cx} {W : WX} {tg : Expr} {pos : Pos} {a : Expr} {fa : FE}
theorem jd_list {K : PySem.W.Frag} {Hh : Hp} {ds : List D} {vs : List V} {p : Addr} (h1 : SqL K Hh p vs) (h2 : DenL K Hh ds vs) : JD K Hh ds (Itl K p) := fun Hv H s1 s2 i => by
  have hq : SqL K H p vs := (s1.trans s2).seq h1
  refine ⟨fun hi => ?_, fun d hd x H' y => ?_, fun hi => ⟨vs, hq, by rw [← h2.length]; exact hi⟩⟩
  · rw [h2.length] at hi
    exact ⟨vs, vs[i], hq, List.getElem?_eq_getElem hi⟩
  · obtain ⟨rfl, y⟩ := y
    obtain ⟨v, hv, dv⟩ := h2.get hd
    have := y vs hq
    rw [hv] at this
    cases this
    exact ⟨Same.refl _, Fresh.flat (Den.mono s1 _ _ dv)⟩
theorem jd_tup {K : PySem.W.Frag} {Hh : Hp} {ds : List D} {vs : List V} {p : Addr} (h1 : SqT K Hh p vs) (h2 : DenL K Hh ds vs) : JD K Hh ds (Itt K p) := fun Hv H s1 s2 i => by
  have hq : SqT K H p vs := Same.seqT (s1.trans s2) h1
  refine ⟨fun hi => ?_, fun d hd x H' y => ?_, fun hi => ⟨vs, hq, by rw [← h2.length]; exact hi⟩⟩
  · rw [h2.length] at hi
    exact ⟨vs, vs[i], hq, List.getElem?_eq_getElem hi⟩
  · obtain ⟨rfl, y⟩ := y
    obtain ⟨v, hv, dv⟩ := h2.get hd
    have := y vs hq
    rw [hv] at this
    cases this
    exact ⟨Same.refl _, Fresh.flat (Den.mono s1 _ _ dv)⟩
/-- a list is walked -/
def iL (f : FE) : FA := fun e => (f e).bind fun p => match p.1 with
  | .lst ds => .ok (ds, p.2)
  | .rls ds => .ok (ds, p.2)
  | _ => .err
theorem vi_list (ha : PE X a (rE X.K X.mg W fa)) : PI X tg a (rI X.K X.mg W (iL fa)) :=
  (pi_list ha).imp fun σ H Q ⟨A, e, r, p⟩ => by
    refine rd_seq r p fun d e1 x H1 _ r1 s1 d1 p1 => ?_
    cases d with
    | lst ds =>
      simp only [Den] at d1
      obtain ⟨q, vs, rfl, h1, h2⟩ := d1
      exact ⟨q, rfl, ⟨vs, .inl (.inl (hid_sub _ _ h1))⟩, p1 _ _ r1 (Same.refl _) (jd_list (.inl (.inl h1)) h2)⟩
    | rls ds =>
      simp only [Den] at d1
      obtain ⟨q, vs, rfl, h1, h2⟩ := d1
      exact ⟨q, rfl, ⟨vs, hid_sub.seq h1⟩, p1 _ _ r1 (Same.refl _) (jd_list h1 h2)⟩
    | _ => exact p1.elim
/-- a tuple is walked -/
def iT (f : FE) : FA := fun e => (f e).bind fun p => match p.1 with
  | .tup ds => .ok (ds, p.2)
  | _ => .err
theorem vi_tup (ha : PE X a (rE X.K X.mg W fa)) : PI X tg a (rI X.K X.mg W (iT fa)) :=
  (pi_tup ha).imp fun σ H Q ⟨A, e, r, p⟩ => by
    refine rd_seq r p fun d e1 x H1 _ r1 s1 d1 p1 => ?_
    cases d with
    | tup ds =>
      simp only [Den] at d1
      obtain ⟨q, vs, rfl, h1, h2⟩ := d1
      exact ⟨q, rfl, ⟨vs, Same.seqT hid_sub h1⟩, p1 _ _ r1 (Same.refl _) (jd_tup h1 h2)⟩
    | _ => exact p1.elim
/-- a range -/
def rangeD (lo : Int) (n : Nat) : List D := (List.range n).map fun (k : Nat) => D.int (lo + (k : Int))
theorem rangeD_length {lo : Int} {n : Nat} : (rangeD lo n).length = n := by unfold rangeD; rw [List.length_map, List.length_range]
theorem jd_range {K : PySem.W.Frag} {Hh : Hp} {lo : Int} {n : Nat} : JD K Hh (rangeD lo n) (Itr lo n) := fun Hv H s1 s2 i => by
  refine ⟨fun hi => ?_, fun d hd x H' y => ?_, fun hi => ?_⟩
  · rw [rangeD_length] at hi; exact hi
  · obtain ⟨rfl, rfl⟩ := y
    unfold rangeD at hd
    rw [List.getElem?_map] at hd
    by_cases hi : i < n
    · rw [List.getElem?_range hi] at hd
      simp only [Option.map_some, Option.some.injEq] at hd
      subst hd
      exact ⟨Same.refl _, Fresh.flat (by simp only [Den])⟩
    · rw [List.getElem?_eq_none (by rw [List.length_range]; omega)] at hd
      cases hd
  · rw [rangeD_length] at hi; exact hi
theorem den1 {K : PySem.W.Frag} {H : Hp} {d : D} {vs : List V} (h : DenL K H [d] vs) : ∃ v, vs = [v] ∧ Den K H d v := by
  simp only [DenL] at h
  obtain ⟨v, r, rfl, h, rfl⟩ := h
  exact ⟨v, rfl, h⟩
theorem den2 {K : PySem.W.Frag} {H : Hp} {d d' : D} {vs : List V} (h : DenL K H [d, d'] vs) : ∃ v v', vs = [v, v'] ∧ Den K H d v ∧ Den K H d' v' := by
  simp only [DenL] at h
  obtain ⟨v, r, rfl, h, v', r', rfl, h', rfl⟩ := h
  exact ⟨v, v', rfl, h, h'⟩
theorem den3 {K : PySem.W.Frag} {H : Hp} {d d' d'' : D} {vs : List V} (h : DenL K H [d, d', d''] vs) : ∃ v v' v'', vs = [v, v', v''] ∧ Den K H d v ∧ Den K H d' v' ∧ Den K H d'' v'' := by
  simp only [DenL] at h
  obtain ⟨v, r, rfl, h, v', r', rfl, h', v'', r'', rfl, h'', rfl⟩ := h
  exact ⟨v, v', v'', rfl, h, h', h''⟩
def int? : D → Option Int
  | .int i => some i
  | _ => none
theorem int_some {d : D} {i : Int} (h : int? d = some i) : d = .int i := by
  cases d <;> simp only [int?, Option.some.injEq] at h <;> first | (subst h; rfl) | cases h
def ar1 : List D → Option D
  | [a] => some a
  | _ => none
def ar2 : List D → Option (D × D)
  | [a, b] => some (a, b)
  | _ => none
theorem ar1_some {ds : List D} {a : D} (h : ar1 ds = some a) : ds = [a] := by
  cases ds with
  | nil => cases h
  | cons x r =>
    cases r with
    | nil => simp only [ar1, Option.some.injEq] at h; subst h; rfl
    | cons y r => cases h
theorem ar2_some {ds : List D} {a b : D} (h : ar2 ds = some (a, b)) : ds = [a, b] := by
  cases ds with
  | nil => cases h
  | cons x r =>
    cases r with
    | nil => cases h
    | cons y r =>
      cases r with
      | nil => simp only [ar2, Option.some.injEq, Prod.mk.injEq] at h; obtain ⟨rfl, rfl⟩ := h; rfl
      | cons z r => cases h
/-- within 2 ^ 62 either way; so written that the kernel stops at a j it does not know -/
def r62 : Int → Bool
  | .ofNat n => Nat.ble n 4611686018427387903
  | .negSucc n => Nat.ble n 4611686018427387903
theorem r62_iff {j : Int} : r62 j = true ↔ -4611686018427387904 ≤ j ∧ j < 4611686018427387904 := by
  cases j with
  | ofNat n =>
    show Nat.ble n 4611686018427387903 = true ↔ _
    rw [Nat.ble_eq]
    have : (Int.ofNat n) = (n : Int) := rfl
    omega
  | negSucc n =>
    show Nat.ble n 4611686018427387903 = true ↔ _
    rw [Nat.ble_eq]
    have : Int.negSucc n = -(n : Int) - 1 := by omega
    omega
theorem r62_ok {j : Int} (h : r62 j = true) : -(2 ^ 62) ≤ j ∧ j < 2 ^ 62 := by
  have := r62_iff.1 h
  have e : (2 : Int) ^ 62 = 4611686018427387904 := by decide +kernel
  rw [e]
  exact this
def rn1 (ds : List D) : Option Int := (ar1 ds).bind fun a => (int? a).bind fun j => if r62 j = true then some j else none
def rn2 (ds : List D) : Option (Int × Int) := (ar2 ds).bind fun q => (int? q.1).bind fun i => (int? q.2).bind fun j => if r62 i = true ∧ r62 j = true then some (i, j) else none
theorem rn1_some {ds : List D} {j : Int} (h : rn1 ds = some j) : ds = [.int j] ∧ r62 j = true := by
  unfold rn1 at h
  cases e : ar1 ds with
  | none => rw [e] at h; cases h
  | some a =>
    rw [e, Option.bind_some] at h
    cases k : int? a with
    | none => rw [k] at h; cases h
    | some i =>
      rw [k, Option.bind_some] at h
      by_cases c : r62 i = true
      · rw [if_pos c] at h
        cases h
        rw [ar1_some e, int_some k]
        exact ⟨rfl, c⟩
      · rw [if_neg c] at h
        cases h
theorem rn2_some {ds : List D} {i j : Int} (h : rn2 ds = some (i, j)) : ds = [.int i, .int j] ∧ r62 i = true ∧ r62 j = true := by
  unfold rn2 at h
  cases e : ar2 ds with
  | none => rw [e] at h; cases h
  | some q =>
    obtain ⟨a, b⟩ := q
    rw [e, Option.bind_some] at h
    cases k : int? a with
    | none => simp only [k, Option.bind_none] at h; cases h
    | some i =>
      cases k2 : int? b with
      | none => simp only [k, k2, Option.bind_some, Option.bind_none] at h; cases h
      | some j =>
        simp only [k, k2, Option.bind_some] at h
        by_cases c : r62 i = true ∧ r62 j = true
        · rw [if_pos c] at h
          cases h
          rw [ar2_some e, int_some k, int_some k2]
          exact ⟨rfl, c⟩
        · rw [if_neg c] at h
          cases h
def iR1 (f : FA) : FA := fun e => (f e).bind fun p => match rn1 p.1 with
  | some j => .ok (rangeD 0 j.toNat, p.2)
  | none => .err
def iR2 (f : FA) : FA := fun e => (f e).bind fun p => match rn2 p.1 with
  | some q => .ok (rangeD q.1 (q.2 - q.1).toNat, p.2)
  | none => .err
theorem vi_range1 {p : Pos} {f : FA} (hg : Gl X "range") (hm : X.mg "range" = none) (ha : PA X [a] (rA X.K X.mg W f)) (hs : starEach [a] X.env = [(false, eval a X.env)] := by rfl) : PI X tg (.Call (.Name "range" p) [a] [] pos) (rI X.K X.mg W (iR1 f)) :=
  (pi_range1 hg hm ha hs).imp fun σ H Q ⟨A, e, r, p⟩ => by
    refine rd_seq r p fun ds e1 x H1 _ r1 s1 d1 p1 => ?_
    cases q : rn1 ds with
    | none => simp only [q] at p1; exact p1.elim
    | some j =>
      simp only [q] at p1
      obtain ⟨rfl, c⟩ := rn1_some q
      obtain ⟨v, rfl, h⟩ := den1 d1
      rw [den_int h]
      exact ⟨j, rfl, (r62_ok c).1, (r62_ok c).2, p1 _ _ r1 (Same.refl _) jd_range⟩
theorem vi_range2 {b : Expr} {p : Pos} {f : FA} (hg : Gl X "range") (hm : X.mg "range" = none) (ha : PA X [a, b] (rA X.K X.mg W f)) (hs : starEach [a, b] X.env = [(false, eval a X.env), (false, eval b X.env)] := by rfl) (hs2 : starEach [b] X.env = [(false, eval b X.env)] := by rfl) :
    PI X tg (.Call (.Name "range" p) [a, b] [] pos) (rI X.K X.mg W (iR2 f)) :=
  (pi_range2 hg hm ha hs hs2).imp fun σ H Q ⟨A, e, r, p⟩ => by
    refine rd_seq r p fun ds e1 x H1 _ r1 s1 d1 p1 => ?_
    cases q : rn2 ds with
    | none => simp only [q] at p1; exact p1.elim
    | some ij =>
      obtain ⟨i, j⟩ := ij
      simp only [q] at p1
      obtain ⟨rfl, c, c'⟩ := rn2_some q
      obtain ⟨v, v', rfl, h, h'⟩ := den2 d1
      rw [den_int h, den_int h']
      exact ⟨i, j, rfl, ⟨(r62_ok c).1, (r62_ok c).2, (r62_ok c').1, (r62_ok c').2⟩, p1 _ _ r1 (Same.refl _) jd_range⟩
/-- the signs of a text -/
def signs (x : Str) : List D := x.cps.toList.map fun c => D.str ⟨#[c]⟩
theorem jd_str {K : PySem.W.Frag} {Hh : Hp} {x : Str} : JD K Hh (signs x) (Its x) := fun Hv H s1 s2 i => by
  have hl : (signs x).length = x.cps.size := by unfold signs; rw [List.length_map]; simp
  refine ⟨fun hi => ?_, fun d hd y H' z => ?_, fun hi => ?_⟩
  · rw [hl] at hi; exact hi
  · obtain ⟨rfl, c, hc, rfl⟩ := z
    unfold signs at hd
    rw [List.getElem?_map, Array.getElem?_toList, hc] at hd
    simp only [Option.map_some, Option.some.injEq] at hd
    subst hd
    exact ⟨Same.refl _, Fresh.flat (by simp only [Den])⟩
  · rw [hl] at hi; exact hi
def iS (f : FE) : FA := fun e => (f e).bind fun p => match p.1 with
  | .str x => .ok (signs x, p.2)
  | _ => .err
theorem vi_str (ha : PE X a (rE X.K X.mg W fa)) : PI X tg a (rI X.K X.mg W (iS fa)) :=
  (pi_str ha).imp fun σ H Q ⟨A, e, r, p⟩ => by
    refine rd_seq r p fun d e1 x H1 _ r1 s1 d1 p1 => ?_
    cases d with
    | str z => exact ⟨z, den_str d1, p1 _ _ r1 (Same.refl _) jd_str⟩
    | _ => exact p1.elim
/-- zip of two lists, enumerate of a list -/
def zipD : List D → List D → List D
  | a :: as, b :: bs => .tup [a, b] :: zipD as bs
  | _, _ => []
theorem zipD_get : ∀ {as bs : List D} {i : Nat} {d : D}, (zipD as bs)[i]? = some d → ∃ a b, as[i]? = some a ∧ bs[i]? = some b ∧ d = .tup [a, b]
  | [], _, _, _, h => by simp [zipD] at h
  | _ :: _, [], _, _, h => by simp [zipD] at h
  | a :: as, b :: bs, 0, d, h => by
    simp only [zipD, List.getElem?_cons_zero, Option.some.injEq] at h
    exact ⟨a, b, rfl, rfl, h.symm⟩
  | a :: as, b :: bs, i + 1, d, h => by
    simp only [zipD, List.getElem?_cons_succ] at h ⊢
    exact zipD_get h
theorem zipD_length : ∀ as bs : List D, (zipD as bs).length = min as.length bs.length
  | [], _ => by simp [zipD]
  | _ :: _, [] => by simp [zipD]
  | a :: as, b :: bs => by simp only [zipD, List.length_cons, zipD_length as bs]; omega
theorem fresh_tup2 {K : PySem.W.Frag} {Hh H : Hp} {d d' : D} {v v' : V} {p : Addr} (hp : H p = none) (h : Den K Hh d v) (h' : Den K Hh d' v') : Fresh K Hh H (upd H p (.tup [v, v'])) (.tup [d, d']) (.ref p) :=
  Fresh.tup hp (DenL.cons h (DenL.cons h' DenL.nil))
theorem jd_zip {K : PySem.W.Frag} {Hh : Hp} {as bs : List D} {vs us : List V} {p q : Addr} (h1 : SqL K Hh p vs) (h2 : DenL K Hh as vs) (h3 : SqL K Hh q us) (h4 : DenL K Hh bs us) : JD K Hh (zipD as bs) (Itz K p q) := fun Hv H s1 s2 i => by
  have k1 : SqL K H p vs := (s1.trans s2).seq h1
  have k3 : SqL K H q us := (s1.trans s2).seq h3
  refine ⟨fun hi => ?_, fun d hd x H' y => ?_, fun hi => ?_⟩
  · rw [zipD_length, h2.length, h4.length] at hi
    have i1 : i < vs.length := by omega
    have i2 : i < us.length := by omega
    exact ⟨vs, us, vs[i], us[i], k1, k3, List.getElem?_eq_getElem i1, List.getElem?_eq_getElem i2⟩
  · obtain ⟨a, b, ha, hb, rfl⟩ := zipD_get hd
    obtain ⟨T, x1, x2, rfl, nT, rfl, f1, f2⟩ := y
    obtain ⟨v, hv, dv⟩ := h2.get ha
    obtain ⟨u, hu, du⟩ := h4.get hb
    have e1 := f1 vs k1
    rw [hv] at e1
    cases e1
    have e2 := f2 us k3
    rw [hu] at e2
    cases e2
    exact ⟨same_upd nT, fresh_tup2 nT (Den.mono s1 _ _ dv) (Den.mono s1 _ _ du)⟩
  · rw [zipD_length, h2.length, h4.length] at hi
    refine ⟨vs, us, k1, k3, ?_⟩
    omega
def lst? : D → Option (List D)
  | .lst ds => some ds
  | .rls ds => some ds
  | _ => none
theorem den_lst? {K : PySem.W.Frag} {H : Hp} {d : D} {ds : List D} {v : V} (h : Den K H d v) (e : lst? d = some ds) : ∃ p vs, v = .ref p ∧ SqL K H p vs ∧ DenL K H ds vs := by
  cases d with
  | lst es =>
    simp only [lst?, Option.some.injEq] at e
    subst e
    simp only [Den] at h
    obtain ⟨p, vs, rfl, h1, h2⟩ := h
    exact ⟨p, vs, rfl, .inl (.inl h1), h2⟩
  | rls es =>
    simp only [lst?, Option.some.injEq] at e
    subst e
    simp only [Den] at h
    obtain ⟨p, vs, rfl, h1, h2⟩ := h
    exact ⟨p, vs, rfl, h1, h2⟩
  | _ => cases e
def zp2 (ds : List D) : Option (List D × List D) := (ar2 ds).bind fun q => (lst? q.1).bind fun as => (lst? q.2).bind fun bs => some (as, bs)
theorem zp2_some {ds as bs : List D} (h : zp2 ds = some (as, bs)) : ∃ a b, ds = [a, b] ∧ lst? a = some as ∧ lst? b = some bs := by
  unfold zp2 at h
  cases e : ar2 ds with
  | none => rw [e] at h; cases h
  | some q =>
    obtain ⟨a, b⟩ := q
    rw [e, Option.bind_some] at h
    cases k : lst? a with
    | none => simp only [k, Option.bind_none] at h; cases h
    | some i =>
      cases k2 : lst? b with
      | none => simp only [k, k2, Option.bind_some, Option.bind_none] at h; cases h
      | some j =>
        simp only [k, k2, Option.bind_some, Option.some.injEq, Prod.mk.injEq] at h
        obtain ⟨rfl, rfl⟩ := h
        exact ⟨a, b, ar2_some e, k, k2⟩
def iZ (f : FA) : FA := fun e => (f e).bind fun p => match zp2 p.1 with
  | some q => .ok (zipD q.1 q.2, p.2)
  | none => .err
theorem vi_zip {b : Expr} {p tpos : Pos} {elts : List Expr} {kk : Nat} {f : FA} (hg : Gl X "zip") (hm : X.mg "zip" = none) (ha : PA X [a, b] (rA X.K X.mg W f)) (hs : starEach [a, b] X.env = (false, eval a X.env) :: starEach [b] X.env := by rfl)
    (hpl : (backTo pos (starEach [b] X.env)).any (·.1) = false := by rfl) : PI X (.Tuple elts kk tpos) (.Call (.Name "zip" p) [a, b] [] pos) (rI X.K X.mg W (iZ f)) :=
  (pi_zip hg hm ha hs hpl).imp fun σ H Q ⟨A, e, r, p⟩ => by
    refine rd_seq r p fun ds e1 x H1 _ r1 s1 d1 p1 => ?_
    cases z : zp2 ds with
    | none => simp only [z] at p1; exact p1.elim
    | some z' =>
          obtain ⟨as, bs⟩ := z'
          simp only [z] at p1
          obtain ⟨a', b', rfl, ea, eb⟩ := zp2_some z
          obtain ⟨v, v', rfl, h, h'⟩ := den2 d1
          obtain ⟨q, vs, rfl, k1, k2⟩ := den_lst? h ea
          obtain ⟨q', us, rfl, k3, k4⟩ := den_lst? h' eb
          exact ⟨q, q', vs, us, rfl, hid_sub.seq k1, hid_sub.seq k3, p1 _ _ r1 (Same.refl _) (jd_zip k1 k2 k3 k4)⟩
def enumD : Nat → List D → List D
  | k, a :: as => .tup [.int (k : Nat), a] :: enumD (k + 1) as
  | _, [] => []
theorem enumD_get : ∀ {as : List D} {k i : Nat} {d : D}, (enumD k as)[i]? = some d → ∃ a, as[i]? = some a ∧ d = .tup [.int ((k + i : Nat) : Int), a]
  | [], _, _, _, h => by simp [enumD] at h
  | a :: as, k, 0, d, h => by
    simp only [enumD, List.getElem?_cons_zero, Option.some.injEq] at h
    exact ⟨a, rfl, by rw [← h]; simp⟩
  | a :: as, k, i + 1, d, h => by
    simp only [enumD, List.getElem?_cons_succ] at h ⊢
    obtain ⟨b, h1, h2⟩ := enumD_get h
    exact ⟨b, h1, by rw [h2]; congr 2; congr 1; omega⟩
theorem enumD_length : ∀ (as : List D) (k : Nat), (enumD k as).length = as.length
  | [], _ => rfl
  | a :: as, k => by simp only [enumD, List.length_cons, enumD_length as]
theorem jd_enum {K : PySem.W.Frag} {Hh : Hp} {as : List D} {vs : List V} {p : Addr} (h1 : SqL K Hh p vs) (h2 : DenL K Hh as vs) : JD K Hh (enumD 0 as) (Ite K p) := fun Hv H s1 s2 i => by
  have k1 : SqL K H p vs := (s1.trans s2).seq h1
  refine ⟨fun hi => ?_, fun d hd x H' y => ?_, fun hi => ?_⟩
  · rw [enumD_length, h2.length] at hi
    exact ⟨vs, vs[i], k1, List.getElem?_eq_getElem hi⟩
  · obtain ⟨a, ha, rfl⟩ := enumD_get hd
    obtain ⟨T, x1, rfl, nT, rfl, f1⟩ := y
    obtain ⟨v, hv, dv⟩ := h2.get ha
    have e1 := f1 vs k1
    rw [hv] at e1
    cases e1
    exact ⟨same_upd nT, fresh_tup2 nT (by simp only [Den, Nat.zero_add]) (Den.mono s1 _ _ dv)⟩
  · rw [enumD_length, h2.length] at hi
    exact ⟨vs, k1, hi⟩
def en1 (ds : List D) : Option (List D) := (ar1 ds).bind lst?
theorem en1_some {ds as : List D} (h : en1 ds = some as) : ∃ a, ds = [a] ∧ lst? a = some as := by
  unfold en1 at h
  cases e : ar1 ds with
  | none => rw [e] at h; cases h
  | some q =>
    rw [e, Option.bind_some] at h
    exact ⟨q, ar1_some e, h⟩
def iEn (f : FA) : FA := fun e => (f e).bind fun p => match en1 p.1 with
  | some as => .ok (enumD 0 as, p.2)
  | none => .err
theorem vi_enum {p tpos : Pos} {elts : List Expr} {kk : Nat} {f : FA} (hg : Gl X "enumerate") (hm : X.mg "enumerate" = none) (ha : PA X [a] (rA X.K X.mg W f)) (hs : starEach [a] X.env = [(false, eval a X.env)] := by rfl) :
    PI X (.Tuple elts kk tpos) (.Call (.Name "enumerate" p) [a] [] pos) (rI X.K X.mg W (iEn f)) :=
  (pi_enum hg hm ha hs).imp fun σ H Q ⟨A, e, r, p⟩ => by
    refine rd_seq r p fun ds e1 x H1 _ r1 s1 d1 p1 => ?_
    cases z : en1 ds with
    | none => simp only [z] at p1; exact p1.elim
    | some as =>
        simp only [z] at p1
        obtain ⟨a', rfl, ea⟩ := en1_some z
        obtain ⟨v, rfl, h⟩ := den1 d1
        obtain ⟨q, vs, rfl, k1, k2⟩ := den_lst? h ea
        exact ⟨q, vs, rfl, hid_sub.seq k1, p1 _ _ r1 (Same.refl _) (jd_enum k1 k2)⟩

/-! ### for -/
def forF (G : TD) (b : FS) : List D → En → R Fl
  | [], e => .ok (.nx e)
  | d :: ds, e => match G d e with
    | none => .err
    | some e1 => match b e1 with
      | .ok (.nx e2) => forF G b ds e2
      | .ok (.ct e2) => forF G b ds e2
      | .ok (.bk e2) => .ok (.nx e2)
      | .ok (.rt d e2) => .ok (.rt d e2)
      | .ok (.rn ds e2) => .ok (.rn ds e2)
      | .exc c e2 => .exc c e2
      | .err => .err
def sFor (it : FA) (G : TD) (b : FS) : FS := fun e => (it e).bind fun p => forF G b p.1 p.2
theorem vs_for {iter : Expr} {body : List Stmt} {it : FA} {G : TD} {js : List Nat} {b : FS} (hp : PassesOwn (model X.prog X.w) X.A X.env X.xe) (hc : X.calm = true) (hi : PI X tg iter (rI X.K X.mg W it)) (hg : PG X tg (rdG X.K G js)) (hb : PSs X body (rdS X.K X.mg W b))
    (hs : ∀ x, foldedSetIterable iter X.env x = pure x := by intro _; rfl) : PS X (.For tg iter body [] pos) (rdS X.K X.mg W (sFor it G b)) :=
  (ps_for hp hc hi hg hb hs).imp fun D σ H ⟨A, e, r, p⟩ => by
    refine rd_seqS r p fun items e1 J H1 _ r1 s1 jd p1 => ?_
    refine ⟨fun i m σ' H' => m = items.length - i ∧ ∃ e', Rep X.K A H' σ' e' ∧ Same (hid A σ e1 H1) (hid A σ' e' H') ∧ PostS X.K X.mg W D A σ' e' H' (forF G b (items.drop i) e'),
      ⟨items.length, by simp, e1, r1, Same.refl _, p1⟩, ?_⟩
    rintro i m σ' H' ⟨rfl, e', r', s', p'⟩
    obtain ⟨j1, j2, j3⟩ := jd _ H' s' hid_sub i
    by_cases hi : i < items.length
    · refine .inr ⟨j1 hi, fun σ2 H2 => ∃ e2, Rep X.K A H2 σ2 e2 ∧ Same (hid A σ e1 H1) (hid A σ2 e2 H2) ∧ PostS X.K X.mg W D A σ2 e2 H2 (forF G b (items.drop (i + 1)) e2), fun σ2 H2 ⟨e2, q1, q2, q3⟩ => ⟨items.length - (i + 1), by omega, rfl, e2, q1, q2, q3⟩, fun x H2 y => ?_⟩
      have hd : items[i]? = some items[i] := List.getElem?_eq_getElem hi
      obtain ⟨sy, fy⟩ := j2 _ hd x H2 y
      have r2 := r'.grow sy
      have dx := fy (hid A σ' e' H2) (hid_same sy) fun _ _ a b => r'.seen a b
      rw [List.drop_eq_getElem_cons hi] at p'
      unfold forF at p'
      cases hG : G items[i] e' with
      | none => rw [hG] at p'; exact p'.elim
      | some e2 =>
        rw [hG] at p'
        refine ⟨A, e', items[i], r2, dx, e2, hG, fun σ3 r3 s3 _ _ => ?_⟩
        have s13 : Same (hid A σ e1 H1) (hid A σ3 e2 H2) := s'.trans ((hid_same sy).trans s3)
        have p3 := PostS.shift (σ1 := σ3) (e1 := e2) (H1 := H2) ((hid_same sy).trans s3) p'
        refine ⟨A, e2, r3, ?_⟩
        revert p3
        dsimp only
        cases b e2 with
        | ok f =>
          cases f with
          | nx e4 => exact fun p3 σ4 H4 r4 s4 => ⟨e4, r4, s13.trans s4, PostS.shift s4 p3⟩
          | ct e4 => exact fun p3 σ4 H4 r4 s4 => ⟨e4, r4, s13.trans s4, PostS.shift s4 p3⟩
          | bk e4 => exact fun p3 => p3
          | rt d e4 => exact fun p3 => p3
          | rn ds e4 => exact fun p3 => p3
        | exc c e4 => exact fun p3 => p3
        | err => exact fun p3 => p3
    · refine .inl ⟨j3 (by omega), ?_⟩
      rw [List.drop_eq_nil_of_le (by omega)] at p'
      exact p' σ' H' r' (Same.refl _)
/-! ### while -/
def whF (c : FT) (b : FS) : Nat → En → R Fl
  | 0, _ => .err
  | n + 1, e => match c e with
    | .ok (true, e1) => (match b e1 with
      | .ok (.nx e2) => whF c b n e2
      | .ok (.ct e2) => whF c b n e2
      | .ok (.bk e2) => .ok (.nx e2)
      | .ok (.rt d e2) => .ok (.rt d e2)
      | .ok (.rn ds e2) => .ok (.rn ds e2)
      | .exc c e2 => .exc c e2
      | .err => .err)
    | .ok (false, e1) => .ok (.nx e1)
    | .exc c e1 => .exc c e1
    | .err => .err
theorem vs_while {c : Expr} {body : List Stmt} {fc : FT} {b : FS} (n : Nat) (hp : PassesOwn (model X.prog X.w) X.A X.env X.xe) (hc : PT X c (rT X.K X.mg W fc)) (hb : PSs X body (rdS X.K X.mg W b)) : PS X (.While c body [] pos) (rdS X.K X.mg W (whF fc b n)) :=
  (ps_while hp hc hb).imp fun D σ H ⟨A, e, r, p⟩ => by
    refine ⟨fun m σ' H' => ∃ e', Rep X.K A H' σ' e' ∧ PostS X.K X.mg W D A σ' e' H' (whF fc b m e'), ⟨n, e, r, p⟩, ?_⟩
    rintro m σ' H' ⟨e', r', p'⟩
    refine ⟨A, e', r', ?_⟩
    cases m with
    | zero => exact p'.elim
    | succ m =>
      unfold whF at p'
      revert p'
      cases fc e' with
      | ok z =>
        obtain ⟨k, e1⟩ := z
        cases k with
        | false =>
          intro p' k H1 r1 s1 hk
          subst hk
          exact iteF (p' σ' H1 r1 s1)
        | true =>
          intro p' k H1 r1 s1 hk
          subst hk
          have p1 := PostS.shift (σ1 := σ') (e1 := e1) (H1 := H1) s1 p'
          refine iteT ⟨fun σ2 H2 => ∃ e2, Rep X.K A H2 σ2 e2 ∧ PostS X.K X.mg W D A σ2 e2 H2 (whF fc b m e2), fun σ2 H2 q => ⟨m, Nat.lt_succ_self m, q⟩, A, e1, r1, ?_⟩
          revert p1
          dsimp only
          cases b e1 with
          | ok f =>
            cases f with
            | nx e4 => exact fun p3 σ4 H4 r4 s4 => ⟨e4, r4, PostS.shift s4 p3⟩
            | ct e4 => exact fun p3 σ4 H4 r4 s4 => ⟨e4, r4, PostS.shift s4 p3⟩
            | bk e4 => exact fun p3 => p3
            | rt d e4 => exact fun p3 => p3
            | rn ds e4 => exact fun p3 => p3
          | exc c e4 => exact fun p3 => p3
          | err => exact fun p3 => p3
      | exc c e1 => exact fun p' H1 r1 => p' σ' H1 r1
      | err => exact fun p' => p'
end
end Mi
namespace Mi
open PySem PySem.Spec PyProof.Rows L2

/-! ### list comprehensions -/
def lcF (vs : List Nat) (G : TD) (c : FT) (f : FE) : List D → En → R (List D × En)
  | [], e => .ok ([], e)
  | d :: ds, e => match G d e with
    | none => .err
    | some e1 => match c e1 with
      | .ok (true, e2) => (match f e2 with
        | .ok (y, e3) => (match lcF vs G c f ds (wipeE e3 vs) with
          | .ok (ys, e4) => .ok (y :: ys, e4)
          | _ => .err)
        | _ => .err)
      | .ok (false, e2) => lcF vs G c f ds (wipeE e2 vs)
      | _ => .err
def resE (e0 e : En) : List Nat → En
  | [] => e
  | v :: vs => (resE e0 e vs).set v ((e0[v]?).getD .un)
def okW (e0 : En) (vs : List Nat) : Bool := vs.all fun v => match e0[v]? with
  | some (.own _) => false
  | some (.brw _) => false
  | _ => true
theorem resE_length (e0 e : En) : ∀ vs : List Nat, (resE e0 e vs).length = e.length
  | [] => rfl
  | v :: vs => by unfold resE; rw [List.length_set, resE_length e0 e vs]
theorem resE_out {e0 e : En} {i : Nat} : ∀ {vs : List Nat}, i ∉ vs → (resE e0 e vs)[i]? = e[i]?
  | [], _ => rfl
  | v :: vs, h => by
    simp only [List.mem_cons, not_or] at h
    unfold resE
    rw [List.getElem?_set_ne (fun x => h.1 x.symm), resE_out h.2]
theorem resE_in {e0 e : En} {i : Nat} {s : Sl} : ∀ {vs : List Nat}, i ∈ vs → (resE e0 e vs)[i]? = some s → s = (e0[i]?).getD .un
  | [], h, _ => by simp at h
  | v :: vs, h, hs => by
    unfold resE at hs
    by_cases hi : v = i
    · subst hi
      by_cases hv : v < (resE e0 e vs).length
      · rw [List.getElem?_set_self hv] at hs; cases hs; rfl
      · rw [List.getElem?_eq_none (by simpa using hv)] at hs; cases hs
    · rw [List.getElem?_set_ne hi] at hs
      rcases List.mem_cons.mp h with x | x
      · exact absurd x.symm hi
      · exact resE_in x hs
def nLc (it : FA) (vs : List Nat) (G : TD) (c : FT) (f : FE) : FA := fun e => (it e).bind fun p => match lcF vs G c f p.1 (wipeE p.2 vs) with
  | .ok q => if q.1.length ≤ lim ∧ okW p.2 vs = true then .ok (q.1, resE p.2 q.2 vs) else .err
  | _ => .err
abbrev W0 : WX := fun _ _ _ _ => False
def tYes1 : FT := fun e => .ok (true, e)
theorem wipe_eq {σ σ' : L2.St} {vs : List Nat} (hl : σ'.length = σ.length) (h : ∀ j, j ∉ vs → σ'[j]? = (wipe σ vs)[j]?) : wipe σ' vs = wipe σ vs := by
  apply List.ext_getElem?
  intro j
  by_cases hj : j ∈ vs
  · have key : ∀ (τ : L2.St) (ws : List Nat), j ∈ ws → (wipe τ ws)[j]? = if j < τ.length then some none else none := by
      intro τ ws
      induction ws with
      | nil => intro z; simp at z
      | cons w ws ih =>
        intro z
        unfold wipe
        by_cases hw : w = j
        · subst hw
          by_cases q : w < τ.length
          · rw [List.getElem?_set_self (by rw [wipe_length]; exact q), if_pos q]
          · rw [List.getElem?_eq_none (by rw [List.length_set, wipe_length]; omega), if_neg q]
        · rw [List.getElem?_set_ne hw]
          exact ih ((List.mem_cons.mp z).resolve_left fun x => hw x.symm)
    rw [key _ _ hj, key _ _ hj, hl]
  · rw [wipe_get hj, h j hj]
section
variable {X : Cx} {W : WX} {pos : Pos}
theorem rLc_of {it : FA} {G : TD} {js : List Nat} {c : FT} {f : FE} {vs : List Nat} (hj : ∀ j ∈ js, j ∈ vs) : ∀ (σ : L2.St) (H : Hp) (Q : VK), rN X.K X.mg W (nLc it vs G c f) σ H Q →
    tLc (rI X.K X.mg W it) (rdG X.K G js) (rT X.K X.mg W0 c) (rE X.K X.mg W0 f) vs σ H Q := fun σ H Q ⟨A, e, r, p⟩ => by
  refine rN_seq r p fun items e1 J H1 _ r1 s1 jd p1 => ?_
  intro D hD
  cases q : lcF vs G c f items (wipeE e1 vs) with
  | err => simp only [q] at p1; exact p1.elim
  | exc _ _ => simp only [q] at p1; exact p1.elim
  | ok z =>
    obtain ⟨fi, ef⟩ := z
    simp only [q] at p1
    by_cases hc : fi.length ≤ lim ∧ okW e1 vs = true
    case neg =>
      rw [if_neg hc] at p1
      exact p1.elim
    rw [if_pos hc] at p1
    have od := r1.old hD
    refine ⟨fun i m H' => m = items.length - i ∧ ∃ e' acc accV ys, Rep X.K (A.build D accV) H' (wipe σ vs) e' ∧ DenL X.K (hid (A.build D accV) (wipe σ vs) e' H') acc accV ∧
        Same (hid A σ e1 H1) (hid (A.build D accV) (wipe σ vs) e' H') ∧ lcF vs G c f (items.drop i) e' = .ok (ys, ef) ∧ acc ++ ys = fi, ⟨items.length, by simp, wipeE e1 vs, [], [], fi, ?_, DenL.nil, ?_, q, rfl⟩, ?_⟩
    · exact (r1.build [] hD).part (sub_wipe r1.len)
    · have := (sub_wipe (vs := vs) r1.len).hid (A := A.build D []) (H := upd H1 D (.lst []))
      rw [hid_build r1 hD] at this
      exact this
    rintro i m H' ⟨rfl, e', acc, accV, ys, r', da, s', hl, hf⟩
    obtain ⟨j1, j2, j3⟩ := jd _ H' s' hid_sub i
    by_cases hi : i < items.length
    · refine .inr ⟨j1 hi, fun H2 => ∃ e2 acc accV ys, Rep X.K (A.build D accV) H2 (wipe σ vs) e2 ∧ DenL X.K (hid (A.build D accV) (wipe σ vs) e2 H2) acc accV ∧
        Same (hid A σ e1 H1) (hid (A.build D accV) (wipe σ vs) e2 H2) ∧ lcF vs G c f (items.drop (i + 1)) e2 = .ok (ys, ef) ∧ acc ++ ys = fi, fun H2 h => ⟨items.length - (i + 1), by omega, rfl, h⟩, fun x H2 y => ?_⟩
      have hd : items[i]? = some items[i] := List.getElem?_eq_getElem hi
      obtain ⟨sy, fy⟩ := j2 _ hd x H2 y
      have r2 := r'.grow sy
      have dx := fy (hid (A.build D accV) (wipe σ vs) e' H2) (hid_same sy) fun _ _ a b => r'.seen a b
      rw [List.drop_eq_getElem_cons hi] at hl
      unfold lcF at hl
      cases hG : G items[i] e' with
      | none => rw [hG] at hl; cases hl
      | some e2 =>
        rw [hG] at hl
        dsimp only at hl
        refine ⟨A.build D accV, e', items[i], r2, dx, e2, hG, fun σ2 r3 s3 l3 k3 => ?_⟩
        have we : wipe σ2 vs = wipe σ vs := wipe_eq (l3.trans (wipe_length σ vs)) fun j h => k3 j fun z => h (hj j z)
        refine ⟨we, A.build D accV, e2, r3, ?_⟩
        have s13 : Same (hid A σ e1 H1) (hid (A.build D accV) σ2 e2 H2) := s'.trans ((hid_same sy).trans s3)
        have da3 := DenL.mono ((hid_same sy).trans s3) _ _ da
        revert hl
        cases c e2 with
        | err => exact fun hl => nomatch hl
        | exc _ _ => exact fun hl => nomatch hl
        | ok z =>
          obtain ⟨k, e4⟩ := z
          intro hl b H4 r4 s4 hb
          subst hb
          cases b with
          | false =>
            refine iteF ⟨wipeE e4 vs, acc, accV, ys, ?_, ?_, ?_, hl, hf⟩
            · rw [← we]; exact r4.part (sub_wipe r4.len)
            · rw [← we]; exact DenL.mono (s4.trans (sub_wipe r4.len).hid) _ _ da3
            · rw [← we]; exact s13.trans (s4.trans (sub_wipe r4.len).hid)
          | true =>
            refine iteT ⟨A.build D accV, e4, r4, ?_⟩
            revert hl
            dsimp only
            cases f e4 with
            | err => exact fun hl => nomatch hl
            | exc _ _ => exact fun hl => nomatch hl
            | ok z =>
              obtain ⟨y1, e5⟩ := z
              dsimp only
              intro hl yv H5 r5 s5 dy
              cases hr : lcF vs G c f (items.drop (i + 1)) (wipeE e5 vs) with
              | err => rw [hr] at hl; cases hl
              | exc _ _ => rw [hr] at hl; cases hl
              | ok z =>
                obtain ⟨ys', e6⟩ := z
                rw [hr] at hl
                cases hl
                have da5 := DenL.mono (s4.trans s5) _ _ da3
                have hz : acc.length < lim := by
                  have := congrArg List.length hf
                  rw [List.length_append, List.length_cons] at this
                  have := hc.1
                  omega
                have hb := hid_bput (ws := accV ++ [yv]) (o := .lst (accV ++ [yv])) r5
                refine ⟨accV, r5.notOwn.2.2, by rw [← da5.length, ← lim_eq]; exact hz, wipeE e5 vs, acc ++ [y1], accV ++ [yv], ys', ?_, ?_, ?_, hr, by rw [List.append_assoc]; exact hf⟩
                · rw [← we]; exact (r5.bput (accV ++ [yv])).part (sub_wipe r5.len)
                · rw [← we]
                  refine DenL.mono (sub_wipe r5.len).hid _ _ ?_
                  rw [hb]
                  exact DenL.append da5 (DenL.cons dy DenL.nil)
                · rw [← we]
                  refine (s13.trans (s4.trans s5)).trans ?_
                  rw [← hb]
                  exact (sub_wipe r5.len).hid
    · refine .inl ⟨j3 (by omega), ?_⟩
      rw [List.drop_eq_nil_of_le (by omega)] at hl
      unfold lcF at hl
      injection hl with hl3
      injection hl3 with hy hee
      subst hy
      rw [List.append_nil] at hf
      subst hf
      rw [← hee] at p1
      have hlen : e'.length = e1.length := by rw [← r'.len, wipe_length, r1.len]
      obtain ⟨rv, sv⟩ := r'.vals (σ' := σ) (e' := resE e1 e' vs) (by rw [resE_length, hlen, ← r1.len]) fun j s hs => by
        by_cases hv : j ∈ vs
        · have es := resE_in hv hs
          cases h1 : e1[j]? with
          | none => rw [h1] at es; exact .inl es
          | some s1 =>
            rw [h1] at es
            have ok := (List.all_eq_true.mp hc.2) j hv
            rw [h1] at ok
            cases s1 with
            | un => exact .inl es
            | val d =>
              obtain ⟨v, k1, k2⟩ := r1.val j d h1
              exact .inr (.inr ⟨d, v, es, k1, Den.mono s' _ _ k2⟩)
            | own ds => cases ok
            | brw ds => cases ok
        · rw [resE_out hv] at hs
          exact .inr (.inl ⟨hs, (wipe_get hv).symm⟩)
      exact p1 D accV H' od rv (s'.trans sv) (DenL.mono sv _ _ da)
theorem n_lc {elt tg iter : Expr} {ifs : List Expr} {scope : Scope} {own : List (Str × Nat)} {it : FA} {G : TD} {js : List Nat} {c : FT} {f : FE} (hc : X.calm = true) (hN : X.N.Nodup) (hi : PI X tg iter (rI X.K X.mg W it)) (ok : blkC X.N X.env.scope scope own = true)
    (hg : ∀ (s : Shared) (H : Hp) (C : Addr) (cl : List (Str × Addr)) (fp : List Addr), PG (X.blk s H scope (compEnvC scope cl C X.env) fp) tg (rdG X.K G js))
    (ht : ∀ (s : Shared) (H : Hp) (C : Addr) (cl : List (Str × Addr)) (fp : List Addr), PTs (X.blk s H scope (compEnvC scope cl C X.env) fp) ifs (rT X.K X.mg W0 c))
    (he : ∀ (s : Shared) (H : Hp) (C : Addr) (cl : List (Str × Addr)) (fp : List Addr), PE (X.blk s H scope (compEnvC scope cl C X.env) fp) elt (rE X.K X.mg W0 f))
    (hj : ∀ j ∈ js, j ∈ own.map (·.2) := by decide) (hs : ∀ x, foldedSetIterable iter X.env x = pure x := by intro _; rfl) :
    PE X (.ListComp elt [⟨tg, iter, ifs, 0⟩] scope pos) (rN X.K X.mg W (nLc it (own.map (·.2)) G c f)) :=
  (pe_lc hc hN hi (blkOk_by ok) hg ht he hs).imp (rLc_of hj)
theorem vts_nil : PTs X [] (rT X.K X.mg W tYes1) := ⟨fun pins s σ H Q I ⟨A, e, r, p⟩ => pts_nil.run pins s σ H Q I (p true H r (Same.refl _) rfl)⟩
theorem vts_one {c : Expr} {fc : FT} (h : PT X c (rT X.K X.mg W fc)) : PTs X [c] (rT X.K X.mg W fc) := pts_one h
/-- name = [..] -/
theorem rSetN_of {i : Nat} {te : TE} {f : FA} (h : ∀ σ H Q, rN X.K X.mg W f σ H Q → te σ H Q) : ∀ (D : Ends) σ H, rdS X.K X.mg W (sNew i f) D σ H → tAsg te (gName i) D σ H := fun D σ H ⟨A, e, r, p⟩ => by
  refine h σ H _ ⟨A, e, r, ?_⟩
  unfold sNew at p
  cases q : f e with
  | ok z =>
    obtain ⟨ds, e1⟩ := z
    rw [q] at p
    intro a vs H' o r' s' d'
    have p2 : PostS X.K X.mg W D A σ e H (if i < e1.length then .ok (.nx (e1.set i (.own ds))) else .err) := p
    by_cases h : i < e1.length
    · rw [if_pos h] at p2
      obtain ⟨rc, sc⟩ := r'.claim (ds := ds) (i := i) (s := .own ds) o d' rfl h
      exact p2 _ _ rc (s'.trans sc)
    · rw [if_neg h] at p2
      exact p2.elim
  | exc c e1 =>
    rw [q] at p
    exact fun H' r' => p σ H' r'
  | err => rw [q] at p; exact p
theorem rSetL_of {i : Nat} {te : TE} {f : FA} (h : ∀ σ H Q, rN X.K X.mg W f σ H Q → te σ H Q) : ∀ (D : Ends) σ H, rdS X.K X.mg W (sSet i (eL f)) D σ H → tAsg te (gName i) D σ H := fun D σ H ⟨A, e, r, p⟩ => by
  refine h σ H _ ⟨A, e, r, ?_⟩
  unfold sSet eL at p
  cases q : f e with
  | ok z =>
    obtain ⟨ds, e1⟩ := z
    rw [q] at p
    intro a vs H' o r' s' d'
    obtain ⟨rb, sb, hb⟩ := r'.built o
    have dl : Den X.K (hid A σ e1 H') (.lst ds) (.ref a) := by
      simp only [Den]
      exact ⟨a, vs, rfl, hb, DenL.mono sb _ _ d'⟩
    exact p _ H' (rb.set dl) ((s'.trans sb).trans hid_set)
  | exc c e1 =>
    rw [q] at p
    exact fun H' r' => p σ H' r'
  | err => rw [q] at p; exact p
section
variable {i : Nat} {y : Str} {py spos : Pos} {elt tg iter : Expr} {ifs : List Expr} {scope : Scope} {own : List (Str × Nat)} {it : FA} {G : TD} {js : List Nat} {c : FT} {f : FE}
theorem vs_setLc (i : Nat) (hc : X.calm = true) (hN : X.N.Nodup) (hi : PI X tg iter (rI X.K X.mg W it)) (ok : blkC X.N X.env.scope scope own = true)
    (hg : ∀ (s : Shared) (H : Hp) (C : Addr) (cl : List (Str × Addr)) (fp : List Addr), PG (X.blk s H scope (compEnvC scope cl C X.env) fp) tg (rdG X.K G js))
    (ht : ∀ (s : Shared) (H : Hp) (C : Addr) (cl : List (Str × Addr)) (fp : List Addr), PTs (X.blk s H scope (compEnvC scope cl C X.env) fp) ifs (rT X.K X.mg W0 c))
    (he : ∀ (s : Shared) (H : Hp) (C : Addr) (cl : List (Str × Addr)) (fp : List Addr), PE (X.blk s H scope (compEnvC scope cl C X.env) fp) elt (rE X.K X.mg W0 f))
    (hsw : swapsWith (.ListComp elt [⟨tg, iter, ifs, 0⟩] scope pos) (some (.Name y py)) spos.line X.env = pure true) (hy : X.N[i]? = some y := by rfl) (hyl : X.env.scope.names.lookup y = some .local := by rfl)
    (hj : ∀ j ∈ js, j ∈ own.map (·.2) := by decide) (hs : ∀ x, foldedSetIterable iter X.env x = pure x := by intro _; rfl) :
    PS X (.Assign [.Name y py] (.ListComp elt [⟨tg, iter, ifs, 0⟩] scope pos) spos) (rdS X.K X.mg W (sSet i (eL (nLc it (own.map (·.2)) G c f)))) :=
  (ps_setLc hc hN hy hyl hsw hi (blkOk_by ok) hg ht he hs).imp (rSetL_of (rLc_of hj))
theorem vs_newLc (i : Nat) (hc : X.calm = true) (hN : X.N.Nodup) (hi : PI X tg iter (rI X.K X.mg W it)) (ok : blkC X.N X.env.scope scope own = true)
    (hg : ∀ (s : Shared) (H : Hp) (C : Addr) (cl : List (Str × Addr)) (fp : List Addr), PG (X.blk s H scope (compEnvC scope cl C X.env) fp) tg (rdG X.K G js))
    (ht : ∀ (s : Shared) (H : Hp) (C : Addr) (cl : List (Str × Addr)) (fp : List Addr), PTs (X.blk s H scope (compEnvC scope cl C X.env) fp) ifs (rT X.K X.mg W0 c))
    (he : ∀ (s : Shared) (H : Hp) (C : Addr) (cl : List (Str × Addr)) (fp : List Addr), PE (X.blk s H scope (compEnvC scope cl C X.env) fp) elt (rE X.K X.mg W0 f))
    (hsw : swapsWith (.ListComp elt [⟨tg, iter, ifs, 0⟩] scope pos) (some (.Name y py)) spos.line X.env = pure true) (hy : X.N[i]? = some y := by rfl) (hyl : X.env.scope.names.lookup y = some .local := by rfl)
    (hj : ∀ j ∈ js, j ∈ own.map (·.2) := by decide) (hs : ∀ x, foldedSetIterable iter X.env x = pure x := by intro _; rfl) :
    PS X (.Assign [.Name y py] (.ListComp elt [⟨tg, iter, ifs, 0⟩] scope pos) spos) (rdS X.K X.mg W (sNew i (nLc it (own.map (·.2)) G c f))) :=
  (ps_setLc hc hN hy hyl hsw hi (blkOk_by ok) hg ht he hs).imp (rSetN_of (rLc_of hj))
end

/-! ### raise -/
def sRaise (c : Str) : FS := fun e => .exc c e
theorem vs_raise {x m : Str} {j : Nat} {p p2 cp : Pos} {B newId initId : String} {bmB : List Value} {C : Addr} (hc : X.calm = true) (tk : Takes X W) (F : ExcBaseFacts B newId initId bmB) (q : PySem.W.excIn X.K C bmB newId = true) (gC : X.mg x = some (.ref C)) (kC : PySem.W.keepIn X.K (.ref C) = true)
    (r : Raises X (.ref C)) (hg : Gl X x) (hdb : (x == ("__debug__" : Str)) = false := by decide) : PS X (.Raise (some (.Call (.Name x p) [.Constant (.str m) j p2] [] cp)) none pos) (rdS X.K X.mg W (sRaise x)) :=
  (ps_raise hc tk (pmk_own F q gC kC r hg hdb)).imp fun D σ H ⟨A, e, rp, h⟩ => by
    obtain ⟨u, hu, w⟩ := h σ H rp (Same.refl _)
    rw [gC] at hu
    cases hu
    exact w

/-! ### calls of the text's defs -/
/-- a new list comes back -/
def CallN (K : PySem.W.Frag) (Hv H : Hp) (Q : VK) (ds : List D) : Prop := ∀ p us H', Same H H' → H p = none → H' p = some (.lst us) → (∀ Hw : Hp, Same Hv Hw → (∀ a o, a ≠ p → H' a = some o → H a = none → Hw a = some o) → DenL K Hw ds us) → Q (.ref p) H'
def lstOf (fr : Bool) : D → Option (List D)
  | .lst ds => if fr = true then some ds else none
  | _ => none
def CallP (K : PySem.W.Frag) (mg : Str → Option Value) (fr : Bool) (Hv H : Hp) (Q : VK) (E : XK) : R D → Prop
  | .ok d => (match lstOf fr d with
    | some ds => CallN K Hv H Q ds
    | none => ∀ v H', Same H H' → Fresh K Hv H H' d v → Q v H')
  | .exc c _ => ∀ H', Same H H' → ∃ u, mg c = some u ∧ E u none H'
  | .err => False
theorem lstOf_some {fr : Bool} {d : D} {ds : List D} (h : lstOf fr d = some ds) : d = .lst ds ∧ fr = true := by
  cases d with
  | lst es =>
    simp only [lstOf] at h
    by_cases c : fr = true
    · rw [if_pos c] at h
      cases h
      exact ⟨rfl, c⟩
    · rw [if_neg c] at h
      cases h
  | _ => cases h
/-- whoever takes it as a value -/
theorem CallP.of {K : PySem.W.Frag} {mg : Str → Option Value} {fr : Bool} {Hv H : Hp} {Q : VK} {E : XK} {d : D} (h : ∀ v H', Same H H' → Fresh K Hv H H' d v → Q v H') : CallP K mg fr Hv H Q E (.ok d) := by
  cases k : lstOf fr d with
  | none => simp only [CallP, k]; exact h
  | some ds =>
    simp only [CallP, k]
    obtain ⟨rfl, _⟩ := lstOf_some k
    exact fun p us H' s hp hp' f => h _ _ s fun Hw s1 s2 => by
      simp only [Den]
      exact ⟨p, us, rfl, s2 p _ hp' hp, f Hw s1 fun a o _ h1 h2 => s2 a o h1 h2⟩
def spA (K : PySem.W.Frag) (mg : Str → Option Value) (n : Nat) (fr : Bool) (fn : List D → R D) : Sp := fun vs H Q E => ∃ ds Hv, Same Hv H ∧ DenL K Hv ds vs ∧ ds.length = n ∧ CallP K mg fr Hv H Q E (fn ds)
def eCall (n : Nat) (fn : List D → R D) (f : FA) : FE := fun e => (f e).bind fun p => if p.1.length = n then (match fn p.1 with
  | .ok d => .ok (d, p.2)
  | .exc c _ => .exc c p.2
  | .err => .err) else .err
def nCall (n : Nat) (fn : List D → R D) (f : FA) : FA := fun e => (f e).bind fun p => if p.1.length = n then (match fn p.1 with
  | .ok d => (match lstOf true d with
    | some ds => .ok (ds, p.2)
    | none => .err)
  | .exc c _ => .exc c p.2
  | .err => .err) else .err
section
variable {k n : Nat} {fr : Bool} {fa : Addr} {fd : FuncData} {ps : List Str} {fn : List D → R D} {x : Str} {p : Pos} {a : Expr} {es : List Expr} {f : FA}
theorem v_call (F : FnOk X.prog X.w X.K X.mg X.base (L2.CX X.prog X.w) k fa fd ps (spA X.K X.mg n fr fn)) (hr : Room k X.A) (tk : Takes X W) (hk : PySem.W.keepIn X.K (.ref fa) = true) (hb : Binds X.K fd ps []) (hm : X.mg x = some (.ref fa)) (hg : Gl X x)
    (ha : PA X (a :: es) (rA X.K X.mg W f)) (hdb : (x == ("__debug__" : Str)) = false := by decide) (he : starEach (a :: es) X.env = (false, eval a X.env) :: starEach es X.env := by rfl) (hpl : (backTo pos (starEach es X.env)).any (·.1) = false := by rfl) :
    PE X (.Call (.Name x p) (a :: es) [] pos) (rE X.K X.mg W (eCall n fn f)) :=
  (pe_callS (E := WE W) F hr hg hm hk hb (fun σ => passAt tk σ) ha hdb he hpl).imp fun σ H Q ⟨A, e, r, q⟩ => by
    refine rd_seq r q fun ds e1 vs H1 _ r1 s1 d1 p1 => ?_
    by_cases hl : ds.length = n
    · rw [if_pos hl] at p1
      refine ⟨ds, hid A σ e1 H1, hid_sub, d1, hl, ?_⟩
      revert p1
      dsimp only
      cases fn ds with
      | ok d => exact fun p1 => CallP.of fun v H' s fr => fin r1 p1 s fr
      | exc c z => exact fun p1 H' s => p1 H' (r1.grow s) (hid_same s)
      | err => exact fun p1 => p1
    · rw [if_neg hl] at p1
      exact p1.elim
/-- a def that hands back a new list -/
theorem n_call (F : FnOk X.prog X.w X.K X.mg X.base (L2.CX X.prog X.w) k fa fd ps (spA X.K X.mg n true fn)) (hr : Room k X.A) (tk : Takes X W) (hk : PySem.W.keepIn X.K (.ref fa) = true) (hb : Binds X.K fd ps []) (hm : X.mg x = some (.ref fa)) (hg : Gl X x)
    (ha : PA X (a :: es) (rA X.K X.mg W f)) (hdb : (x == ("__debug__" : Str)) = false := by decide) (he : starEach (a :: es) X.env = (false, eval a X.env) :: starEach es X.env := by rfl) (hpl : (backTo pos (starEach es X.env)).any (·.1) = false := by rfl) :
    PE X (.Call (.Name x p) (a :: es) [] pos) (rN X.K X.mg W (nCall n fn f)) :=
  (pe_callS (E := WE W) F hr hg hm hk hb (fun σ => passAt tk σ) ha hdb he hpl).imp fun σ H Q ⟨A, e, r, q⟩ => by
    refine rN_seq r q fun ds e1 vs H1 _ r1 s1 d1 p1 => ?_
    by_cases hl : ds.length = n
    · rw [if_pos hl] at p1
      refine ⟨ds, hid A σ e1 H1, hid_sub, d1, hl, ?_⟩
      revert p1
      dsimp only
      cases fn ds with
      | ok d =>
        dsimp only
        cases k : lstOf true d with
        | none => exact fun p1 => p1.elim
        | some es =>
          simp only [CallP, k]
          intro p1 q us H' s hq hq' hd
          -- the heap without the new list, then the new list
          have s2 : Same H1 (fun b => if b = q then none else H' b) := fun b o h => by
            show (if b = q then none else H' b) = some o
            rw [if_neg (ne_of_none h hq)]
            exact s b o h
          have r2 := r1.grow s2
          have hn2 : (fun b => if b = q then none else H' b : Hp) q = none := if_pos rfl
          have eH : upd (fun b => if b = q then none else H' b) q (.lst us) = H' := by
            funext b
            by_cases hb : b = q
            · subst hb; rw [upd_same, hq']
            · rw [upd_ne hb]
              exact if_neg hb
          have rb := r2.build us hn2
          have hb := hid_build (vs := us) (o := .lst us) r2 hn2
          rw [eH] at rb hb
          refine p1 q us H' (r1.old hq) rb ?_ ?_
          · rw [hb]; exact hid_same s2
          · rw [hb]
            exact hd _ (hid_same s2) fun a o ha h1 h2 => r1.seen (H' := fun b => if b = q then none else H' b) ((if_neg ha).trans h1) h2
      | exc c z => exact fun p1 H' s => p1 H' (r1.grow s) (hid_same s)
      | err => exact fun p1 => p1
    · rw [if_neg hl] at p1
      exact p1.elim
end
/-- a def that takes numbers off the list it is handed first -/
def spB (K : PySem.W.Frag) (n : Nat) (fn : List Int → List D → R (D × List Int)) : Sp := fun vs H Q _ => ∃ a ns ds Hv us, vs = .ref a :: us ∧ H a = some (.lst (ns.map V.int)) ∧ Same Hv H ∧ Hv a = none ∧ DenL K Hv ds us ∧ ds.length + 1 = n ∧
  match fn ns ds with
  | .ok q => ∀ v H', (∀ b o, b ≠ a → H b = some o → H' b = some o) → H' a = some (.lst (q.2.map V.int)) → Fresh K Hv H H' q.1 v → Q v H'
  | _ => False
def intsOf : List D → Option (List Int)
  | [] => some []
  | .int i :: ds => (intsOf ds).map (i :: ·)
  | _ :: _ => none
theorem intsOf_some : ∀ {ds : List D} {ns : List Int}, intsOf ds = some ns → ds = ns.map D.int
  | [], ns, h => by simp only [intsOf, Option.some.injEq] at h; subst h; rfl
  | d :: ds, ns, h => by
    cases d with
    | int i =>
      simp only [intsOf] at h
      cases q : intsOf ds with
      | none => rw [q] at h; cases h
      | some ms =>
        rw [q] at h
        simp only [Option.map_some, Option.some.injEq] at h
        subst h
        rw [intsOf_some q]
        rfl
    | _ => cases h
theorem intsOf_map (ns : List Int) : intsOf (ns.map D.int) = some ns := by
  induction ns with
  | nil => rfl
  | cons n ns ih => simp only [List.map_cons, intsOf, ih, Option.map_some]
theorem denL_ints {K : PySem.W.Frag} {H : Hp} : ∀ {ns : List Int} {vs : List V}, DenL K H (ns.map D.int) vs ↔ vs = ns.map V.int
  | [], vs => by simp only [List.map_nil, DenL]
  | n :: ns, vs => by
    simp only [List.map_cons, DenL, Den]
    constructor
    · rintro ⟨v, r, rfl, rfl, h⟩
      rw [denL_ints.1 h]
    · rintro rfl
      exact ⟨_, _, rfl, rfl, denL_ints.2 rfl⟩
def eCallB (n i : Nat) (fn : List Int → List D → R (D × List Int)) (f : FA) : FE := fun e => match e[i]? with
  | some s0 => (match s0 with
    | .own _ | .brw _ => (f e).bind fun p => if p.1.length + 1 = n then (match p.2[i]? with
      | some s => (match s with
        | .own cs | .brw cs => (match intsOf cs with
          | some ns => (match fn ns p.1 with
            | .ok q => .ok (q.1, p.2.set i (s.turn (q.2.map D.int)))
            | _ => .err)
          | none => .err)
        | _ => .err)
      | none => .err) else .err
    | _ => .err)
  | none => .err
section
variable {k n : Nat} {fa : Addr} {fd : FuncData} {ps : List Str} {fn : List Int → List D → R (D × List Int)} {x : Str} {p : Pos} {es : List Expr} {f : FA}
theorem v_callB (i : Nat) {y : Str} {py : Pos} (F : FnOk X.prog X.w X.K X.mg X.base (L2.CX X.prog X.w) k fa fd ps (spB X.K n fn)) (hr : Room k X.A) (tk : Takes X W) (hk : PySem.W.keepIn X.K (.ref fa) = true) (hb : Binds X.K fd ps []) (hm : X.mg x = some (.ref fa)) (hg : Gl X x)
    (ha : PA X es (rA X.K X.mg W f)) (hN : X.N[i]? = some y := by rfl) (hv : Vis X.env.scope y := by first | exact Or.inl rfl | exact Or.inr (Or.inl rfl) | exact Or.inr (Or.inr rfl)) (hd : (y == ("__debug__" : Str)) = false := by decide) (hcd : (y == ("__classdict__" : Str)) = false := by decide)
    (hdb : (x == ("__debug__" : Str)) = false := by decide) (he : starEach (.Name y py :: es) X.env = (false, eval (.Name y py) X.env) :: starEach es X.env := by rfl) (hpl : (backTo pos (starEach es X.env)).any (·.1) = false := by rfl) :
    PE X (.Call (.Name x p) (.Name y py :: es) [] pos) (rE X.K X.mg W (eCallB n i fn f)) :=
  (pe_callS (E := WE W) F hr hg hm hk hb (fun σ => passAt tk σ) (pa_cons (pe_var hN hv hd hcd) ha he) hdb he hpl).imp fun σ H Q ⟨A, e, r, q⟩ => by
    unfold eCallB at q
    cases h0 : e[i]? with
    | none => rw [h0] at q; exact q.elim
    | some s0 =>
      rw [h0] at q
      have step : (∃ ds, s0 = .own ds ∨ s0 = .brw ds) → Post X.K X.mg W (Den X.K) A σ e H Q ((f e).bind fun p => if p.1.length + 1 = n then (match p.2[i]? with
          | some s => (match s with
            | .own cs | .brw cs => (match intsOf cs with
              | some ns => (match fn ns p.1 with
                | .ok q => .ok (q.1, p.2.set i (s.turn (q.2.map D.int)))
                | _ => .err)
              | none => .err)
            | _ => .err)
          | none => .err) else .err) → tCallS (spB X.K n fn) (WE W) (tCons (tVar i) (rA X.K X.mg W f)) σ H Q := by
        rintro ⟨ds0, hs0⟩ q
        have hh0 : Held e i := ⟨ds0, by rcases hs0 with rfl | rfl; exact .inl h0; exact .inr h0⟩
        obtain ⟨a, vs0, k1, _, _⟩ := r.held hh0
        refine ⟨.ref a, k1, rd_seq r q fun ds e1 us H1 _ r1 s1 d1 p1 => ?_⟩
        by_cases hl : ds.length + 1 = n
        case neg =>
          rw [if_neg hl] at p1
          exact p1.elim
        rw [if_pos hl] at p1
        cases h1 : e1[i]? with
        | none => rw [h1] at p1; exact p1.elim
        | some s =>
          rw [h1] at p1
          have go : ∀ cs, (s = .own cs ∨ s = .brw cs) → Post X.K X.mg W (Den X.K) A σ e1 H1 Q (match intsOf cs with
              | some ns => (match fn ns ds with
                | .ok q => .ok (q.1, e1.set i (s.turn (q.2.map D.int)))
                | _ => .err)
              | none => .err) → spB X.K n fn (.ref a :: us) H1 Q (WE W σ) := by
            intro cs hs p1
            have hh : Held e1 i := ⟨cs, by rcases hs with rfl | rfl; exact .inl h1; exact .inr h1⟩
            have ho : ∃ b vs, σ[i]? = some (some (.ref b)) ∧ H1 b = some (.lst vs) ∧ DenL X.K (hid A σ e1 H1) cs vs := by
              rcases hs with rfl | rfl
              · obtain ⟨b, vs, k1, k2, k3, _⟩ := r1.own i cs h1
                exact ⟨b, vs, k1, k2, k3⟩
              · obtain ⟨b, vs, k1, k2, k3, _⟩ := r1.brw i cs h1
                exact ⟨b, vs, k1, k2, k3⟩
            obtain ⟨b, vs, kb, k2, k3⟩ := ho
            rw [k1] at kb
            cases kb
            cases hn : intsOf cs with
            | none => rw [hn] at p1; exact p1.elim
            | some ns =>
              rw [hn] at p1
              have ec := intsOf_some hn
              subst ec
              rw [denL_ints.1 k3] at k2
              have oa : OwnAt σ e1 a := ⟨i, hh, k1⟩
              have ha0 : hid A σ e1 H1 a = none := by
                unfold hid
                rw [if_pos (.inl oa)]
              refine ⟨a, ns, ds, hid A σ e1 H1, us, rfl, k2, hid_sub, ha0, d1, hl, ?_⟩
              revert p1
              dsimp only
              cases fn ns ds with
              | err => exact fun p1 => p1.elim
              | exc _ _ => exact fun p1 => p1.elim
              | ok z =>
                intro p1 v H' ke ka fr
                obtain ⟨rp, hp⟩ := r1.put h1 hh k1 (denL_ints.2 (rfl : z.2.map V.int = _))
                have sm : Same (upd H1 a (.lst (z.2.map V.int))) H' := fun b o hb => by
                  by_cases hq : b = a
                  · subst hq
                    rw [upd_same] at hb
                    cases hb
                    exact ka
                  · rw [upd_ne hq] at hb
                    exact ke b o hq hb
                have sh : Same (hid A σ e1 H1) (hid A σ (e1.set i (s.turn (z.2.map D.int))) H') := by
                  rw [← hp]
                  exact hid_same sm
                refine p1 v H' (rp.grow sm) sh (fr _ sh fun b o hb hn => ?_)
                have hq : b ≠ a := by
                  rintro rfl
                  rw [k2] at hn
                  cases hn
                exact rp.seen hb (by rw [upd_ne hq]; exact hn)
          cases s with
          | own cs => exact go cs (.inl rfl) p1
          | brw cs => exact go cs (.inr rfl) p1
          | _ => exact p1.elim
      cases s0 with
      | own ds0 => exact step ⟨ds0, .inl rfl⟩ q
      | brw ds0 => exact step ⟨ds0, .inr rfl⟩ q
      | _ => exact q.elim
end
end
/-! ### defs -/
def runA (m : Nat) (fr : Bool) (g : FS) (ds : List D) : R D := match g (ds.map Sl.val ++ List.replicate (m - ds.length) .un) with
  | .ok (.rt d _) => (match lstOf fr d with
    | some _ => .err
    | none => .ok d)
  | .ok (.rn ds _) => .ok (.lst ds)
  | .ok (.nx _) => .ok .non
  | .exc c _ => .exc c []
  | _ => .err
def runB (m : Nat) (g : FS) (ns : List Int) (ds : List D) : R (D × List Int) :=
  let out (d : D) (e : En) : R (D × List Int) := match e[(0 : Nat)]? with
    | some (.brw cs) => (match intsOf cs with
      | some ms => .ok (d, ms)
      | none => .err)
    | _ => .err
  match g (.brw (ns.map D.int) :: ds.map Sl.val ++ List.replicate (m - (ds.length + 1)) .un) with
  | .ok (.rt d e) => out d e
  | .ok (.nx e) => out .non e
  | _ => .err
section
variable {P : Program} {w : World} {K : PySem.W.Frag} {mg : Str → Option Value} {base : Heap}
theorem ok_A {x qual : Str} {st : Stmt} {f : Addr} {fd : FuncData} {N ps : List Str} {k n : Nat} {g : FS} (fr : Bool) (F : Fun K x qual st f fd) (S : FnScope N ps (defScope st)) (hn : n = ps.length) (hN : ps.length ≤ N.length)
    (hbody : ∀ (cdv : Value) (A : Around) (outer : List Env) (s : Shared) (H : Hp) (E : XK), Room k (A.deeper (envOfC qual (defScope st) s.heap.objs.size f cdv)) →
      PSs (cxOf (L2.CX P w) P w K mg base N qual (defScope st) f cdv A outer s H E) (defBody st) (rdS K mg (fun cls d _ H => E cls d H) g)) : FnOk P w K mg base (L2.CX P w) (k + 1) f fd ps (spA K mg n fr (runA N.length fr g)) := by
  refine F.okX S (fun vs H Q E h => ?_) (fun cdv A outer s H vs Q E hr h => ⟨_, hbody cdv A outer s H E hr, ?_⟩)
  · obtain ⟨ds, Hv, _, hd, hl, _⟩ := h
    rw [← hd.length, hl, hn]
  · obtain ⟨ds, Hv, sv, hd, hl, hc⟩ := h
    have hlen := hd.length
    refine ⟨⟨H, Hv, fun _ => False, fun _ => none⟩, ds.map Sl.val ++ List.replicate (N.length - ds.length) .un, ?_⟩
    generalize hA : (⟨H, Hv, fun _ => False, fun _ => none⟩ : Act) = A0
    have noH : ∀ (e : En), (∀ (i : Nat) (ds : List D), e[i]? ≠ some (.own ds) ∧ e[i]? ≠ some (.brw ds)) → ∀ σ a, ¬ OwnAt σ e a := fun e he σ a ⟨i, ⟨es, h⟩, _⟩ => h.elim (he i es).1 (he i es).2
    have he0 : ∀ (i : Nat) (es : List D), (ds.map Sl.val ++ List.replicate (N.length - ds.length) .un)[i]? ≠ some (.own es) ∧ (ds.map Sl.val ++ List.replicate (N.length - ds.length) .un)[i]? ≠ some (.brw es) := fun i es => by
      constructor
      all_goals
        intro h
        rcases List.mem_append.mp (List.mem_of_getElem? h) with m | m
        · obtain ⟨d, _, z⟩ := List.mem_map.mp m
          cases z
        · exact absurd (List.eq_of_mem_replicate m) (by simp)
    have eh : Same Hv (hid A0 (L2.start N vs) (ds.map Sl.val ++ List.replicate (N.length - ds.length) .un) H) := fun b o hb => by
      rw [hid_in (noH _ he0 _ b) (fun z => by rw [← hA] at z; rw [show Hv b = none from z.2] at hb; cases hb)]
      exact sv _ _ hb
    have R0 : Rep K A0 H (L2.start N vs) (ds.map Sl.val ++ List.replicate (N.length - ds.length) .un) := {
      len := by unfold L2.start; simp [hlen]
      sub := by rw [← hA]; exact sv
      nbor := fun a z => by rw [← hA] at z; exact z.elim (fun z => z.elim) (fun z => absurd rfl z)
      nbld := fun a us z => by rw [← hA] at z; cases z
      keep := fun b o z _ => by rw [← hA] at z; exact z
      val := fun i d z => by
        by_cases hi : i < ds.length
        · rw [List.getElem?_append_left (by rw [List.length_map]; exact hi), List.getElem?_map] at z
          cases hg : ds[i]? with
          | none => rw [hg] at z; cases z
          | some d' =>
            rw [hg] at z
            cases z
            obtain ⟨v, hv, dv⟩ := hd.get hg
            refine ⟨v, ?_, Den.mono eh _ _ dv⟩
            unfold L2.start
            rw [List.getElem?_append_left (by rw [List.length_map, ← hlen]; exact hi), List.getElem?_map, hv]
            rfl
        · rw [List.getElem?_append_right (by rw [List.length_map]; omega)] at z
          exact absurd (List.eq_of_mem_replicate (List.mem_of_getElem? z)) (by simp)
      own := fun i es z => absurd z (he0 i es).1
      brw := fun i es z => absurd z (he0 i es).2
      inj := fun i j a ⟨es, z⟩ => (z.elim (he0 i es).1 (he0 i es).2).elim }
    have fin' : ∀ {d : D} {v : V} {σ' : L2.St} {H' : Hp} {e' : En}, (∀ v H', Same H H' → Fresh K Hv H H' d v → Q v H') → Rep K A0 H' σ' e' → Den K (hid A0 σ' e' H') d v → Q v H' := fun {d v σ' H' e'} hc r' d' => by
      refine hc v H' (fun b o hb => r'.keep b o (by rw [← hA]; exact hb) (by rw [← hA]; exact fun z => z.elim id fun z => z rfl)) fun Hw s1 s2 => Den.mono (fun b o hb => ?_) _ _ d'
      obtain ⟨n1, n2, hb'⟩ := hid_not hb
      by_cases hq : H b = none
      · exact s2 b o hb' hq
      · have : Hv b ≠ none := fun z => n2 (by rw [← hA]; exact ⟨hq, z⟩)
        cases hv : Hv b with
        | none => exact absurd hv this
        | some o' =>
          have k := r'.keep b o' (by rw [← hA]; exact sv _ _ hv) (by rw [← hA]; exact fun z => z.elim id fun z => z rfl)
          rw [hb'] at k
          cases k
          exact s1 _ _ hv
    refine ⟨R0, ?_⟩
    unfold runA at hc
    revert hc
    cases g (ds.map Sl.val ++ List.replicate (N.length - ds.length) .un) with
    | ok fl =>
      cases fl with
      | nx e' => exact fun hc σ' H' r' _ => fin' (d := .non) (show ∀ v H', Same H H' → Fresh K Hv H H' .non v → Q v H' from hc) r' (by simp only [Den])
      | rt d e' =>
        dsimp only
        cases k : lstOf fr d with
        | some _ => exact fun hc => hc.elim
        | none =>
          intro hc v σ' H' r' _ d'
          simp only [CallP, k] at hc
          exact fin' hc r' d'
      | rn es e' =>
        intro hc q us σ' H' od r' s' d'
        obtain ⟨rb, sb, hb⟩ := r'.built od
        cases k : lstOf fr (.lst es) with
        | none =>
          simp only [CallP, k] at hc
          refine fin' hc rb ?_
          simp only [Den]
          exact ⟨q, us, rfl, hb, DenL.mono sb _ _ d'⟩
        | some es' =>
          simp only [CallP, k] at hc
          obtain ⟨ee, _⟩ := lstOf_some k
          cases ee
          have hq : H q = none := by
            have := od.hr
            rw [← hA] at this
            exact this
          refine hc q us H' (fun b o hb => rb.keep b o (by rw [← hA]; exact hb) (by rw [← hA]; exact fun z => z.elim id fun z => z rfl)) hq r'.notOwn.2.2 fun Hw s1 s2 => DenL.mono (fun b o hb => ?_) _ _ d'
          obtain ⟨n1, n2, hb'⟩ := hid_not hb
          have hbq : b ≠ q := by rintro rfl; exact n2 r'.notOwn.2.1
          have n3 : ¬ off A0 b := fun z => n2 ((off_build od.hr).2 (.inl z))
          by_cases hq : H b = none
          · exact s2 b o hbq hb' hq
          · have hz : Hv b ≠ none := fun z => n3 (by rw [← hA]; exact ⟨hq, z⟩)
            cases hv : Hv b with
            | none => exact absurd hv hz
            | some o' =>
              have k := rb.keep b o' (by rw [← hA]; exact sv _ _ hv) (by rw [← hA]; exact fun z => z.elim id fun z => z rfl)
              rw [hb'] at k
              cases k
              exact s1 _ _ hv
      | bk e' => exact fun hc => hc.elim
      | ct e' => exact fun hc => hc.elim
    | exc c e' => exact fun hc σ' H' r' _ => hc H' fun b o hb => r'.keep b o (by rw [← hA]; exact hb) (by rw [← hA]; exact fun z => z.elim id fun z => z rfl)
    | err => exact fun hc => hc
theorem ok_B {x qual : Str} {st : Stmt} {f : Addr} {fd : FuncData} {N ps : List Str} {k n : Nat} {g : FS} (F : Fun K x qual st f fd) (S : FnScope N ps (defScope st)) (hn : n = ps.length) (hN : ps.length ≤ N.length)
    (hbody : ∀ (cdv : Value) (A : Around) (outer : List Env) (s : Shared) (H : Hp) (E : XK), Room k (A.deeper (envOfC qual (defScope st) s.heap.objs.size f cdv)) →
      PSs (cxOf (L2.CX P w) P w K mg base N qual (defScope st) f cdv A outer s H E) (defBody st) (rdS K mg (fun cls d _ H => E cls d H) g)) : FnOk P w K mg base (L2.CX P w) (k + 1) f fd ps (spB K n (runB N.length g)) := by
  refine F.okX S (fun vs H Q E h => ?_) (fun cdv A outer s H vs Q E hr h => ⟨_, hbody cdv A outer s H E hr, ?_⟩)
  · obtain ⟨a, ns, ds, Hv, us, rfl, _, _, _, hd, hl, _⟩ := h
    rw [List.length_cons, ← hd.length, hl, hn]
  · obtain ⟨a, ns, ds, Hv, us, rfl, ha, sv, hva, hd, hl, hc⟩ := h
    have hlen := hd.length
    have hnl : ds.length + 1 ≤ N.length := by omega
    generalize he : (Sl.brw (ns.map D.int) :: ds.map Sl.val ++ List.replicate (N.length - (ds.length + 1)) Sl.un : En) = e0
    refine ⟨⟨H, Hv, fun b => b = a, fun _ => none⟩, e0, ?_⟩
    generalize hA : (⟨H, Hv, fun b => b = a, fun _ => none⟩ : Act) = A0
    have g0 : e0[(0 : Nat)]? = some (.brw (ns.map D.int)) := by rw [← he]; rfl
    have gS : ∀ i : Nat, e0[i + 1]? = (ds.map Sl.val ++ List.replicate (N.length - (ds.length + 1)) Sl.un)[i]? := fun i => by rw [← he]; rfl
    have gV : ∀ (i : Nat) (s : Sl), (ds.map Sl.val ++ List.replicate (N.length - (ds.length + 1)) Sl.un)[i]? = some s → s = .un ∨ ∃ d v, s = .val d ∧ us[i]? = some v ∧ Den K Hv d v := fun i s z => by
      by_cases hi : i < ds.length
      · rw [List.getElem?_append_left (by rw [List.length_map]; exact hi), List.getElem?_map] at z
        cases hg : ds[i]? with
        | none => rw [hg] at z; cases z
        | some d' =>
          rw [hg] at z
          cases z
          obtain ⟨v, hv, dv⟩ := hd.get hg
          exact .inr ⟨d', v, rfl, hv, dv⟩
      · rw [List.getElem?_append_right (by rw [List.length_map]; omega)] at z
        exact .inl (List.eq_of_mem_replicate (List.mem_of_getElem? z))
    have st0 : (L2.start N (V.ref a :: us))[(0 : Nat)]? = some (some (.ref a)) := rfl
    have stS : ∀ (i : Nat) (v : V), us[i]? = some v → (L2.start N (V.ref a :: us))[i + 1]? = some (some v) := fun i v hv => by
      have hi : i < us.length := (List.getElem?_eq_some_iff.mp hv).1
      unfold L2.start
      rw [List.getElem?_append_left (by rw [List.length_map, List.length_cons]; omega), List.getElem?_map, List.getElem?_cons_succ, hv]
      rfl
    have hheld : ∀ i, Held e0 i → i = 0 := fun i ⟨es, z⟩ => by
      cases i with
      | zero => rfl
      | succ i =>
        rw [gS] at z
        rcases z with z | z
        · rcases gV i _ z with q | ⟨_, _, q, _⟩ <;> cases q
        · rcases gV i _ z with q | ⟨_, _, q, _⟩ <;> cases q
    have hown : ∀ b, OwnAt (L2.start N (V.ref a :: us)) e0 b → b = a := fun b ⟨i, hi, hb⟩ => by
      rw [hheld i hi, st0] at hb
      cases hb
      rfl
    have eh : Same Hv (hid A0 (L2.start N (V.ref a :: us)) e0 H) := fun b o hb => by
      have hq : b ≠ a := by rintro rfl; rw [hva] at hb; cases hb
      rw [hid_in (fun z => hq (hown b z)) (fun z => by rw [← hA] at z; rw [show Hv b = none from z.2] at hb; cases hb)]
      exact sv _ _ hb
    have R0 : Rep K A0 H (L2.start N (V.ref a :: us)) e0 := {
      len := by rw [← he]; unfold L2.start; simp [hlen]
      sub := by rw [← hA]; exact sv
      nbor := fun b z => by
        rw [← hA] at z ⊢
        rcases z with z | z
        · rw [show b = a from z]; exact ⟨hva, by rw [ha]; exact fun z => nomatch z⟩
        · exact absurd rfl z
      nbld := fun b us z => by rw [← hA] at z; cases z
      keep := fun b o z _ => by rw [← hA] at z; exact z
      val := fun i d z => by
        cases i with
        | zero => rw [g0] at z; cases z
        | succ i =>
          rw [gS] at z
          rcases gV i _ z with q | ⟨d', v, q, hv, dv⟩
          · cases q
          · cases q
            exact ⟨v, stS i v hv, Den.mono eh _ _ dv⟩
      own := fun i es z => by
        cases i with
        | zero => rw [g0] at z; cases z
        | succ i =>
          rw [gS] at z
          rcases gV i _ z with q | ⟨_, _, q, _⟩ <;> cases q
      brw := fun i es z => by
        cases i with
        | zero =>
          rw [g0] at z
          cases z
          exact ⟨a, _, st0, ha, denL_ints.2 rfl, by rw [← hA]⟩
        | succ i =>
          rw [gS] at z
          rcases gV i _ z with q | ⟨_, _, q, _⟩ <;> cases q
      inj := fun i j b hi hj _ _ => by rw [hheld i hi, hheld j hj] }
    have nb : ∀ b, b ≠ a → ¬ (A0.bor b ∨ A0.bld b ≠ none) := fun b hq => by rw [← hA]; exact fun z => z.elim hq fun z => z rfl
    have fin' : ∀ {d : D} {v : V} {σ' : L2.St} {H' : Hp} {e' : En}, (match (match e'[(0 : Nat)]? with
          | some (.brw cs) => (match intsOf cs with
            | some ms => R.ok (d, ms)
            | none => .err)
          | _ => .err : R (D × List Int)) with
        | .ok q => ∀ v H', (∀ b o, b ≠ a → H b = some o → H' b = some o) → H' a = some (.lst (q.2.map V.int)) → Fresh K Hv H H' q.1 v → Q v H'
        | _ => False) → Rep K A0 H' σ' e' → Den K (hid A0 σ' e' H') d v → Q v H' := fun {d v σ' H' e'} hc r' d' => by
      cases h0 : e'[(0 : Nat)]? with
      | none => rw [h0] at hc; exact hc.elim
      | some s =>
        rw [h0] at hc
        cases s with
        | brw cs =>
          dsimp only at hc
          cases hn : intsOf cs with
          | none => rw [hn] at hc; exact hc.elim
          | some ms =>
            rw [hn] at hc
            obtain ⟨b, vs, k1, k2, k3, k4⟩ := r'.brw 0 cs h0
            rw [← hA] at k4
            have k4' : b = a := k4
            subst k4'
            rw [intsOf_some hn] at k3
            rw [denL_ints.1 k3] at k2
            refine hc v H' (fun c o hq hb => r'.keep c o (by rw [← hA]; exact hb) (nb c hq)) k2 fun Hw s1 s2 => Den.mono (fun c o hb => ?_) _ _ d'
            obtain ⟨n1, n2, hb'⟩ := hid_not hb
            by_cases hq : H c = none
            · exact s2 c o hb' hq
            · have hz : Hv c ≠ none := fun z => n2 (by rw [← hA]; exact ⟨hq, z⟩)
              cases hv : Hv c with
              | none => exact absurd hv hz
              | some o' =>
                have hcb : c ≠ b := by rintro rfl; exact hz hva
                have k := r'.keep c o' (by rw [← hA]; exact sv _ _ hv) (nb c hcb)
                rw [hb'] at k
                cases k
                exact s1 _ _ hv
        | _ => exact hc.elim
    refine ⟨R0, ?_⟩
    unfold runB at hc
    rw [he] at hc
    revert hc
    dsimp only
    cases g e0 with
    | ok fl =>
      cases fl with
      | nx e' => exact fun hc σ' H' r' _ => fin' (d := .non) hc r' (by simp only [Den])
      | rt d e' => exact fun hc v σ' H' r' _ d' => fin' hc r' d'
      | rn ds e' => exact fun hc => hc.elim
      | bk e' => exact fun hc => hc.elim
      | ct e' => exact fun hc => hc.elim
    | exc c e' => exact fun hc => hc.elim
    | err => exact fun hc => hc
end
end Mi
namespace Mi
open PySem PySem.Spec PyProof.Rows L2

section
variable {K : PySem.W.Frag}
/-- a flat answer -/
theorem flatQ {Hh H : Hp} {d : D} {v : V} {Q : VK} (h : ∀ H, Den K H d v) (q : ∀ v H', Same H H' → Fresh K Hh H H' d v → Q v H') : Q v H := q v H (Same.refl _) (Fresh.flat (h _))
/-! ### ints -/
def gI (C : Int → Int → Bool) (g : Int → Int → D) (a b : D) : Option D := (int? a).bind fun i => (int? b).bind fun j => if C i j = true then some (g i j) else none
theorem gI_some {C : Int → Int → Bool} {g : Int → Int → D} {a b d : D} (h : gI C g a b = some d) : ∃ i j, a = .int i ∧ b = .int j ∧ C i j = true ∧ d = g i j := by
  unfold gI at h
  cases k : int? a with
  | none => rw [k] at h; cases h
  | some i =>
    cases k2 : int? b with
    | none => rw [k, k2] at h; cases h
    | some j =>
      rw [k, k2, Option.bind_some, Option.bind_some] at h
      by_cases c : C i j = true
      · rw [if_pos c] at h
        cases h
        exact ⟨i, j, int_some k, int_some k2, c, rfl⟩
      · rw [if_neg c] at h
        cases h
theorem rb_I {C : Int → Int → Bool} {g : Int → Int → D} {P : Int → Int → Prop} {gv : Int → Int → V} (hC : ∀ i j, C i j = true → P i j) (hg : ∀ i j H, Den K H (g i j) (gv i j)) : RB K (L2.rI P gv) (gI C g) := fun Hh H a b x y d Q s ha hb h q => by
  obtain ⟨i, j, rfl, rfl, c, rfl⟩ := gI_some h
  exact ⟨i, j, den_int ha, den_int hb, hC i j c, flatQ (hg i j) q⟩
theorem rb_I0 {g : Int → Int → D} {gv : Int → Int → V} (hg : ∀ i j H, Den K H (g i j) (gv i j)) : RB K (rI0 gv) (gI (fun _ _ => true) g) := fun Hh H a b x y d Q s ha hb h q => by
  obtain ⟨i, j, rfl, rfl, c, rfl⟩ := gI_some h
  exact ⟨i, j, den_int ha, den_int hb, flatQ (hg i j) q⟩
def T2 : Int → Int → Bool := fun _ _ => true
abbrev gSub := gI T2 fun i j => .int (i - j)
theorem rb_sub : RB K (rI0 fun i j => .int (i - j)) gSub := rb_I0 fun _ _ _ => by simp only [Den]
/-- two factors of together less than a hundred million bits -/
def CMulX (i j : Int) : Prop := i.natAbs.log2 + j.natAbs.log2 < 100000000
theorem bits_log (x : Int) : Builtin.Int.intBits x ≤ x.natAbs.log2 + 1 := by
  unfold Builtin.Int.intBits
  split <;> omega
theorem CMulX.ok {i j : Int} (h : CMulX i j) : IntMulOk i j := fun z => by
  have h1 := bits_log i
  have h2 := bits_log j
  have h3 : i.natAbs.log2 + j.natAbs.log2 < 100000000 := h
  have e : bitsLine = 134217728 := by decide
  have z2 := (Bool.and_eq_true_iff.mp z).2
  unfold Builtin.Int.intTooBig at z2
  have z3 := of_decide_eq_true z2
  rw [e] at z3
  omega
theorem op_mulX {X : Cx} : OpR X (binaryOp .Mult) (L2.rI CMulX fun i j => .int (i * j)) := opI fun _ _ _ _ _ _ _ hc q => mul_int q hc.ok
def mulOk (i j : Int) : Bool := decide (i.natAbs.log2 + j.natAbs.log2 < 100000000)
abbrev gMulI := gI mulOk fun i j => .int (i * j)
theorem rb_mulI : RB K (L2.rI CMulX fun i j => .int (i * j)) gMulI := rb_I (fun i j h => @of_decide_eq_true (i.natAbs.log2 + j.natAbs.log2 < 100000000) _ h) fun _ _ _ => by simp only [Den]
def modOk (_ j : Int) : Bool := decide (0 < j)
abbrev gMod := gI modOk fun i j => .int (i % j)
theorem rb_mod : RB K (L2.rI (fun _ j => 0 < j) fun i j => .int (i % j)) gMod := rb_I (fun i j h => of_decide_eq_true (show decide (0 < j) = true from h)) fun _ _ _ => by simp only [Den]
def divOk (_ j : Int) : Bool := decide (0 < j) && decide (j.natAbs.log2 < 9000)
abbrev gDiv := gI divOk fun i j => .int (i / j)
theorem rb_div : RB K (L2.rI CDivW fun i j => .int (i / j)) gDiv := rb_I (fun i j h => by
  unfold divOk at h
  rw [Bool.and_eq_true] at h
  exact ⟨of_decide_eq_true h.1, of_decide_eq_true h.2⟩) fun _ _ _ => by simp only [Den]
def powOk (i j : Int) : Bool := decide (0 ≤ j) && (decide (j ≤ 1000000) && decide (i.natAbs < 18446744073709551616))
abbrev gPow := gI powOk fun i j => .int (i ^ j.toNat)
theorem rb_pow : RB K (L2.rI CPow fun i j => .int (i ^ j.toNat)) gPow := rb_I (fun i j h => by
  unfold powOk at h
  rw [Bool.and_eq_true, Bool.and_eq_true] at h
  have e : 2 ^ 64 = 18446744073709551616 := by decide +kernel
  exact ⟨of_decide_eq_true h.1, of_decide_eq_true h.2.1, by rw [e]; exact of_decide_eq_true h.2.2⟩) fun _ _ _ => by simp only [Den]
abbrev gLtI := gI T2 fun i j => .bl (decide (i < j))
abbrev gLeI := gI T2 fun i j => .bl (decide (i ≤ j))
abbrev gGtI := gI T2 fun i j => .bl (decide (j < i))
abbrev gGeI := gI T2 fun i j => .bl (decide (j ≤ i))
theorem rb_ltI : RB K (rI0 fun i j => .bl (decide (i < j))) gLtI := rb_I0 fun _ _ _ => by simp only [Den]
theorem rb_leI : RB K (rI0 fun i j => .bl (decide (i ≤ j))) gLeI := rb_I0 fun _ _ _ => by simp only [Den]
theorem rb_gtI : RB K (rI0 fun i j => .bl (decide (j < i))) gGtI := rb_I0 fun _ _ _ => by simp only [Den]
theorem rb_geI : RB K (rI0 fun i j => .bl (decide (j ≤ i))) gGeI := rb_I0 fun _ _ _ => by simp only [Den]
def gNeg (a : D) : Option D := (int? a).map fun i => .int (-i)
theorem ru_neg : RU K (rU fun i => .int (-i)) gNeg := fun Hh H a x d Q s ha h q => by
  unfold gNeg at h
  cases k : int? a with
  | none => rw [k] at h; cases h
  | some i =>
    rw [k] at h
    cases h
    rw [int_some k] at ha
    exact ⟨i, den_int ha, flatQ (fun _ => by simp only [Den]) q⟩
/-! ### + of any kind -/
def str? : D → Option Str
  | .str x => some x
  | _ => none
theorem str_some {d : D} {x : Str} (h : str? d = some x) : d = .str x := by
  cases d <;> simp only [str?, Option.some.injEq] at h <;> first | (subst h; rfl) | cases h
def tup? : D → Option (List D)
  | .tup ds => some ds
  | _ => none
theorem tup_some {d : D} {x : List D} (h : tup? d = some x) : d = .tup x := by
  cases d <;> simp only [tup?, Option.some.injEq] at h <;> first | (subst h; rfl) | cases h
def gAdd : D → D → Option D
  | .int i, .int j => some (.int (i + j))
  | .str x, .str y => if x.length + y.length ≤ lim then some (.str (x ++ y)) else none
  | .lst a, .lst b => if a.length + b.length ≤ lim then some (.lst (a ++ b)) else none
  | .tup a, .tup b => if a.length + b.length ≤ lim then some (.tup (a ++ b)) else none
  | _, _ => none
def rAddA (K : PySem.W.Frag) : R2 := fun x y H Q => (rI0 (fun i j => .int (i + j)) x y H Q ∨ (∃ i j, x = .str i ∧ y = .str j ∧ i.length + j.length ≤ sizeLine ∧ Q (.str (i ++ j)) H)) ∨ (rCat x y H Q ∨ rCatA K x y H Q)
theorem op_addA {X : Cx} : OpR X (binaryOp .Add) (rAddA X.K) := OpR.or (OpR.or op_add op_add_str) (OpR.or op_cat op_catA)
theorem den_lst {H : Hp} {ds : List D} {v : V} (h : Den K H (.lst ds) v) : ∃ a vs, v = .ref a ∧ H a = some (.lst vs) ∧ DenL K H ds vs := by simpa only [Den] using h
theorem den_tup {H : Hp} {ds : List D} {v : V} (h : Den K H (.tup ds) v) : ∃ a vs, v = .ref a ∧ SqT K H a vs ∧ DenL K H ds vs := by simpa only [Den] using h
theorem rb_add : RB K (rAddA K) gAdd := fun Hh H a b x y d Q s ha hb h q => by
  cases a with
  | int i =>
    cases b with
    | int j =>
      simp only [gAdd, Option.some.injEq] at h
      subst h
      exact .inl (.inl ⟨i, j, den_int ha, den_int hb, flatQ (fun _ => by simp only [Den]) q⟩)
    | _ => cases h
  | str i =>
    cases b with
    | str j =>
      simp only [gAdd] at h
      by_cases c : i.length + j.length ≤ lim
      · rw [if_pos c] at h
        cases h
        exact .inl (.inr ⟨i, j, den_str ha, den_str hb, by rw [← lim_eq]; exact c, flatQ (fun _ => by simp only [Den]) q⟩)
      · rw [if_neg c] at h; cases h
    | _ => cases h
  | lst i =>
    cases b with
    | lst j =>
      simp only [gAdd] at h
      by_cases c : i.length + j.length ≤ lim
      · rw [if_pos c] at h
        cases h
        obtain ⟨p, vs, rfl, h1, h2⟩ := den_lst ha
        obtain ⟨p', us, rfl, h3, h4⟩ := den_lst hb
        exact .inr (.inl ⟨p, p', vs, us, rfl, rfl, s _ _ h1, s _ _ h3, by rw [← h2.length, ← h4.length, ← lim_eq]; exact c, fun r hr => q _ _ (same_upd hr) (Fresh.lst hr (DenL.append h2 h4))⟩)
      · rw [if_neg c] at h; cases h
    | _ => cases h
  | tup i =>
    cases b with
    | tup j =>
      simp only [gAdd] at h
      by_cases c : i.length + j.length ≤ lim
      · rw [if_pos c] at h
        cases h
        obtain ⟨p, vs, rfl, h1, h2⟩ := den_tup ha
        obtain ⟨p', us, rfl, h3, h4⟩ := den_tup hb
        refine .inr (.inr ⟨p, p', vs, us, rfl, rfl, Same.seqT s h1, Same.seqT s h3, by rw [← h2.length, ← h4.length, ← lim_eq]; exact c, fun e => ?_, fun _ e => ?_, fun _ _ r hr => q _ _ (same_upd hr) (Fresh.tup hr (DenL.append h2 h4))⟩)
        · subst e
          have hl := h2.length
          have e0 : i = [] := by cases i with | nil => rfl | cons _ _ => cases hl
          subst e0
          exact q _ _ (Same.refl _) (Fresh.flat hb)
        · subst e
          have hl := h4.length
          have e0 : j = [] := by cases j with | nil => rfl | cons _ _ => cases hl
          subst e0
          rw [List.append_nil] at q
          exact q _ _ (Same.refl _) (Fresh.flat ha)
      · rw [if_neg c] at h; cases h
    | _ => cases h
  | _ => cases h
/-- list * int -/
def gRep : D → D → Option (List D)
  | .lst ds, .int k => if r62 k = true ∧ ds.length * k.toNat ≤ lim then some (List.replicate k.toNat ds).flatten else none
  | _, _ => none
theorem rbn_rep : RBN K rRep gRep := fun Hh H a b x y ds Q s ha hb h q => by
  cases a with
  | lst es =>
    cases b with
    | int k =>
      simp only [gRep] at h
      by_cases c : r62 k = true ∧ es.length * k.toNat ≤ lim
      · rw [if_pos c] at h
        cases h
        obtain ⟨p, vs, rfl, h1, h2⟩ := den_lst ha
        have e : (2 : Int) ^ 63 = 9223372036854775808 := by decide +kernel
        have c1 := c.1
        have c2 := (r62_iff.1 c1).1
        have c3 := (r62_iff.1 c1).2
        exact ⟨p, k, vs, rfl, den_int hb, s _ _ h1, by rw [e]; omega, by rw [e]; omega, by rw [← h2.length, ← lim_eq]; exact c.2, fun r hr => q r _ hr (DenL.rep h2 _)⟩
      · rw [if_neg c] at h; cases h
    | _ => cases h
  | _ => cases h
def gMul : D → D → Option D
  | .lst ds, k => (gRep (.lst ds) k).map .lst
  | a, b => gMulI a b
def rMulA : R2 := fun x y H Q => L2.rI CMulX (fun i j => .int (i * j)) x y H Q ∨ rRep x y H Q
theorem op_mulA {X : Cx} : OpR X (binaryOp .Mult) rMulA := OpR.or op_mulX op_rep
theorem rb_mul : RB K rMulA gMul := fun Hh H a b x y d Q s ha hb h q => by
  by_cases ca : ∃ ds, a = .lst ds
  · obtain ⟨ds, rfl⟩ := ca
    simp only [gMul] at h
    cases k : gRep (.lst ds) b with
    | none => rw [k] at h; cases h
    | some es =>
      rw [k] at h
      cases h
      exact .inr (rbn_rep Hh H _ _ x y es Q s ha hb k fun p vs hp dl => q _ _ (same_upd hp) (Fresh.lst hp dl))
  · have e : gMul a b = gMulI a b := by
      cases a with
      | lst ds => exact absurd ⟨ds, rfl⟩ ca
      | _ => rfl
    rw [e] at h
    exact .inl (rb_mulI Hh H a b x y d Q s ha hb h q)
/-! ### comparisons of any kind -/
def rLtA : R2 := fun x y H Q => rI0 (fun i j => .bl (decide (i < j))) x y H Q ∨ ∃ i j, x = .str i ∧ y = .str j ∧ Q (.bl (decide (i.cps.toList < j.cps.toList))) H
def rLeA : R2 := fun x y H Q => rI0 (fun i j => .bl (decide (i ≤ j))) x y H Q ∨ ∃ i j, x = .str i ∧ y = .str j ∧ Q (.bl (!decide (j.cps.toList < i.cps.toList))) H
def gLt : D → D → Option D
  | .int i, .int j => some (.bl (decide (i < j)))
  | .str i, .str j => some (.bl (decide (i.cps.toList < j.cps.toList)))
  | _, _ => none
def gLe : D → D → Option D
  | .int i, .int j => some (.bl (decide (i ≤ j)))
  | .str i, .str j => some (.bl (!decide (j.cps.toList < i.cps.toList)))
  | _, _ => none
theorem op_ltA {X : Cx} : OpR X (compareOp .Lt) rLtA := OpR.or op_lt op_lt_str
theorem op_leA {X : Cx} : OpR X (compareOp .LtE) rLeA := OpR.or op_le op_le_str
theorem rb_lt : RB K rLtA gLt := fun Hh H a b x y d Q s ha hb h q => by
  cases a <;> cases b <;> simp only [gLt, Option.some.injEq] at h <;> first
    | (subst h; exact .inl ⟨_, _, den_int ha, den_int hb, flatQ (fun _ => by simp only [Den]) q⟩)
    | (subst h; exact .inr ⟨_, _, den_str ha, den_str hb, flatQ (fun _ => by simp only [Den]) q⟩)
    | cases h
theorem rb_le : RB K rLeA gLe := fun Hh H a b x y d Q s ha hb h q => by
  cases a <;> cases b <;> simp only [gLe, Option.some.injEq] at h <;> first
    | (subst h; exact .inl ⟨_, _, den_int ha, den_int hb, flatQ (fun _ => by simp only [Den]) q⟩)
    | (subst h; exact .inr ⟨_, _, den_str ha, den_str hb, flatQ (fun _ => by simp only [Den]) q⟩)
    | cases h
mutual
def pd : D → Option PyData
  | .non => some .none
  | .bl b => some (.bool b)
  | .int i => some (.int i)
  | .str x => some (.str x)
  | .tup ds => (pdL ds).map .tuple
  | .lst ds => (pdL ds).map .list
  | .rls ds => (pdL ds).map .list
  | .dct _ _ => none
  | .ty _ => none
def pdL : List D → Option (List PyData)
  | [] => some []
  | d :: ds => (pd d).bind fun x => (pdL ds).map (x :: ·)
end
mutual
theorem pd_dp {H : Hp} : ∀ (d : D) (v : V) (x : PyData), Den K H d v → pd d = some x → Dp K H v x
  | .non, v, x, h, e => by
    simp only [pd, Option.some.injEq] at e
    subst e
    rw [den_non h]
    exact .non
  | .bl b, v, x, h, e => by
    simp only [pd, Option.some.injEq] at e
    subst e
    rw [den_bl h]
    exact .bl b
  | .int b, v, x, h, e => by
    simp only [pd, Option.some.injEq] at e
    subst e
    rw [den_int h]
    exact .int b
  | .str b, v, x, h, e => by
    simp only [pd, Option.some.injEq] at e
    subst e
    rw [den_str h]
    exact .str b
  | .tup ds, v, x, h, e => by
    simp only [pd] at e
    obtain ⟨a, vs, rfl, h1, h2⟩ := den_tup h
    cases k : pdL ds with
    | none => rw [k] at e; cases e
    | some xs =>
      rw [k] at e
      cases e
      exact .tup h1 (pdL_dp ds vs xs h2 k)
  | .lst ds, v, x, h, e => by
    simp only [pd] at e
    obtain ⟨a, vs, rfl, h1, h2⟩ := den_lst h
    cases k : pdL ds with
    | none => rw [k] at e; cases e
    | some xs =>
      rw [k] at e
      cases e
      exact .lst (.inl (.inl h1)) (pdL_dp ds vs xs h2 k)
  | .rls ds, v, x, h, e => by
    simp only [pd] at e
    simp only [Den] at h
    obtain ⟨a, vs, rfl, h1, h2⟩ := h
    cases k : pdL ds with
    | none => rw [k] at e; cases e
    | some xs =>
      rw [k] at e
      cases e
      exact .lst h1 (pdL_dp ds vs xs h2 k)
  | .dct _ _, _, _, _, e => by simp only [pd] at e; cases e
  | .ty _, _, _, _, e => by simp only [pd] at e; cases e
theorem pdL_dp {H : Hp} : ∀ (ds : List D) (vs : List V) (xs : List PyData), DenL K H ds vs → pdL ds = some xs → DpAll K H vs xs
  | [], vs, xs, h, e => by
    simp only [pdL, Option.some.injEq] at e
    simp only [DenL] at h
    subst e h
    exact .nil
  | d :: ds, vs, xs, h, e => by
    simp only [pdL] at e
    simp only [DenL] at h
    obtain ⟨v, r, rfl, h1, h2⟩ := h
    cases k : pd d with
    | none => rw [k] at e; cases e
    | some x =>
      rw [k, Option.bind_some] at e
      cases k2 : pdL ds with
      | none => rw [k2] at e; cases e
      | some ys =>
        rw [k2] at e
        cases e
        exact .cons (pd_dp d v x h1 k) (pdL_dp ds r ys h2 k2)
end
def eqDeep (a b : D) : Option Bool := (pd a).bind fun x => (pd b).bind fun y => if SeqAt.shaped x = true ∧ SeqAt.shaped y = true then some (PyData.eqv x y) else none
def eqB : D → D → Option Bool
  | .int i, .int j => some (decide (i = j))
  | .str i, .str j => some (decide (i = j))
  | .bl i, .bl j => some (decide (i = j))
  | .non, .non => some true
  | a, b => eqDeep a b
def gEq (a b : D) : Option D := (eqB a b).map .bl
def gNe (a b : D) : Option D := (eqB a b).map fun k => .bl (!k)
def rEqA (K : PySem.W.Frag) : R2 := fun x y H Q => rEq x y H Q ∨ rEqD K x y H Q
def rNeA (K : PySem.W.Frag) : R2 := fun x y H Q => rNe x y H Q ∨ rNeD K x y H Q
theorem eqB_cases {a b : D} {k : Bool} (h : eqB a b = some k) : (∃ i j, a = .int i ∧ b = .int j ∧ k = decide (i = j)) ∨ (∃ i j, a = .str i ∧ b = .str j ∧ k = decide (i = j)) ∨ (∃ i j, a = .bl i ∧ b = .bl j ∧ k = decide (i = j)) ∨ (a = .non ∧ b = .non ∧ k = true) ∨ eqDeep a b = some k := by
  cases a <;> cases b <;> first
    | (simp only [eqB, Option.some.injEq] at h; exact .inl ⟨_, _, rfl, rfl, h.symm⟩)
    | (simp only [eqB, Option.some.injEq] at h; exact .inr (.inl ⟨_, _, rfl, rfl, h.symm⟩))
    | (simp only [eqB, Option.some.injEq] at h; exact .inr (.inr (.inl ⟨_, _, rfl, rfl, h.symm⟩)))
    | (simp only [eqB, Option.some.injEq] at h; exact .inr (.inr (.inr (.inl ⟨rfl, rfl, h.symm⟩))))
    | exact .inr (.inr (.inr (.inr h)))
theorem eqDeep_some {a b : D} {k : Bool} (h : eqDeep a b = some k) : ∃ x y, pd a = some x ∧ pd b = some y ∧ SeqAt.shaped x = true ∧ SeqAt.shaped y = true ∧ k = PyData.eqv x y := by
  unfold eqDeep at h
  cases ka : pd a with
  | none => rw [ka] at h; cases h
  | some x =>
    cases kb : pd b with
    | none => rw [ka, kb] at h; cases h
    | some y =>
      rw [ka, kb, Option.bind_some, Option.bind_some] at h
      by_cases c : SeqAt.shaped x = true ∧ SeqAt.shaped y = true
      · rw [if_pos c] at h
        cases h
        exact ⟨x, y, rfl, rfl, c.1, c.2, rfl⟩
      · rw [if_neg c] at h
        cases h
theorem op_eqA {X : Cx} (hu : X.A.units + 64 < cLine) : OpR X (compareOp .Eq) (rEqA X.K) := OpR.or op_eq (op_eqD hu)
theorem op_neA {X : Cx} (hu : X.A.units + 64 < cLine) : OpR X (compareOp .NotEq) (rNeA X.K) := OpR.or op_ne (op_neD hu)
theorem dec_v {α : Type} {f : α → V} (hf : ∀ a b, f a = f b → a = b) {i j : α} [DecidableEq α] : decide (f i = f j) = decide (i = j) := by
  by_cases h : i = j
  · subst h; simp
  · rw [decide_eq_false h, decide_eq_false fun z => h (hf _ _ z)]
theorem rb_eq : RB K (rEqA K) gEq := fun Hh H a b x y d Q s ha hb h q => by
  unfold gEq at h
  cases k : eqB a b with
  | none => rw [k] at h; cases h
  | some r =>
    rw [k] at h
    cases h
    have fl : Q (.bl r) H := flatQ (fun _ => by simp only [Den]) q
    rcases eqB_cases k with ⟨i, j, rfl, rfl, e⟩ | ⟨i, j, rfl, rfl, e⟩ | ⟨i, j, rfl, rfl, e⟩ | ⟨rfl, rfl, e⟩ | e
    · rw [den_int ha, den_int hb]
      refine .inl ⟨rfl, ?_⟩
      rw [dec_v (f := V.int) (fun _ _ z => V.int.inj z), ← e]
      exact fl
    · rw [den_str ha, den_str hb]
      refine .inl ⟨rfl, ?_⟩
      rw [dec_v (f := V.str) (fun _ _ z => V.str.inj z), ← e]
      exact fl
    · rw [den_bl ha, den_bl hb]
      refine .inl ⟨rfl, ?_⟩
      rw [dec_v (f := V.bl) (fun _ _ z => V.bl.inj z), ← e]
      exact fl
    · rw [den_non ha, den_non hb]
      refine .inl ⟨rfl, ?_⟩
      rw [decide_eq_true rfl, ← e]
      exact fl
    · obtain ⟨u, w, ku, kw, su, sw, e⟩ := eqDeep_some e
      refine .inr ⟨u, w, pd_dp _ _ _ (Den.mono s _ _ ha) ku, pd_dp _ _ _ (Den.mono s _ _ hb) kw, su, sw, ?_⟩
      rw [← e]
      exact fl
theorem rb_ne : RB K (rNeA K) gNe := fun Hh H a b x y d Q s ha hb h q => by
  unfold gNe at h
  cases k : eqB a b with
  | none => rw [k] at h; cases h
  | some r =>
    rw [k] at h
    cases h
    have fl : Q (.bl (!r)) H := flatQ (fun _ => by simp only [Den]) q
    rcases eqB_cases k with ⟨i, j, rfl, rfl, e⟩ | ⟨i, j, rfl, rfl, e⟩ | ⟨i, j, rfl, rfl, e⟩ | ⟨rfl, rfl, e⟩ | e
    · rw [den_int ha, den_int hb]
      refine .inl ⟨rfl, ?_⟩
      rw [dec_v (f := V.int) (fun _ _ z => V.int.inj z), ← e]
      exact fl
    · rw [den_str ha, den_str hb]
      refine .inl ⟨rfl, ?_⟩
      rw [dec_v (f := V.str) (fun _ _ z => V.str.inj z), ← e]
      exact fl
    · rw [den_bl ha, den_bl hb]
      refine .inl ⟨rfl, ?_⟩
      rw [dec_v (f := V.bl) (fun _ _ z => V.bl.inj z), ← e]
      exact fl
    · rw [den_non ha, den_non hb]
      refine .inl ⟨rfl, ?_⟩
      rw [decide_eq_true rfl, ← e]
      exact fl
    · obtain ⟨u, w, ku, kw, su, sw, e⟩ := eqDeep_some e
      refine .inr ⟨u, w, pd_dp _ _ _ (Den.mono s _ _ ha) ku, pd_dp _ _ _ (Den.mono s _ _ hb) kw, su, sw, ?_⟩
      rw [← e]
      exact fl
def non? : D → Bool
  | .non => true
  | _ => false
def gIsN : D → D → Option D
  | a, .non => some (.bl (non? a))
  | _, _ => none
def gNotN : D → D → Option D
  | a, .non => some (.bl (!non? a))
  | _, _ => none
theorem non_dec {H : Hp} {d : D} {v : V} (h : Den K H d v) : decide (v = .non) = non? d := by
  cases d with
  | non => rw [den_non h]; rfl
  | bl b => rw [den_bl h]; rfl
  | int b => rw [den_int h]; rfl
  | str b => rw [den_str h]; rfl
  | tup ds => obtain ⟨a, vs, rfl, _⟩ := den_tup h; rfl
  | lst ds => obtain ⟨a, vs, rfl, _⟩ := den_lst h; rfl
  | rls ds => simp only [Den] at h; obtain ⟨a, vs, rfl, _⟩ := h; rfl
  | dct ks ds => simp only [Den] at h; obtain ⟨a, vs, rfl, _⟩ := h; rfl
  | ty n => simp only [Den] at h; subst h; rfl
theorem rb_isN : RB K (fun x y H Q => y = .non ∧ Q (.bl (decide (x = .non))) H) gIsN := fun Hh H a b x y d Q s ha hb h q => by
  cases b with
  | non =>
    simp only [gIsN, Option.some.injEq] at h
    subst h
    refine ⟨den_non hb, ?_⟩
    rw [non_dec ha]
    exact flatQ (fun _ => by simp only [Den]) q
  | _ => simp only [gIsN] at h; cases h
theorem rb_notN : RB K (fun x y H Q => y = .non ∧ Q (.bl (!decide (x = .non))) H) gNotN := fun Hh H a b x y d Q s ha hb h q => by
  cases b with
  | non =>
    simp only [gNotN, Option.some.injEq] at h
    subst h
    refine ⟨den_non hb, ?_⟩
    rw [non_dec ha]
    exact flatQ (fun _ => by simp only [Den]) q
  | _ => simp only [gNotN] at h; cases h
/-! ### x[i] -/
def gIx : D → D → Option D
  | .tup ds, .int i => atI ds i
  | .lst ds, .int i => atI ds i
  | .rls ds, .int i => atI ds i
  | .str x, .int i => if x.length ≤ lim then (atI x.cps.toList i).map fun c => .str ⟨#[c]⟩ else none
  | _, _ => none
theorem atI_den {H : Hp} {ds : List D} {vs : List V} {i : Int} {d : D} (h : DenL K H ds vs) (e : atI ds i = some d) : ∃ v, atI vs i = some v ∧ Den K H d v := by
  unfold atI at e ⊢
  rw [← h.length]
  cases k : ixN ds.length i with
  | none => rw [k] at e; cases e
  | some j =>
    rw [k, Option.bind_some] at e
    obtain ⟨v, hv, dv⟩ := h.get e
    exact ⟨v, by rw [Option.bind_some]; exact hv, dv⟩
theorem rb_ix : RB K (rIx K) gIx := fun Hh H a b x y d Q s ha hb h q => by
  cases b with
  | int i =>
    cases a with
    | tup ds =>
      obtain ⟨p, vs, rfl, h1, h2⟩ := den_tup ha
      obtain ⟨v, hv, dv⟩ := atI_den h2 h
      exact .inr (.inl ⟨p, vs, i, v, rfl, den_int hb, Same.seqT s h1, hv, q v H (Same.refl _) (Fresh.flat dv)⟩)
    | lst ds =>
      obtain ⟨p, vs, rfl, h1, h2⟩ := den_lst ha
      obtain ⟨v, hv, dv⟩ := atI_den h2 h
      exact .inl ⟨p, vs, i, v, rfl, den_int hb, .inl (.inl (s _ _ h1)), hv, q v H (Same.refl _) (Fresh.flat dv)⟩
    | rls ds =>
      simp only [Den] at ha
      obtain ⟨p, vs, rfl, h1, h2⟩ := ha
      obtain ⟨v, hv, dv⟩ := atI_den h2 h
      exact .inl ⟨p, vs, i, v, rfl, den_int hb, s.seq h1, hv, q v H (Same.refl _) (Fresh.flat dv)⟩
    | str z =>
      simp only [gIx] at h
      by_cases c : z.length ≤ lim
      · rw [if_pos c] at h
        cases k : atI z.cps.toList i with
        | none => rw [k] at h; cases h
        | some w =>
          rw [k] at h
          cases h
          exact .inr (.inr ⟨z, i, w, den_str ha, den_int hb, by rw [← lim_eq]; exact c, k, flatQ (fun _ => by simp only [Den]) q⟩)
      · rw [if_neg c] at h; cases h
    | _ => cases h
  | _ => cases a <;> cases h
/-! ### built-ins -/
def fLen : List D → Option D
  | [.str x] => if x.length ≤ lim then some (.int x.length) else none
  | [.tup ds] => some (.int ds.length)
  | [.lst ds] => some (.int ds.length)
  | [.rls ds] => some (.int ds.length)
  | _ => none
def rLenA (K : PySem.W.Frag) : List V → Hp → VK → Prop := fun xs H Q => (∃ p ys, xs = [.ref p] ∧ (SqL K H p ys ∨ SqT K H p ys) ∧ Q (.int ys.length) H) ∨ ∃ z, xs = [.str z] ∧ z.length ≤ sizeLine ∧ Q (.int z.length) H
theorem call_lenA {X : Cx} : CallR X (.builtin "len") (rLenA X.K) := CallR.or call_len_seq call_len_str
theorem rc_len : RC K (rLenA K) fLen := fun Hh H ds vs d Q s h e q => by
  match ds, e with
  | [.str x], e =>
    simp only [fLen] at e
    by_cases c : x.length ≤ lim
    · rw [if_pos c] at e
      cases e
      obtain ⟨v, rfl, hv⟩ := den1 h
      rw [den_str hv]
      exact .inr ⟨x, rfl, by rw [← lim_eq]; exact c, flatQ (fun _ => by simp only [Den]) q⟩
    · rw [if_neg c] at e; cases e
  | [.tup es], e =>
    cases e
    obtain ⟨v, rfl, hv⟩ := den1 h
    obtain ⟨p, us, rfl, h1, h2⟩ := den_tup hv
    exact .inl ⟨p, us, rfl, .inr (Same.seqT s h1), flatQ (fun _ => by simp only [Den]; rw [h2.length]) q⟩
  | [.lst es], e =>
    cases e
    obtain ⟨v, rfl, hv⟩ := den1 h
    obtain ⟨p, us, rfl, h1, h2⟩ := den_lst hv
    exact .inl ⟨p, us, rfl, .inl (.inl (.inl (s _ _ h1))), flatQ (fun _ => by simp only [Den]; rw [h2.length]) q⟩
  | [.rls es], e =>
    cases e
    obtain ⟨v, rfl, hv⟩ := den1 h
    simp only [Den] at hv
    obtain ⟨p, us, rfl, h1, h2⟩ := hv
    exact .inl ⟨p, us, rfl, .inl (s.seq h1), flatQ (fun _ => by simp only [Den]; rw [h2.length]) q⟩
def fAbs : List D → Option D
  | [.int i] => some (.int (if i < 0 then -i else i))
  | _ => none
theorem rc_abs : RC K (fun xs H Q => ∃ i, xs = [.int i] ∧ Q (.int (if i < 0 then -i else i)) H) fAbs := fun Hh H ds vs d Q s h e q => by
  match ds, e with
  | [.int i], e =>
    cases e
    obtain ⟨v, rfl, hv⟩ := den1 h
    rw [den_int hv]
    exact ⟨i, rfl, flatQ (fun _ => by simp only [Den]) q⟩
def fMax2 : List D → Option D
  | [.int i, .int j] => some (.int (if j > i then j else i))
  | _ => none
def fMin2 : List D → Option D
  | [.int i, .int j] => some (.int (if j < i then j else i))
  | _ => none
theorem rc_max2 : RC K (fun xs H Q => ∃ i j, xs = [.int i, .int j] ∧ Q (.int (if j > i then j else i)) H) fMax2 := fun Hh H ds vs d Q s h e q => by
  match ds, e with
  | [.int i, .int j], e =>
    cases e
    obtain ⟨v, v', rfl, hv, hv'⟩ := den2 h
    rw [den_int hv, den_int hv']
    exact ⟨i, j, rfl, flatQ (fun _ => by simp only [Den]) q⟩
theorem rc_min2 : RC K (fun xs H Q => ∃ i j, xs = [.int i, .int j] ∧ Q (.int (if j < i then j else i)) H) fMin2 := fun Hh H ds vs d Q s h e q => by
  match ds, e with
  | [.int i, .int j], e =>
    cases e
    obtain ⟨v, v', rfl, hv, hv'⟩ := den2 h
    rw [den_int hv, den_int hv']
    exact ⟨i, j, rfl, flatQ (fun _ => by simp only [Den]) q⟩
def fInt : List D → Option D
  | [.int i] => some (.int i)
  | [.bl b] => some (.int (if b then 1 else 0))
  | _ => none
theorem rc_int : RC K (fun xs H Q => (∃ i, xs = [.int i] ∧ Q (.int i) H) ∨ ∃ k, xs = [.bl k] ∧ Q (.int (if k then 1 else 0)) H) fInt := fun Hh H ds vs d Q s h e q => by
  match ds, e with
  | [.int i], e =>
    cases e
    obtain ⟨v, rfl, hv⟩ := den1 h
    rw [den_int hv]
    exact .inl ⟨i, rfl, flatQ (fun _ => by simp only [Den]) q⟩
  | [.bl i], e =>
    cases e
    obtain ⟨v, rfl, hv⟩ := den1 h
    rw [den_bl hv]
    exact .inr ⟨i, rfl, flatQ (fun _ => by simp only [Den]) q⟩
def bls : List D → Option (List Bool)
  | [] => some []
  | .bl b :: ds => (bls ds).map (b :: ·)
  | _ :: _ => none
theorem bls_some {H : Hp} : ∀ {ds : List D} {bs : List Bool} {vs : List V}, bls ds = some bs → DenL K H ds vs → vs = bs.map V.bl
  | [], bs, vs, h, e => by simp only [bls, Option.some.injEq] at h; subst h; simp only [DenL] at e; exact e
  | d :: ds, bs, vs, h, e => by
    cases d with
    | bl b =>
      simp only [bls] at h
      simp only [DenL] at e
      obtain ⟨v, r, rfl, h1, h2⟩ := e
      cases k : bls ds with
      | none => rw [k] at h; cases h
      | some cs =>
        rw [k] at h
        cases h
        rw [den_bl h1, bls_some k h2]
        rfl
    | _ => cases h
def fAll : List D → Option D
  | [.lst ds] => (bls ds).map fun bs => .bl (bs.all id)
  | _ => none
theorem rc_all : RC K (rAll K) fAll := fun Hh H ds vs d Q s h e q => by
  match ds, e with
  | [.lst es], e =>
    simp only [fAll] at e
    cases k : bls es with
    | none => rw [k] at e; cases e
    | some bs =>
      rw [k] at e
      cases e
      obtain ⟨v, rfl, hv⟩ := den1 h
      obtain ⟨p, us, rfl, h1, h2⟩ := den_lst hv
      rw [bls_some k h2] at h1
      exact ⟨p, bs, rfl, .inl (.inl (s _ _ h1)), flatQ (fun _ => by simp only [Den]) q⟩
/-- isinstance(x, T) -/
def tyName : D → Option String
  | .non => some "NoneType"
  | .bl _ => some "bool"
  | .int _ => some "int"
  | .str _ => some "str"
  | .tup _ => some "tuple"
  | .lst _ => some "list"
  | .rls _ => some "list"
  | .dct _ _ => some "dict"
  | .ty _ => none
def isT (a b : String) : Option Bool := if a = "bool" ∧ b = "int" then some true else if ["int", "bool", "str", "tuple", "list", "dict"].contains b then some (decide (a = b)) else none
def fIs : List D → Option D
  | [d, .ty n] => (tyName d).bind fun a => (isT a n).map .bl
  | _ => none
theorem tyX {Hh H : Hp} {d : D} {v : V} {a : String} (s : Same Hh H) (h : Den K Hh d v) (e : tyName d = some a) : TyX K H v (.type a) := by
  cases d with
  | non => cases e; rw [den_non h]; exact .base .non
  | bl b => cases e; rw [den_bl h]; exact .base (.bl b)
  | int b => cases e; rw [den_int h]; exact .base (.int b)
  | str b => cases e; rw [den_str h]; exact .base (.str b)
  | tup ds =>
    cases e
    obtain ⟨p, vs, rfl, h1, _⟩ := den_tup h
    rcases Same.seqT s h1 with (h1 | ⟨o, h1⟩) | ⟨o, its, n, h1, h2, _⟩
    · exact .base (.tup h1)
    · exact .fTuple h1
    · exact .kTuple h1 h2
  | lst ds =>
    cases e
    obtain ⟨p, vs, rfl, h1, _⟩ := den_lst h
    exact .base (.lst (s _ _ h1))
  | rls ds =>
    cases e
    simp only [Den] at h
    obtain ⟨p, vs, rfl, h1, _⟩ := h
    rcases s.seq h1 with (h1 | ⟨o, h1⟩) | ⟨o, its, n, h1, h2, _⟩
    · exact .base (.lst h1)
    · exact .base (.frz h1)
    · exact .kList h1 h2
  | dct ks ds =>
    cases e
    simp only [Den] at h
    obtain ⟨p, vs, rfl, h1, _⟩ := h
    exact .base (.dK (s _ _ h1))
  | ty n => cases e
theorem isT_kit {a b : String} {r : Bool} (ha : a ∈ ["NoneType", "bool", "int", "str", "tuple", "list", "dict"]) (h : isT a b = some r) : kitB a b = some r := by
  have hb : b ∈ ["int", "bool", "str", "tuple", "list", "dict"] := by
    unfold isT at h
    by_cases c : a = "bool" ∧ b = "int"
    · rw [c.2]; decide
    · rw [if_neg c] at h
      by_cases c2 : ["int", "bool", "str", "tuple", "list", "dict"].contains b = true
      · exact List.contains_iff_mem.mp c2
      · rw [if_neg c2] at h; cases h
  have key : ∀ a ∈ ["NoneType", "bool", "int", "str", "tuple", "list", "dict"], ∀ b ∈ ["int", "bool", "str", "tuple", "list", "dict"], kitB a b = isT a b := by decide +kernel
  rw [key a ha b hb]
  exact h
theorem tyName_mem {d : D} {a : String} (e : tyName d = some a) : a ∈ ["NoneType", "bool", "int", "str", "tuple", "list", "dict"] := by
  cases d <;> simp only [tyName, Option.some.injEq] at e <;> first | (subst e; decide) | cases e
theorem rc_is : RC K (rIsi K) fIs := fun Hh H ds vs d Q s h e q => by
  match ds, e with
  | [x, .ty n], e =>
    simp only [fIs] at e
    cases k : tyName x with
    | none => rw [k] at e; cases e
    | some a =>
      rw [k, Option.bind_some] at e
      cases k2 : isT a n with
      | none => rw [k2] at e; cases e
      | some r =>
        rw [k2] at e
        cases e
        obtain ⟨v, v', rfl, hv, hv'⟩ := den2 h
        simp only [Den] at hv'
        subst hv'
        exact ⟨v, .ty n, .type a, .type n, r, rfl, .ty n, tyX s hv k, kit_ty (isT_kit (tyName_mem k) k2), flatQ (fun _ => by simp only [Den]) q⟩
end
section
variable {X : Cx} {W : WX} {pos : Pos}
theorem v_ty {x : Str} {n : String} (hg : Gl X x) (hm : X.mg x = none) (hv : bootBuiltins x = some (.type n) := by decide +kernel) (hn : x ≠ "__name__" := by decide) (hd : (x == ("__debug__" : Str)) = false := by decide) : PE X (.Name x pos) (rE X.K X.mg W (eC (.ty n))) :=
  v_const (pe_bltn hg hm hv (v := .ty n) rfl hn hd) fun _ => by simp only [Den]
theorem v_globI {x : Str} {i : Int} {u : Value} (hg : Gl X x) (hm : X.mg x = some u) (r : RelV (.int i) u) (hd : (x == ("__debug__" : Str)) = false := by decide) : PE X (.Name x pos) (rE X.K X.mg W (eC (.int i))) :=
  v_const (pe_glob hg hm r hd) fun _ => by simp only [Den]
theorem v_globS {x i : Str} {u : Value} (hg : Gl X x) (hm : X.mg x = some u) (r : RelV (.str i) u) (hd : (x == ("__debug__" : Str)) = false := by decide) : PE X (.Name x pos) (rE X.K X.mg W (eC (.str i))) :=
  v_const (pe_glob hg hm r hd) fun _ => by simp only [Den]
theorem v_blt {x : Str} {id : String} {r : List V → Hp → VK → Prop} {g : List D → Option D} {p : Pos} {a : Expr} {es : List Expr} {f : FA} (hr : RC X.K r g) (hc : CallR X (.builtin id) r) (hg : Gl X x) (hm : X.mg x = none) (ha : PA X (a :: es) (rA X.K X.mg W f)) (hv : bootBuiltins x = some (.builtin id) := by decide +kernel)
    (hn : x ≠ "__name__" := by decide) (hdb : (x == ("__debug__" : Str)) = false := by decide) (he : starEach (a :: es) X.env = (false, eval a X.env) :: starEach es X.env := by rfl) (hpl : (backTo pos (starEach es X.env)).any (·.1) = false := by rfl) :
    PE X (.Call (.Name x p) (a :: es) [] pos) (rE X.K X.mg W (eF g f)) := (pe_callB hc hg hm hv ha hn hdb he hpl).imp (rC_of hr)
theorem v_bty {x : Str} {T : String} {r : List V → Hp → VK → Prop} {g : List D → Option D} {p : Pos} {a : Expr} {es : List Expr} {f : FA} (hr : RC X.K r g) (hc : CallR X (.type T) r) (hg : Gl X x) (hm : X.mg x = none) (ha : PA X (a :: es) (rA X.K X.mg W f)) (hv : bootBuiltins x = some (.type T) := by decide +kernel)
    (hn : x ≠ "__name__" := by decide) (hdb : (x == ("__debug__" : Str)) = false := by decide) (he : starEach (a :: es) X.env = (false, eval a X.env) :: starEach es X.env := by rfl) (hpl : (backTo pos (starEach es X.env)).any (·.1) = false := by rfl) :
    PE X (.Call (.Name x p) (a :: es) [] pos) (rE X.K X.mg W (eF g f)) := (pe_callTy hc hg hm hv ha hn hdb he hpl).imp (rC_of hr)
end
end Mi
namespace Mi
open PySem PySem.Spec PyProof.Rows L2 RT
section
variable {prog : Program} {w : World} {A : Around} {E : Value → Shared → Prop} {s : Shared}
theorem ext_rev {R : Result → Shared → Prop} {it l S : Addr} {items : Array Value} {res : Value} {c₀ : Nat} (hh : A.handled = none) (hit : s.heap.IsRevIter it l ((items.size : Int) - 1)) (hl : s.heap.IsList l items) (hne : l ≠ it) (hn : items.size ≤ sizeLine)
    (hS : s.heap.get? S = some { cls := .type "list", data := .seq #[] c₀ }) (hSi : S ≠ it) (hSl : S ≠ l)
    (hR : ∀ h' tk acc' c', (∀ b o, b ≠ S → b ≠ it → s.heap.get? b = some o → h'.get? b = some o) → h'.get? S = some { cls := .type "list", dict := none, data := .seq acc' c', slots := #[] } →
      ItemsOf (fun i v => items[items.size - 1 - i]? = some v) acc' items.size → R (.ok (.ret res)) { s with heap := h', toks := tk }) :
    wpAny (model prog w) A.in1 (Builtin.List.listExtendWith (.ref S) (.ref it) res)
      (fun fin s' => match fin with | .done f => R (.ok f) s' | .again c' => c'.quiet = true ∧ codeAny (model prog w) A c' R s') (fun e s' => R (.error e) s') s := by
  have W := (Walks.listRev (prog := prog) (w := w) (A := A.in1) hh it l hne items).toS
  have hSf : S ∉ [it, l] := by simp only [List.mem_cons, List.not_mem_nil, or_false, not_or]; exact ⟨hSi, hSl⟩
  have hT : s.TypeIs (.ref it) "list_reverseiterator" := hit.typeIs
  have h1 : Builtin.List.listSameRef (.ref S) (.ref it) = false := by simp [Builtin.List.listSameRef, hSi]
  unfold Builtin.List.listExtendWith
  refine wpAny_bind (wpAny_typeOf hT ?_)
  rw [if_neg (by rw [h1]; decide)]
  refine wpAny_bind (wpAny_pyIter_revIter hit ?_)
  refine wpAny_bind (wpAny_holding ?_)
  unfold Builtin.List.listLengthHint
  refine wpAny_bind (wpAny_specialOf hT nolen_lri ?_)
  show wpAny _ A.in1 (specialOf (Value.ref it) (Str.ofString "__length_hint__") >>= _) _ _ _
  refine wpAny_bind (wpAny_specialOf hT hint_lri ?_)
  generalize hid : ("list_reverseiterator.__length_hint__" : String) = id0
  wp_delta
  rw [show splitId id0 = some ("list_reverseiterator", "__length_hint__") from by subst hid; decide +kernel]
  subst hid
  refine wpAny_bind (wpAny_isInstance (b := true) hT (by rw [isSubtype_type]; kernel_rfl) ?_)
  refine wpAny_pure ?_
  rw [if_neg (by decide)]
  have e0 : ((items.size : Nat) : Int) - 1 - ((0 : Nat) : Int) = (items.size : Int) - 1 := by omega
  refine wpAny_pure ⟨plainId_quiet F.plain_extend_loop _, codeAny_extend_loopS W hn S hSf res items.size 0 _ _ _ rfl (Nat.zero_le _) ⟨Nat.zero_le _, by rw [e0]; exact hit, hl⟩ hS (ItemsOf.nil _) fun s' acc' c' hm hS' hacc => ?_⟩
  rw [Moved.eq_with hm]
  refine hR s'.heap s'.toks acc' c' (fun b o hb hb' e => hm.heap b o (fun hmem => ?_) e) hS' hacc
  rcases List.mem_cons.mp hmem with e' | hmem
  · exact hb e'
  · exact hb' (List.mem_singleton.mp hmem)
theorem list_init_rev {R : Result → Shared → Prop} {it l S : Addr} {items : Array Value} (hh : A.handled = none) (hit : s.heap.IsRevIter it l ((items.size : Int) - 1)) (hl : s.heap.IsList l items) (hne : l ≠ it) (hn : items.size ≤ sizeLine)
    (hS : s.heap.get? S = some { cls := .type "list", data := .seq #[] }) (hSi : S ≠ it) (hSl : S ≠ l)
    (hR : ∀ h' tk acc' c', (∀ b o, b ≠ S → b ≠ it → s.heap.get? b = some o → h'.get? b = some o) → h'.get? S = some { cls := .type "list", dict := none, data := .seq acc' c', slots := #[] } →
      ItemsOf (fun i v => items[items.size - 1 - i]? = some v) acc' items.size → R (.ok (.ret .none)) { s with heap := h', toks := tk }) :
    wpAny (model prog w) A.in1 (Builtin.«list.__init__» ⟨[.ref S, .ref it], []⟩)
      (fun fin s' => match fin with | .done f => R (.ok f) s' | .again c' => c'.quiet = true ∧ codeAny (model prog w) A c' R s') (fun e s' => R (.error e) s') s := by
  show wpAny _ _ (do let old ← Builtin.List.listItems (.ref S); Builtin.List.listUpdate (.ref S) (fun _ => #[]); letGo old.toList.reverse; Builtin.List.listExtendWith (.ref S) (.ref it) .none) _ _ s
  refine wpAny_bind ?_
  unfold Builtin.List.listItems
  refine wpAny_bind (wpAny_seqItems hS rfl (wpAny_pure ?_))
  show wpAny _ _ (updateSeq S (fun _ => #[]) >>= fun _ => letGo (#[] : Array Value).toList.reverse >>= fun _ => Builtin.List.listExtendWith (.ref S) (.ref it) .none) _ _ s
  refine wpAny_bind (wpAny_updateSeq hS rfl ?_)
  have hS₂ := Heap.get?_update_self (Obj.mapSeq (fun _ => (#[] : Array Value))) hS rfl
  have oth : ∀ b o, b ≠ S → s.heap.get? b = some o → (s.heap.update S (Obj.mapSeq (fun _ => (#[] : Array Value)))).get? b = some o :=
    fun b o hb e => (Heap.get?_update_other _ _ (Ne.symm hb)).trans e
  refine wpAny_bind (wpAny_letGo ?_)
  obtain ⟨ol, hol, hcl, nl, hdl⟩ := hl
  refine ext_rev (s := { s with heap := s.heap.update S (Obj.mapSeq (fun _ => (#[] : Array Value))) }) hh (hit.at fun o e => oth it o (Ne.symm hSi) e) ⟨ol, oth l ol (Ne.symm hSl) hol, hcl, nl, hdl⟩ hne hn hS₂ hSi hSl fun h' tk acc' c' hk hS' hacc => ?_
  exact hR h' tk acc' c' (fun b o hb hb' e => hk b o hb hb' (oth b o hb e)) hS' hacc
theorem call_list_rev {it l : Addr} {items : Array Value} {Q : Value → Shared → Prop} (hh : A.handled = none) (hit : s.heap.IsRevIter it l ((items.size : Int) - 1)) (hl : s.heap.IsList l items) (hne : l ≠ it) (hn : items.size ≤ sizeLine)
    (hQ : ∀ h' tk acc' c', (∀ b o, b ≠ it → s.heap.get? b = some o → h'.get? b = some o) → h'.get? s.heap.objs.size = some { cls := .type "list", dict := none, data := .seq acc' c', slots := #[] } →
      ItemsOf (fun i v => items[items.size - 1 - i]? = some v) acc' items.size → Q (.ref s.heap.objs.size) { s with heap := h', toks := tk }) :
    wpAny (model prog w) A (call (.type "list") [.ref it]) Q E s := by
  refine callType_codes (Q₁ := fun obj s₁ => obj = .ref s.heap.objs.size ∧ s₁ = { s with heap := s.heap.push { cls := .type "list", data := .seq #[] } }) F.called_list (F.typeCall_list_1 _) F.entry_list_init
    (code_list_new _ ⟨rfl, rfl⟩) fun obj s₁ h₁ => ?_
  obtain ⟨rfl, rfl⟩ := h₁
  have hS : (s.heap.push { cls := .type "list", data := .seq #[] }).get? s.heap.objs.size = some { cls := .type "list", data := .seq #[] } := Heap.get?_push_size _ rfl
  obtain ⟨oi, hoi, _⟩ := id hit
  obtain ⟨ol, hol, _⟩ := id hl
  refine ⟨⟨_, hS, rfl⟩, F.args_list_init_2 _ _, list_init_rev (A := A.in1) (s := { s with heap := s.heap.push { cls := .type "list", data := .seq #[] } }) hh (hit.at fun o e => Heap.get?_push_of_some _ e) (hl.push _) hne hn hS (Nat.ne_of_gt (Heap.lt_size hoi)) (Nat.ne_of_gt (Heap.lt_size hol)) fun h' tk acc' c' hk hS' hacc => ?_⟩
  exact ⟨rfl, hQ h' tk acc' c' (fun b o hb e => hk b o (Nat.ne_of_lt (Heap.lt_size e)) hb (Heap.get?_push_of_some _ e)) hS' hacc⟩
end
section
variable {X : Cx} {W : WX}
def tLstRev (K : PySem.W.Frag) (te : TE) : TE := fun σ H Q => te σ H fun v H1 => ∃ (a : Addr) (xs : List V), v = .ref a ∧ SqL K H1 a xs ∧ ∀ p, H1 p = none → Q (.ref p) (upd H1 p (.lst xs.reverse))
theorem pe_lstRev {e : Expr} {te : TE} {p p2 pos pos2 : Pos} (hc : X.calm = true) (hg : Gl X "list") (hm : X.mg "list" = none) (hg2 : Gl X "reversed") (hm2 : X.mg "reversed" = none) (he : PE X e te)
    (hs : starEach [e] X.env = (false, eval e X.env) :: starEach [] X.env := by rfl)
    (hs2 : starEach [.Call (.Name "reversed" p2) [e] [] pos2] X.env = (false, eval (.Call (.Name "reversed" p2) [e] [] pos2) X.env) :: starEach [] X.env := by rfl) :
    PE X (.Call (.Name "list" p) [.Call (.Name "reversed" p2) [e] [] pos2] [] pos) (tLstRev X.K te) := by
  refine ⟨fun pins s σ H Q I h => ?_⟩
  refine Call_ (ld_blt I hg hm boot_list (PyProof.Rows.callWith_type1 (args_cons (Call_ (ld_blt I hg2 hm2 PyProof.Rows.boot_reversed (PyProof.Rows.callWith_type1 (args_cons (thn (he.run pins s σ H _ I h) fun u s1 ⟨v, H1, I1, r1, q1⟩ => args_nil ?_) hs) hs rfl))) hs2) hs2 rfl))
  obtain ⟨a, xs, ev, hq, q⟩ := q1
  subst ev
  obtain rfl : u = Value.ref a := r1
  obtain ⟨its, rv, p', hz⟩ := I1.list hq
  refine call_reversed_list p'.isList (args_nil ?_)
  have k0 : ∀ b o, s1.heap.get? b = some o → (s1.heap.push (revObj a ((its.toArray.size : Int) - 1))).get? b = some o := fun b o e => Heap.get?_push_of_some _ e
  have I2 : Inv X pins σ H1 { s1 with heap := s1.heap.push (revObj a ((its.toArray.size : Int) - 1)) } := I1.kept (t' := s1.toks) k0
  obtain ⟨f0, f1, f2, f3, f4, f5⟩ := I1.fpOk (H' := H1) (b := s1.heap.objs.size) (Nat.le_refl _) (I1.hok.fresh (Nat.le_refl _))
  have hl := p'.isList
  obtain ⟨ol, hol, _⟩ := id hl
  have hne : a ≠ s1.heap.objs.size := Nat.ne_of_lt (Heap.lt_size hol)
  have hn : its.toArray.size ≤ sizeLine := by rw [List.size_toArray, ← rv.length]; exact hz
  refine call_list_rev (s := { s1 with heap := s1.heap.push (revObj a ((its.toArray.size : Int) - 1)) }) (I1.ok.hd hc) ⟨_, Heap.get?_push_size _ rfl, rfl, rfl⟩ (hl.push _) hne hn fun h' tk acc c' hk hS' hi => ?_
  have hf : ∀ b ∈ [s1.heap.objs.size], FpOk X pins H1 b := fun b hb => by
    rw [List.mem_singleton.mp hb]
    exact ⟨f0, f1, f2, f3, f4, f5⟩
  have hfr := I2.hok.fresh (Nat.le_refl _)
  have new : ObjOk X.prog X.w (upd H1 (s1.heap.push (revObj a ((its.toArray.size : Int) - 1))).objs.size (.lst xs.reverse)) h' (s1.heap.push (revObj a ((its.toArray.size : Int) - 1))).objs.size (.lst xs.reverse) :=
    ⟨by rw [List.length_reverse]; exact hz, acc.toList, c', vals_rev rv hi, by rw [Array.toArray_toList]; exact hS'⟩
  have I3 := I2.turnedNew (t' := tk) (ch := [s1.heap.objs.size]) (fun b o hb e => hk b o (fun z => hb (by rw [z]; exact List.mem_singleton.mpr rfl)) e) hf (Nat.le_refl _) new
  exact ⟨.ref _, _, I3, rfl, q _ hfr⟩
def gRevL (d : D) : Option (List D) := (lst? d).map List.reverse
def nU (g : D → Option (List D)) (fa : FE) : FA := fun e => (fa e).bind fun p => match g p.1 with
  | some d => .ok (d, p.2)
  | none => .err
theorem n_lstRev {e : Expr} {f : FE} {p p2 pos pos2 : Pos} (hc : X.calm = true) (hg : Gl X "list") (hm : X.mg "list" = none) (hg2 : Gl X "reversed") (hm2 : X.mg "reversed" = none) (he : PE X e (rE X.K X.mg W f))
    (hs : starEach [e] X.env = (false, eval e X.env) :: starEach [] X.env := by rfl)
    (hs2 : starEach [.Call (.Name "reversed" p2) [e] [] pos2] X.env = (false, eval (.Call (.Name "reversed" p2) [e] [] pos2) X.env) :: starEach [] X.env := by rfl) :
    PE X (.Call (.Name "list" p) [.Call (.Name "reversed" p2) [e] [] pos2] [] pos) (rN X.K X.mg W (nU gRevL f)) :=
  (pe_lstRev hc hg hm hg2 hm2 he hs hs2).imp fun σ H Q ⟨A, en, r, q⟩ => by
    refine rN_seq r q fun d e1 x H1 _ r1 s1 d1 p1 => ?_
    unfold gRevL at p1
    cases k : lst? d with
    | none => simp only [k, Option.map_none] at p1; exact p1.elim
    | some ds =>
      simp only [k, Option.map_some] at p1
      obtain ⟨a, vs, rfl, h1, h2⟩ := den_lst? d1 k
      exact ⟨a, vs, rfl, hid_sub.seq h1, fun t ht => finN r1 p1 ht (DenL.reverse h2)⟩
end
/-! ### op= -/
section
variable {X : Cx}
theorem ip_mulW : PIp X .Mult (L2.rI CMulX fun i j => .int (i * j)) := by
  intro pins s σ H x y v u Q I r1 r2 h
  obtain ⟨i, j, e1, e2, hc, q⟩ := h
  subst e1; subst e2
  obtain ⟨t, rfl⟩ := r1
  obtain ⟨t', rfl⟩ := r2
  exact PyProof.Rows.imul_int ⟨.int _, H, I.tok _, ⟨_, rfl⟩, q⟩ hc.ok
abbrev gAddI := gI T2 fun i j => .int (i + j)
theorem rb_ipadd {K : PySem.W.Frag} : RB K (ipI fun i j => i + j) gAddI := fun Hh H a b x y d Q s ha hb h q => by
  obtain ⟨i, j, rfl, rfl, _, rfl⟩ := gI_some h
  exact ⟨i, j, den_int ha, den_int hb, flatQ (fun _ => by simp only [Den]) q⟩
theorem rb_ipsub {K : PySem.W.Frag} : RB K (ipI fun i j => i - j) gSub := fun Hh H a b x y d Q s ha hb h q => by
  obtain ⟨i, j, rfl, rfl, _, rfl⟩ := gI_some h
  exact ⟨i, j, den_int ha, den_int hb, flatQ (fun _ => by simp only [Den]) q⟩
end
end Mi
namespace Mi
open PySem PySem.Spec PyProof.Rows L2

section
variable {X : Cx} {W : WX} {pos : Pos} {a b c : Expr} {fa fb fc : FE}
/-! ### a statement that is an expression -/
def sExp (f : FE) : FS := fun e => (f e).bind fun p => .ok (.nx p.2)
theorem vs_expr (ha : PE X a (rE X.K X.mg W fa)) (hs : swapsWith a none pos.line X.env = pure false := by rfl) : PS X (.Expr a pos) (rdS X.K X.mg W (sExp fa)) :=
  (ps_expr ha hs).imp fun D σ H ⟨A, e, r, p⟩ => by
    refine ⟨A, e, r, ?_⟩
    unfold sExp at p
    cases q : fa e with
    | ok z =>
      rw [q] at p
      exact fun v H' r' s' d' => p σ H' r' s'
    | exc c e1 =>
      rw [q] at p
      exact fun H' r' => p σ H' r'
    | err => rw [q] at p; exact p
end
/-! ### // of great ints, by any divisor that is above a little below the other -/
theorem noPylong_near {x y : Int} (h : x.natAbs.log2 < 13500) : Builtin.divisionGoesByPylong x y = false := by
  show (decide ((if y == 0 then 0 else y.natAbs.log2 / 30 + 1) > 300) && decide ((if x == 0 then 0 else x.natAbs.log2 / 30 + 1) > (if y == 0 then 0 else y.natAbs.log2 / 30 + 1) + 150)) = false
  rw [Bool.and_eq_false_iff]
  by_cases c : (if y == 0 then 0 else y.natAbs.log2 / 30 + 1) > 300
  · refine .inr (decide_eq_false ?_)
    generalize (if y == 0 then 0 else y.natAbs.log2 / 30 + 1) = k at c
    have : (if (x == 0) = true then 0 else x.natAbs.log2 / 30 + 1) ≤ 450 := by
      split <;> omega
    omega
  · exact .inl (decide_eq_false c)
def CDivX (i j : Int) : Prop := 0 < j ∧ (j.natAbs.log2 < 9000 ∨ i.natAbs.log2 < 13500)
theorem noPyX {i j : Int} (h : CDivX i j) : Builtin.divisionGoesByPylong i j = false := h.2.elim PyProof.noPylong_of_log2 noPylong_near
theorem op_fdivX {X : Cx} : OpR X (binaryOp .FloorDiv) (L2.rI CDivX fun i j => .int (i / j)) := opI fun i j _ _ _ _ _ hc q => by
  have h1 : (0 : Int) < j := hc.1
  exact floordiv_int (by omega) (by rw [Int.fdiv_eq_ediv_of_nonneg i (by omega)]; exact q) (.inl (noPyX hc))
def divXOk (i j : Int) : Bool := decide (0 < j) && (decide (j.natAbs.log2 < 9000) || decide (i.natAbs.log2 < 13500))
theorem divXOk_iff {i j : Int} : divXOk i j = true ↔ CDivX i j := by
  unfold divXOk CDivX
  rw [Bool.and_eq_true, Bool.or_eq_true, decide_eq_true_iff, decide_eq_true_iff, decide_eq_true_iff]
abbrev gDivX := gI divXOk fun i j => .int (i / j)
theorem rb_divX {K : PySem.W.Frag} : RB K (L2.rI CDivX fun i j => .int (i / j)) gDivX := rb_I (fun i j h => divXOk_iff.1 h) fun _ _ _ => by simp only [Den]
theorem _root_.L2.Room.hu {k : Nat} {A : Around} (r : Room k A) : A.units + 64 < cLine := by have := r.un; omega
/-- turns enough for any while -/
def fuelN : Nat := 1099511627776
/-! ### where a def stands, a call of it -/
def DefA (K : PySem.W.Frag) (mg : Str → Option Value) (x : Str) (st : Stmt) (ps : List Str) : Prop :=
  ∃ (f : Addr) (fd : FuncData), Fun K x x st f fd ∧ mg x = some (.ref f) ∧ PySem.W.keepIn K (.ref f) = true ∧ Binds K fd ps []
def CallA (P : Program) (w : World) (K : PySem.W.Frag) (mg : Str → Option Value) (base : Heap) (k : Nat) (x : Str) (n : Nat) (fr : Bool) (fn : List D → R D) : Prop :=
  ∃ (fa : Addr) (fd : FuncData) (ps : List Str), FnOk P w K mg base (L2.CX P w) k fa fd ps (spA K mg n fr fn) ∧ PySem.W.keepIn K (.ref fa) = true ∧ Binds K fd ps [] ∧ mg x = some (.ref fa)
def CallB (P : Program) (w : World) (K : PySem.W.Frag) (mg : Str → Option Value) (base : Heap) (k : Nat) (x : Str) (n : Nat) (fn : List Int → List D → R (D × List Int)) : Prop :=
  ∃ (fa : Addr) (fd : FuncData) (ps : List Str), FnOk P w K mg base (L2.CX P w) k fa fd ps (spB K n fn) ∧ PySem.W.keepIn K (.ref fa) = true ∧ Binds K fd ps [] ∧ mg x = some (.ref fa)
def ExcA (K : PySem.W.Frag) (mg : Str → Option Value) (x : Str) : Prop :=
  ∃ C : Addr, mg x = some (.ref C) ∧ PySem.W.excIn K C He.veBase "ValueError.__new__" = true ∧ PySem.W.keepIn K (.ref C) = true ∧ PySem.W.subIn K (.ref C) (.type "BaseException") = some true ∧ PySem.W.typeIn K (.ref C) = some (.type "type")
def IntA (mg : Str → Option Value) (x : Str) (i : Int) : Prop := ∃ t, mg x = some (.int i t)
section
variable {X : Cx} {W : WX} {pos p : Pos} {x : Str} {a : Expr} {es : List Expr} {f : FA} {k n : Nat}
theorem v_callU {fr : Bool} {fn : List D → R D} (h : CallA X.prog X.w X.K X.mg X.base k x n fr fn) (hr : Room k X.A) (tk : Takes X W) (hg : Gl X x) (ha : PA X (a :: es) (rA X.K X.mg W f)) (hdb : (x == ("__debug__" : Str)) = false := by decide)
    (he : starEach (a :: es) X.env = (false, eval a X.env) :: starEach es X.env := by rfl) (hpl : (backTo pos (starEach es X.env)).any (·.1) = false := by rfl) : PE X (.Call (.Name x p) (a :: es) [] pos) (rE X.K X.mg W (eCall n fn f)) := by
  obtain ⟨fa, fd, ps, F, hk, hb, hm⟩ := h
  exact v_call F hr tk hk hb hm hg ha hdb he hpl
theorem n_callU {fn : List D → R D} (h : CallA X.prog X.w X.K X.mg X.base k x n true fn) (hr : Room k X.A) (tk : Takes X W) (hg : Gl X x) (ha : PA X (a :: es) (rA X.K X.mg W f)) (hdb : (x == ("__debug__" : Str)) = false := by decide)
    (he : starEach (a :: es) X.env = (false, eval a X.env) :: starEach es X.env := by rfl) (hpl : (backTo pos (starEach es X.env)).any (·.1) = false := by rfl) : PE X (.Call (.Name x p) (a :: es) [] pos) (rN X.K X.mg W (nCall n fn f)) := by
  obtain ⟨fa, fd, ps, F, hk, hb, hm⟩ := h
  exact n_call F hr tk hk hb hm hg ha hdb he hpl
theorem v_callBU (i : Nat) {y : Str} {py : Pos} {fn : List Int → List D → R (D × List Int)} (h : CallB X.prog X.w X.K X.mg X.base k x n fn) (hr : Room k X.A) (tk : Takes X W) (hg : Gl X x)
    (ha : PA X es (rA X.K X.mg W f)) (hN : X.N[i]? = some y := by rfl) (hv : Vis X.env.scope y := by first | exact Or.inl rfl | exact Or.inr (Or.inl rfl) | exact Or.inr (Or.inr rfl)) (hd : (y == ("__debug__" : Str)) = false := by decide) (hcd : (y == ("__classdict__" : Str)) = false := by decide)
    (hdb : (x == ("__debug__" : Str)) = false := by decide) (he : starEach (.Name y py :: es) X.env = (false, eval (.Name y py) X.env) :: starEach es X.env := by rfl) (hpl : (backTo pos (starEach es X.env)).any (·.1) = false := by rfl) :
    PE X (.Call (.Name x p) (.Name y py :: es) [] pos) (rE X.K X.mg W (eCallB n i fn f)) := by
  obtain ⟨fa, fd, ps, F, hk, hb, hm⟩ := h
  exact v_callB i F hr tk hk hb hm hg ha hN hv hd hcd hdb he hpl
theorem vs_raiseU {m : Str} {j : Nat} {p2 cp : Pos} (h : ExcA X.K X.mg x) (hc : X.calm = true) (tk : Takes X W) (hg : Gl X x) (hdb : (x == ("__debug__" : Str)) = false := by decide) :
    PS X (.Raise (some (.Call (.Name x p) [.Constant (.str m) j p2] [] cp)) none pos) (rdS X.K X.mg W (sRaise x)) := by
  obtain ⟨C, h1, h2, h3, h4, h5⟩ := h
  exact vs_raise hc tk PySem.F.excBase_ValueError h2 h1 h3 (raises_own h4 h5) hg hdb
theorem v_globIU {i : Int} (h : IntA X.mg x i) (hg : Gl X x) (hd : (x == ("__debug__" : Str)) = false := by decide) : PE X (.Name x pos) (rE X.K X.mg W (eC (.int i))) := by
  obtain ⟨t, h⟩ := h
  exact v_globI hg h ⟨t, rfl⟩ hd
end
end Mi
namespace Mi
open PySem PySem.Spec PyProof.Rows L2
/-! What the readings compute, one step each: for simp only [mi, mo, ..]. sSeq, whF, forF, nLc, eCallB, runA, runB are left out. -/
theorem mi0 : (∀ {α β : Type} (x : α) (f : α → R β), (R.ok x).bind f = f x) ∧
  (∀ {α β : Type} (c : Str) (e : En) (f : α → R β), (R.exc c e : R α).bind f = .exc c e) ∧
  (∀ (d : D) (e : En), eC d e = .ok (d, e)) ∧
  (∀ (i : Nat) (e : En), eV i e = match e[i]? with | some (.val d) => .ok (d, e) | some (.own ds) => .ok (.lst ds, e.set i (.val (.lst ds))) | _ => .err) ∧
  (∀ (g : D → D → Option D) (f h : FE) (e : En), eB g f h e = (f e).bind fun p => (h p.2).bind fun q => match g p.1 q.1 with | some d => .ok (d, q.2) | none => .err) ∧
  (∀ (g : D → Option D) (f : FE) (e : En), eU g f e = (f e).bind fun p => match g p.1 with | some d => .ok (d, p.2) | none => .err) ∧
  (∀ (e : En), aN e = .ok ([], e)) ∧
  (∀ (f : FE) (a : FA) (e : En), aC f a e = (f e).bind fun p => (a p.2).bind fun q => .ok (p.1 :: q.1, q.2)) ∧
  (∀ (a : FA) (e : En), eTup a e = (a e).bind fun p => if p.1.length ≤ lim then .ok (.tup p.1, p.2) else .err) ∧
  (∀ (a : FA) (e : En), eLst a e = (a e).bind fun p => if p.1.length ≤ lim then .ok (.lst p.1, p.2) else .err) ∧
  (∀ (g : List D → Option D) (a : FA) (e : En), eF g a e = (a e).bind fun p => match g p.1 with | some d => .ok (d, p.2) | none => .err) ∧
  (∀ (f h : FE) (e : En), eAnd f h e = (f e).bind fun p => match p.1 with | .bl true => h p.2 | .bl false => .ok (.bl false, p.2) | _ => .err) :=
  ⟨by intros; rfl, by intros; rfl, by intros; rfl, by intros; rfl, by intros; rfl, by intros; rfl, by intros; rfl, by intros; rfl, by intros; rfl, by intros; rfl, by intros; rfl, by intros; rfl⟩
theorem mi1 : (∀ (f h : FE) (e : En), eOr f h e = (f e).bind fun p => match p.1 with | .bl false => h p.2 | .bl true => .ok (.bl true, p.2) | _ => .err) ∧
  (∀ (f : FE) (e : En), eNot f e = (f e).bind fun p => match (match p.1 with | .bl b => some (D.bl (!b)) | _ => none) with | some d => .ok (d, p.2) | none => .err) ∧
  (∀ (k : FT) (f h : FE) (e : En), eIf k f h e = (k e).bind fun p => if p.1 = true then f p.2 else h p.2) ∧
  (∀ (f : FE) (e : En), tE f e = (f e).bind fun p => match truth p.1 with | some k => .ok (k, p.2) | none => .err) ∧
  (∀ (f : FE) (e : En), tC1 f e = (f e).bind fun p => match bl? p.1 with | some k => .ok (k, p.2) | none => .err) ∧
  (∀ (b : Bool), bl? (.bl b) = some b) ∧
  (∀ (b : Bool), truth (.bl b) = some b) ∧
  (∀ (b : Int), truth (.int b) = some (b != 0)) ∧
  (∀ (k l : FT) (e : En), tAnd1 k l e = (k e).bind fun p => if p.1 = true then l p.2 else .ok (false, p.2)) ∧
  (∀ (k l : FT) (e : En), tOr1 k l e = (k e).bind fun p => if p.1 = true then .ok (true, p.2) else l p.2) ∧
  (∀ (k : FT) (e : En), tNot1 k e = (k e).bind fun p => .ok (!p.1, p.2)) ∧
  (∀ (g g' : D → D → Option D) (fa fb fc : FE) (e : En), eCh g g' fa fb fc e = (fa e).bind fun p => (fb p.2).bind fun q => match (g p.1 q.1).bind bl? with | some true => ((fc q.2).bind fun s => match g' q.1 s.1 with | some d => .ok (d, s.2) | none => .err) | some false => .ok (.bl false, q.2) | none => .err) :=
  ⟨by intros; rfl, by intros; rfl, by intros; rfl, by intros; rfl, by intros; rfl, by intros; rfl, by intros; rfl, by intros; rfl, by intros; rfl, by intros; rfl, by intros; rfl, by intros; rfl⟩
theorem mi2 : (∀ (i : Nat) (d : D) (e : En), gN i d e = some (e.set i (.val d))) ∧
  (∀ (e : En), gsN [] e = some e) ∧
  (∀ (G : TD) (Gs : TDs) (d : D) (r : List D) (e : En), gsC G Gs (d :: r) e = (G d e).bind (Gs r)) ∧
  (∀ (n : Nat) (Gs : TDs) (ds : List D) (e : En), gT n Gs (.tup ds) e = if ds.length = n then Gs ds e else none) ∧
  (∀ (e : En), sNx e = .ok (.nx e)) ∧
  (∀ (e : En), sBk e = .ok (.bk e)) ∧
  (∀ (e : En), sCt e = .ok (.ct e)) ∧
  (∀ (e : En), sErr e = .err) ∧
  (∀ (f : FE) (e : En), sRet f e = (f e).bind fun p => .ok (.rt p.1 p.2)) ∧
  (∀ (k : FT) (S U : FS) (e : En), sIf k S U e = (k e).bind fun p => if p.1 = true then S p.2 else U p.2) ∧
  (∀ (i : Nat) (f : FE) (e : En), sSet i f e = (f e).bind fun p => .ok (.nx (p.2.set i (.val p.1)))) ∧
  (∀ (G : TD) (f : FE) (e : En), sAsg G f e = (f e).bind fun p => match G p.1 p.2 with | some e1 => .ok (.nx e1) | none => .err) :=
  ⟨by intros; rfl, by intros; rfl, by intros; rfl, by intros; rfl, by intros; rfl, by intros; rfl, by intros; rfl, by intros; rfl, by intros; rfl, by intros; rfl, by intros; rfl, by intros; rfl⟩
theorem mi3 : (∀ (a : FA) (e : En), eL a e = (a e).bind fun p => .ok (.lst p.1, p.2)) ∧
  (∀ (a : FA) (e : En), nLst a e = (a e).bind fun p => if p.1.length ≤ lim then .ok p else .err) ∧
  (∀ (a : FA) (e : En), sRetN a e = (a e).bind fun p => .ok (.rn p.1 p.2)) ∧
  (∀ (i : Nat) (a : FA) (e : En), sNew i a e = (a e).bind fun p => if i < p.2.length then .ok (.nx (p.2.set i (.own p.1))) else .err) ∧
  (∀ (e : En), bN e = .ok ([], e)) ∧
  (∀ (f : FE) (b : FB) (e : En), bV f b e = (f e).bind fun p => (b p.2).bind fun q => .ok (.v p.1 :: q.1, q.2)) ∧
  (∀ (f : FA) (b : FB) (e : En), bL f b e = (f e).bind fun p => (b p.2).bind fun q => .ok (.n p.1 :: q.1, q.2)) ∧
  (∀ (i j : Nat) (f : FB) (e : En), sPar [i, j] f e = match f e with | .ok p => if p.1.length = [i, j].length ∧ (∀ k ∈ [i, j], k < p.2.length) then .ok (.nx (setsE p.2 [i, j] p.1)) else .err | _ => .err) ∧
  (∀ (i j l : Nat) (f : FB) (e : En), sPar [i, j, l] f e = match f e with | .ok p => if p.1.length = [i, j, l].length ∧ (∀ k ∈ [i, j, l], k < p.2.length) then .ok (.nx (setsE p.2 [i, j, l] p.1)) else .err | _ => .err) ∧
  (∀ (i : Nat) (is : List Nat) (b : Bp) (bs : List Bp) (e : En), setsE e (i :: is) (b :: bs) = (setsE e is bs).set i b.sl) ∧
  (∀ (e : En), setsE e [] [] = e) ∧
  (∀ (d : D), (Bp.v d).sl = .val d) :=
  ⟨by intros; rfl, by intros; rfl, by intros; rfl, by intros; rfl, by intros; rfl, by intros; rfl, by intros; rfl, by intros; rfl, by intros; rfl, by intros; rfl, by intros; rfl, by intros; rfl⟩
theorem mi4 : (∀ (d : List D), (Bp.n d).sl = .own d) ∧
  (∀ (i : Nat) (f : FE) (e : En), sApp i f e = match e[i]? with | some (.own _) => (f e).bind (fun p => match p.2[i]? with | some (.own ds) => if ds.length < lim then .ok (.nx (p.2.set i (.own (ds ++ [p.1])))) else .err | _ => .err) | _ => .err) ∧
  (∀ (i : Nat) (g : List D → Option D) (e : En), ePeek i g e = match e[i]? with | some (.own ds) | some (.brw ds) => (match g ds with | some d => .ok (d, e) | none => .err) | _ => .err) ∧
  (∀ (ds : List D), lenOf ds = some (.int ds.length)) ∧
  (∀ (i : Nat) (g : D → D → Option D) (f : FE) (e : En), sAug i g f e = match e[i]? with | some (.val d0) => (f e).bind (fun p => match g d0 p.1 with | some d => .ok (.nx (p.2.set i (.val d))) | none => .err) | _ => .err) ∧
  (∀ (f : FE) (e : En), sExp f e = (f e).bind fun p => .ok (.nx p.2)) ∧
  (∀ (f : FE) (e : En), iL f e = (f e).bind fun p => match p.1 with | .lst ds => .ok (ds, p.2) | .rls ds => .ok (ds, p.2) | _ => .err) ∧
  (∀ (a : FA) (e : En), iR1 a e = (a e).bind fun p => match rn1 p.1 with | some j => .ok (rangeD 0 j.toNat, p.2) | none => .err) ∧
  (∀ (a : FA) (e : En), iR2 a e = (a e).bind fun p => match rn2 p.1 with | some q => .ok (rangeD q.1 (q.2 - q.1).toNat, p.2) | none => .err) ∧
  (∀ (a : FA) (G : TD) (S : FS) (e : En), sFor a G S e = (a e).bind fun p => forF G S p.1 p.2) ∧
  (∀ (e : En), tYes1 e = .ok (true, e)) ∧
  (∀ (c : Str) (e : En), sRaise c e = .exc c e) :=
  ⟨by intros; rfl, by intros; rfl, by intros; rfl, by intros; rfl, by intros; rfl, by intros; rfl, by intros; rfl, by intros; rfl, by intros; rfl, by intros; rfl, by intros; rfl, by intros; rfl⟩
theorem mi5 : (∀ (n : Nat) (fn : List D → R D) (a : FA) (e : En), eCall n fn a e = (a e).bind fun p => if p.1.length = n then (match fn p.1 with | .ok d => .ok (d, p.2) | .exc c _ => .exc c p.2 | .err => .err) else .err) ∧
  (∀ (n : Nat) (fn : List D → R D) (a : FA) (e : En), nCall n fn a e = (a e).bind fun p => if p.1.length = n then (match fn p.1 with | .ok d => (match lstOf true d with | some ds => .ok (ds, p.2) | none => .err) | .exc c _ => .exc c p.2 | .err => .err) else .err) ∧
  (∀ (ds : List D), lstOf true (.lst ds) = some ds) ∧
  (∀ (g : D → Option (List D)) (f : FE) (e : En), nU g f e = (f e).bind fun p => match g p.1 with | some d => .ok (d, p.2) | none => .err) :=
  ⟨by intros; rfl, by intros; rfl, by intros; rfl, by intros; rfl⟩
theorem mo0 : (∀ (i j : Int), gAdd (.int i) (.int j) = some (.int (i + j))) ∧
  (∀ (i j : Int), gSub (.int i) (.int j) = some (.int (i - j))) ∧
  (∀ (i j : Int), gAddI (.int i) (.int j) = some (.int (i + j))) ∧
  (∀ (i j : Int), gMul (.int i) (.int j) = if mulOk i j = true then some (.int (i * j)) else none) ∧
  (∀ (i j : Int), gMulI (.int i) (.int j) = if mulOk i j = true then some (.int (i * j)) else none) ∧
  (∀ (i j : Int), gMod (.int i) (.int j) = if modOk i j = true then some (.int (i % j)) else none) ∧
  (∀ (i j : Int), gDivX (.int i) (.int j) = if divXOk i j = true then some (.int (i / j)) else none) ∧
  (∀ (i j : Int), gPow (.int i) (.int j) = if powOk i j = true then some (.int (i ^ j.toNat)) else none) ∧
  (∀ (i j : Int), gLt (.int i) (.int j) = some (.bl (decide (i < j)))) ∧
  (∀ (i j : Int), gLe (.int i) (.int j) = some (.bl (decide (i ≤ j)))) ∧
  (∀ (i j : Int), gGtI (.int i) (.int j) = some (.bl (decide (j < i)))) ∧
  (∀ (i j : Int), gGeI (.int i) (.int j) = some (.bl (decide (j ≤ i)))) :=
  ⟨by intros; rfl, by intros; rfl, by intros; rfl, by intros; rfl, by intros; rfl, by intros; rfl, by intros; rfl, by intros; rfl, by intros; rfl, by intros; rfl, by intros; rfl, by intros; rfl⟩
theorem mo1 : (∀ (i j : Int), gEq (.int i) (.int j) = some (.bl (decide (i = j)))) ∧
  (∀ (i j : Int), gNe (.int i) (.int j) = some (.bl (!decide (i = j)))) ∧
  (∀ (i j : Bool), gEq (.bl i) (.bl j) = some (.bl (decide (i = j)))) ∧
  (∀ (i j : Bool), gNe (.bl i) (.bl j) = some (.bl (!decide (i = j)))) ∧
  (∀ (i : Int), gNeg (.int i) = some (.int (-i))) ∧
  (∀ (a : D), gIsN a .non = some (.bl (non? a))) ∧
  (∀ (a : D), gNotN a .non = some (.bl (!non? a))) ∧
  (non? .non = true) ∧
  (∀ (i : Int), non? (.int i) = false) ∧
  (∀ (i : Bool), non? (.bl i) = false) ∧
  (∀ (i : List D), non? (.tup i) = false) ∧
  (∀ (i : List D), non? (.lst i) = false) :=
  ⟨by intros; rfl, by intros; rfl, by intros; rfl, by intros; rfl, by intros; rfl, by intros; rfl, by intros; rfl, by intros; rfl, by intros; rfl, by intros; rfl, by intros; rfl, by intros; rfl⟩
theorem mo2 : (∀ (ds : List D) (i : Int), gIx (.tup ds) (.int i) = atI ds i) ∧
  (∀ (ds : List D) (i : Int), gIx (.lst ds) (.int i) = atI ds i) ∧
  (∀ (ds : List D) (i : Int), gIx (.rls ds) (.int i) = atI ds i) ∧
  (∀ (ds : List D), fLen [.tup ds] = some (.int ds.length)) ∧
  (∀ (ds : List D), fLen [.lst ds] = some (.int ds.length)) ∧
  (∀ (ds : List D), fLen [.rls ds] = some (.int ds.length)) ∧
  (∀ (i : Int), fAbs [.int i] = some (.int (if i < 0 then -i else i))) ∧
  (∀ (i j : Int), fMax2 [.int i, .int j] = some (.int (if j > i then j else i))) :=
  ⟨by intros; rfl, by intros; rfl, by intros; rfl, by intros; rfl, by intros; rfl, by intros; rfl, by intros; rfl, by intros; rfl⟩
theorem mo3 : (∀ (i j : Int), fMin2 [.int i, .int j] = some (.int (if j < i then j else i))) ∧
  (∀ (i : Int), fInt [.int i] = some (.int i)) ∧
  (∀ (b : Bool), fInt [.bl b] = some (.int (if b then 1 else 0))) ∧
  (∀ (i : Int), rn1 [.int i] = if r62 i = true then some i else none) ∧
  (∀ (i j : Int), rn2 [.int i, .int j] = if r62 i = true ∧ r62 j = true then some (i, j) else none) ∧
  (∀ (ds : List D), gRevL (.lst ds) = some ds.reverse) :=
  ⟨by intros; rfl, by intros; rfl, by intros; rfl, by intros; rfl, by intros; rfl, by intros; rfl⟩
theorem mt0 : (fIs [.non, .ty "int"] = some (.bl false)) ∧
  (fIs [.non, .ty "bool"] = some (.bl false)) ∧
  (fIs [.non, .ty "str"] = some (.bl false)) ∧
  (fIs [.non, .ty "tuple"] = some (.bl false)) ∧
  (fIs [.non, .ty "list"] = some (.bl false)) ∧
  (fIs [.non, .ty "dict"] = some (.bl false)) ∧
  (∀ (b : Bool), fIs [(.bl b), .ty "int"] = some (.bl true)) ∧
  (∀ (b : Bool), fIs [(.bl b), .ty "bool"] = some (.bl true)) ∧
  (∀ (b : Bool), fIs [(.bl b), .ty "str"] = some (.bl false)) ∧
  (∀ (b : Bool), fIs [(.bl b), .ty "tuple"] = some (.bl false)) ∧
  (∀ (b : Bool), fIs [(.bl b), .ty "list"] = some (.bl false)) ∧
  (∀ (b : Bool), fIs [(.bl b), .ty "dict"] = some (.bl false)) ∧
  (∀ (i : Int), fIs [(.int i), .ty "int"] = some (.bl true)) ∧
  (∀ (i : Int), fIs [(.int i), .ty "bool"] = some (.bl false)) ∧
  (∀ (i : Int), fIs [(.int i), .ty "str"] = some (.bl false)) ∧
  (∀ (i : Int), fIs [(.int i), .ty "tuple"] = some (.bl false)) ∧
  (∀ (i : Int), fIs [(.int i), .ty "list"] = some (.bl false)) ∧
  (∀ (i : Int), fIs [(.int i), .ty "dict"] = some (.bl false)) ∧
  (∀ (s : Str), fIs [(.str s), .ty "int"] = some (.bl false)) ∧
  (∀ (s : Str), fIs [(.str s), .ty "bool"] = some (.bl false)) ∧
  (∀ (s : Str), fIs [(.str s), .ty "str"] = some (.bl true)) ∧
  (∀ (s : Str), fIs [(.str s), .ty "tuple"] = some (.bl false)) ∧
  (∀ (s : Str), fIs [(.str s), .ty "list"] = some (.bl false)) ∧
  (∀ (s : Str), fIs [(.str s), .ty "dict"] = some (.bl false)) ∧
  (∀ (ds : List D), fIs [(.tup ds), .ty "int"] = some (.bl false)) ∧
  (∀ (ds : List D), fIs [(.tup ds), .ty "bool"] = some (.bl false)) ∧
  (∀ (ds : List D), fIs [(.tup ds), .ty "str"] = some (.bl false)) ∧
  (∀ (ds : List D), fIs [(.tup ds), .ty "tuple"] = some (.bl true)) ∧
  (∀ (ds : List D), fIs [(.tup ds), .ty "list"] = some (.bl false)) ∧
  (∀ (ds : List D), fIs [(.tup ds), .ty "dict"] = some (.bl false)) ∧
  (∀ (ds : List D), fIs [(.lst ds), .ty "int"] = some (.bl false)) ∧
  (∀ (ds : List D), fIs [(.lst ds), .ty "bool"] = some (.bl false)) ∧
  (∀ (ds : List D), fIs [(.lst ds), .ty "str"] = some (.bl false)) ∧
  (∀ (ds : List D), fIs [(.lst ds), .ty "tuple"] = some (.bl false)) ∧
  (∀ (ds : List D), fIs [(.lst ds), .ty "list"] = some (.bl true)) ∧
  (∀ (ds : List D), fIs [(.lst ds), .ty "dict"] = some (.bl false)) :=
  ⟨by intros; rfl, by intros; rfl, by intros; rfl, by intros; rfl, by intros; rfl, by intros; rfl, by intros; rfl, by intros; rfl, by intros; rfl, by intros; rfl, by intros; rfl, by intros; rfl, by intros; rfl, by intros; rfl, by intros; rfl, by intros; rfl, by intros; rfl, by intros; rfl, by intros; rfl, by intros; rfl, by intros; rfl, by intros; rfl, by intros; rfl, by intros; rfl, by intros; rfl, by intros; rfl, by intros; rfl, by intros; rfl, by intros; rfl, by intros; rfl, by intros; rfl, by intros; rfl, by intros; rfl, by intros; rfl, by intros; rfl, by intros; rfl⟩
theorem mo9 : (∀ (a : D) (r : List D), atI (a :: r) 0 = some a) ∧ (∀ (a b : D) (r : List D), atI (a :: b :: r) 1 = some b) ∧ (∀ (a b c : D) (r : List D), atI (a :: b :: c :: r) 2 = some c) ∧ (∀ (a b c d : D) (r : List D), atI (a :: b :: c :: d :: r) 3 = some d) :=
  ⟨fun a r => atI_nat (j := 0) (xs := a :: r) rfl, fun a b r => atI_nat (j := 1) (xs := a :: b :: r) rfl, fun a b c r => atI_nat (j := 2) (xs := a :: b :: c :: r) rfl, fun a b c d r => atI_nat (j := 3) (xs := a :: b :: c :: d :: r) rfl⟩
theorem mo8 : (((0 : Nat) : Int) = 0) ∧ (((1 : Nat) : Int) = 1) ∧ (((2 : Nat) : Int) = 2) ∧ (((3 : Nat) : Int) = 3) ∧ (((4 : Nat) : Int) = 4) ∧ (((5 : Nat) : Int) = 5) ∧ (((6 : Nat) : Int) = 6) ∧ (((7 : Nat) : Int) = 7) ∧ (((8 : Nat) : Int) = 8) ∧ (((9 : Nat) : Int) = 9) ∧ (((10 : Nat) : Int) = 10) ∧ (((11 : Nat) : Int) = 11) ∧ (((12 : Nat) : Int) = 12) :=
  ⟨rfl, rfl, rfl, rfl, rfl, rfl, rfl, rfl, rfl, rfl, rfl, rfl, rfl⟩
theorem seq_ap (S U : FS) (e : En) : sSeq S U e = match S e with | .ok (.nx e1) => U e1 | r => r := rfl
theorem lim_v : lim = 16777216 := rfl
/-- a for over a range, by an invariant -/
theorem for_inv {G : TD} {b : FS} (I : Nat → En → Prop) : ∀ (ds : List D) (k : Nat) (e : En), I k e → (∀ j d e, ds[j]? = some d → I (k + j) e → ∃ e1 e2, G d e = some e1 ∧ b e1 = .ok (.nx e2) ∧ I (k + j + 1) e2) → ∃ e', forF G b ds e = .ok (.nx e') ∧ I (k + ds.length) e'
  | [], k, e, h, _ => ⟨e, rfl, h⟩
  | d :: ds, k, e, h, st => by
    obtain ⟨e1, e2, h1, h2, h3⟩ := st 0 d e rfl h
    obtain ⟨e', h4, h5⟩ := for_inv I ds (k + 1) e2 h3 fun j d' e' hd hi => by
      have := st (j + 1) d' e' (by simpa using hd) (by rw [show k + (j + 1) = k + 1 + j by omega]; exact hi)
      rw [show k + (j + 1) + 1 = k + 1 + j + 1 by omega] at this
      exact this
    refine ⟨e', ?_, by rw [List.length_cons, show k + (ds.length + 1) = k + 1 + ds.length by omega]; exact h5⟩
    unfold forF
    simp only [h1, h2]
    exact h4
theorem rangeD_get {lo : Int} {n j : Nat} {d : D} (h : (rangeD lo n)[j]? = some d) : d = .int (lo + j) ∧ j < n := by
  unfold rangeD at h
  rw [List.getElem?_map] at h
  by_cases c : j < n
  · rw [List.getElem?_range c] at h
    exact ⟨(Option.some.inj h).symm, c⟩
  · rw [List.getElem?_eq_none (by simpa using c)] at h
    cases h
theorem for_rng {G : TD} {b : FS} {lo : Int} {n : Nat} (I : Nat → En → Prop) {e : En} (h0 : I 0 e) (st : ∀ j e, j < n → I j e → ∃ e1 e2, G (.int (lo + j)) e = some e1 ∧ b e1 = .ok (.nx e2) ∧ I (j + 1) e2) : ∃ e', forF G b (rangeD lo n) e = .ok (.nx e') ∧ I n e' := by
  obtain ⟨e', h1, h2⟩ := for_inv I (rangeD lo n) 0 e h0 fun j d e hd hi => by
    obtain ⟨rfl, hj⟩ := rangeD_get hd
    rw [Nat.zero_add] at hi ⊢
    exact st j e hj hi
  rw [rangeD_length, Nat.zero_add] at h2
  exact ⟨e', h1, h2⟩
end Mi
namespace Mi
/-! statement after statement -/
def Go (S : FS) (e : En) (Q : En → Prop) : Prop := ∃ e', S e = .ok (.nx e') ∧ Q e'
def Rt (S : FS) (e : En) (d : D) : Prop := ∃ e', S e = .ok (.rt d e')
theorem Go.seq {S U : FS} {e : En} {Q : En → Prop} (h : Go S e fun e1 => Go U e1 Q) : Go (sSeq S U) e Q := by
  obtain ⟨e1, h1, e2, h2, q⟩ := h
  exact ⟨e2, by rw [seq_ap, h1]; exact h2, q⟩
theorem Go.of {S : FS} {e e' : En} {Q : En → Prop} (h : S e = .ok (.nx e')) (q : Q e') : Go S e Q := ⟨e', h, q⟩
theorem Go.nx {e : En} {Q : En → Prop} (q : Q e) : Go sNx e Q := ⟨e, rfl, q⟩
theorem Go.ifF {k : FT} {S U : FS} {e e1 : En} {Q : En → Prop} (h : k e = .ok (false, e1)) (q : Go U e1 Q) : Go (sIf k S U) e Q := by
  obtain ⟨e2, h2, q⟩ := q
  refine ⟨e2, ?_, q⟩
  show (k e).bind _ = _
  rw [h]
  exact h2
theorem Go.ifT {k : FT} {S U : FS} {e e1 : En} {Q : En → Prop} (h : k e = .ok (true, e1)) (q : Go S e1 Q) : Go (sIf k S U) e Q := by
  obtain ⟨e2, h2, q⟩ := q
  refine ⟨e2, ?_, q⟩
  show (k e).bind _ = _
  rw [h]
  exact h2
theorem Go.mono {S : FS} {e : En} {Q Q' : En → Prop} (h : Go S e Q) (i : ∀ e', Q e' → Q' e') : Go S e Q' := by
  obtain ⟨e', h, q⟩ := h
  exact ⟨e', h, i e' q⟩
theorem Rt.seq {S U : FS} {e : En} {d : D} (h : Go S e fun e1 => Rt U e1 d) : Rt (sSeq S U) e d := by
  obtain ⟨e1, h1, e2, h2⟩ := h
  exact ⟨e2, by rw [seq_ap, h1]; exact h2⟩
theorem Rt.of {S : FS} {e e' : En} {d : D} (h : S e = .ok (.rt d e')) : Rt S e d := ⟨e', h⟩
/-- a for over a range whose body always goes on -/
theorem Go.forR {G : TD} {b : FS} {lo : Int} {n : Nat} (I : Nat → En → Prop) {e : En} {Q : En → Prop} (h0 : I 0 e) (st : ∀ j e, j < n → I j e → ∃ e1, G (.int (lo + j)) e = some e1 ∧ Go b e1 (I (j + 1))) (q : ∀ e', I n e' → Q e') : ∃ e', forF G b (rangeD lo n) e = .ok (.nx e') ∧ Q e' := by
  obtain ⟨e', h1, h2⟩ := for_rng (G := G) (b := b) I h0 fun j e hj hi => by
    obtain ⟨e1, g, e2, h, i⟩ := st j e hj hi
    exact ⟨e1, e2, g, h, i⟩
  exact ⟨e', h1, q e' h2⟩
theorem par2 (i j n : Nat) : (∀ k ∈ [i, j], k < n) = (i < n ∧ j < n) := by simp
theorem par3 (i j l n : Nat) : (∀ k ∈ [i, j, l], k < n) = (i < n ∧ j < n ∧ l < n) := by simp
/-! pairs compared -/
theorem eqv_pair (i j i' j' : Int) : eqDeep (.tup [.int i, .int j]) (.tup [.int i', .int j']) = some (decide (i = i') && decide (j = j')) := by
  have s : ∀ a b : Int, PySem.SeqAt.shaped (.tuple [.int a, .int b]) = true := fun a b => by
    simp [PySem.SeqAt.shaped, PySem.PyData.canLay0, PySem.PyData.canLayAll0, PySem.PyData.depth, PySem.PyData.depthAll]
  unfold eqDeep
  simp only [pd, pdL, Option.bind_some, Option.map_some]
  rw [if_pos ⟨s _ _, s _ _⟩]
  simp only [PySem.PyData.eqv, PySem.PyData.eqvAll, Bool.and_true]
  rfl
theorem ne_pair (i j i' j' : Int) : gNe (.tup [.int i, .int j]) (.tup [.int i', .int j']) = some (.bl (!(decide (i = i') && decide (j = j')))) := by
  show ((eqDeep _ _).map _) = _
  rw [eqv_pair]
  rfl
theorem eq_pair (i j i' j' : Int) : gEq (.tup [.int i, .int j]) (.tup [.int i', .int j']) = some (.bl (decide (i = i') && decide (j = j'))) := by
  show ((eqDeep _ _).map _) = _
  rw [eqv_pair]
  rfl
end Mi
namespace Mi
open PySem PySem.Spec PyProof.Rows L2
/-! ### slices -/
abbrev FO := En → R (Option Int × En)
def oN : FO := fun e => .ok (none, e)
def oS (f : FE) : FO := fun e => (f e).bind fun p => match int? p.1 with
  | some i => .ok (some i, p.2)
  | none => .err
abbrev rO (K : PySem.W.Frag) (mg : Str → Option Value) (W : WX) (f : FO) : TO := rd K mg W (fun _ (a b : Option Int) => b = a) f
section
variable {X : Cx} {W : WX} {pos p2 : Pos} {a b c : Expr} {fa fb fc : FE} {lo hi : Option Expr} {fl fh : FO} {K : PySem.W.Frag}
theorem vo_none : PO X none (rO X.K X.mg W oN) := ⟨fun pins s σ H Q I ⟨A, e, r, p⟩ => po_none.run pins s σ H Q I (p none H r (Same.refl _) rfl)⟩
theorem vo_some (h : PE X a (rE X.K X.mg W fa)) : PO X (some a) (rO X.K X.mg W (oS fa)) := ⟨fun pins s σ H Q I ⟨A, e, r, p⟩ => (po_some h).run pins s σ H Q I (by
  refine rd_seq r p fun d e1 x H1 _ r1 s1 d1 p1 => ?_
  cases k : int? d with
  | none => simp only [k] at p1; exact p1.elim
  | some i =>
    simp only [k] at p1
    rw [int_some k] at d1
    exact ⟨i, den_int d1, p1 _ _ r1 (Same.refl _) rfl⟩)⟩
def eSl (g : D → Option Int → Option Int → Option D) (f : FE) (lo hi : FO) : FE := fun e => (f e).bind fun p => (lo p.2).bind fun q => (hi q.2).bind fun r => match g p.1 q.1 r.1 with
  | some d => .ok (d, r.2)
  | none => .err
def RSl (K : PySem.W.Frag) (r : V → Option Int → Option Int → Hp → VK → Prop) (g : D → Option Int → Option Int → Option D) : Prop :=
  ∀ (Hh H : Hp) (a : D) (lo hi : Option Int) (x : V) (d : D) (Q : VK), Same Hh H → Den K Hh a x → g a lo hi = some d → (∀ v H', Same H H' → Fresh K Hh H H' d v → Q v H') → r x lo hi H Q
theorem v_slice {r : V → Option Int → Option Int → Hp → VK → Prop} {g : D → Option Int → Option Int → Option D} (hg : RSl X.K r g) (hr : SlR X r) (ha : PE X a (rE X.K X.mg W fa)) (hl : PO X lo (rO X.K X.mg W fl)) (hh : PO X hi (rO X.K X.mg W fh)) :
    PE X (.Subscript a (.Slice lo hi none p2) pos) (rE X.K X.mg W (eSl g fa fl fh)) :=
  (pe_slice hr ha hl hh).imp fun σ H Q ⟨A, e, rp, p⟩ => by
    refine rd_seq rp p fun da e1 x H1 _ r1 s1 d1 p1 => rd_seq r1 p1 fun ol e2 l H2 _ r2 s2 d2 p2 => rd_seq r2 p2 fun oh e3 u H3 _ r3 s3 d3 p3 => ?_
    subst d2 d3
    cases k : g da l u with
    | none => simp only [k] at p3; exact p3.elim
    | some d =>
      simp only [k] at p3
      exact hg _ H3 da l u x d Q hid_sub (Den.mono (s2.trans s3) _ _ d1) k fun v H' s f => fin r3 p3 s f
def cutD (ds : List D) (lo hi : Option Int) : List D := (ds.drop (HT.sIx ds.length 0 lo)).take (HT.sIx ds.length ds.length hi - HT.sIx ds.length 0 lo)
def gSl : D → Option Int → Option Int → Option D
  | .lst ds, lo, hi => some (.lst (cutD ds lo hi))
  | .tup ds, lo, hi => some (.tup (cutD ds lo hi))
  | .str z, lo, hi => if z.length ≤ lim then some (.str (cutS z lo hi)) else none
  | _, _, _ => none
def rSlAll (K : PySem.W.Frag) : V → Option Int → Option Int → Hp → VK → Prop := fun x lo hi H Q => rSlL K x lo hi H Q ∨ (rSlA K x lo hi H Q ∨ rSlS x lo hi H Q)
theorem sl_all : SlR X (rSlAll X.K) := SlR.or sl_list (SlR.or sl_tupA sl_str)
theorem DenL.cut {H : Hp} {ds : List D} {vs : List V} {lo hi : Option Int} (h : DenL K H ds vs) : DenL K H (cutD ds lo hi) (cutV vs lo hi) := by
  unfold cutD cutV
  rw [h.length]
  exact DenL.take _ (DenL.drop _ h)
theorem rsl_all : RSl K (rSlAll K) gSl := fun Hh H a lo hi x d Q s ha h q => by
  cases a with
  | lst ds =>
    simp only [gSl, Option.some.injEq] at h
    subst h
    obtain ⟨p, vs, rfl, h1, h2⟩ := den_lst ha
    exact .inl ⟨p, vs, rfl, s.seq (.inl (.inl h1)), fun r hr => q _ _ (same_upd hr) (Fresh.lst hr h2.cut)⟩
  | tup ds =>
    simp only [gSl, Option.some.injEq] at h
    subst h
    obtain ⟨p, vs, rfl, h1, h2⟩ := den_tup ha
    refine .inr (.inl ⟨p, vs, rfl, Same.seqT s h1, fun e => ?_, fun e r hr => q _ _ (same_upd hr) (Fresh.tup hr h2.cut)⟩)
    have c : cutD ds lo hi = ds := by
      unfold cutD
      rw [h2.length, e.1, e.2, List.drop_zero, Nat.sub_zero, ← h2.length, List.take_length]
    rw [c] at q
    exact q _ _ (Same.refl _) (Fresh.flat ha)
  | str z =>
    simp only [gSl] at h
    by_cases c : z.length ≤ lim
    · rw [if_pos c] at h
      cases h
      exact .inr (.inr ⟨z, den_str ha, by rw [← lim_eq]; exact c, flatQ (fun _ => by simp only [Den]) q⟩)
    · rw [if_neg c] at h; cases h
  | _ => cases h
/-- a new list -/
def nSl (f : FE) (lo hi : FO) : FA := fun e => (f e).bind fun p => (lo p.2).bind fun q => (hi q.2).bind fun r => match p.1 with
  | .lst ds => .ok (cutD ds q.1 r.1, r.2)
  | _ => .err
theorem n_slice (ha : PE X a (rE X.K X.mg W fa)) (hl : PO X lo (rO X.K X.mg W fl)) (hh : PO X hi (rO X.K X.mg W fh)) :
    PE X (.Subscript a (.Slice lo hi none p2) pos) (rN X.K X.mg W (nSl fa fl fh)) :=
  (pe_slice sl_list ha hl hh).imp fun σ H Q ⟨A, e, rp, p⟩ => by
    refine rN_seq rp p fun da e1 x H1 _ r1 s1 d1 p1 => rN_seq r1 p1 fun ol e2 l H2 _ r2 s2 d2 p2 => rN_seq r2 p2 fun oh e3 u H3 _ r3 s3 d3 p3 => ?_
    subst d2 d3
    cases da with
    | lst ds =>
      obtain ⟨p, vs, rfl, h1, h2⟩ := den_lst (Den.mono (s2.trans s3) _ _ d1)
      exact ⟨p, vs, rfl, .inl (.inl (hid_sub _ _ h1)), fun r hr => finN r3 p3 hr h2.cut⟩
    | _ => exact p3.elim
/-! ### sorted -/
def srt (ns : List Int) : List Int := ns.mergeSort fun a b => decide (a ≤ b)
theorem srt_perm (ns : List Int) : (srt ns).Perm ns := List.mergeSort_perm ns _
theorem srt_le (ns : List Int) : (srt ns).Pairwise (· ≤ ·) := by
  have h := List.pairwise_mergeSort (le := fun a b : Int => decide (a ≤ b)) (fun a b c h1 h2 => by
    have := of_decide_eq_true h1; have := of_decide_eq_true h2; exact decide_eq_true (by omega)) (fun a b => by
    by_cases c : a ≤ b
    · simp [c]
    · simp [show b ≤ a by omega]) ns
  exact h.imp fun h => of_decide_eq_true h
theorem srt_of {ns ms : List Int} (p : ms.Perm ns) (h : ms.Pairwise (· ≤ ·)) : ms = srt ns := (p.trans (srt_perm ns).symm).eq_of_pairwise (fun x y _ _ h1 h2 => Int.le_antisymm h1 h2) h (srt_le ns)
theorem srt_self {ns : List Int} (h : ns.Pairwise (· ≤ ·)) : srt ns = ns := (srt_of (List.Perm.refl ns) h).symm
def fSort : List D → Option D
  | [.lst ds] => (intsOf ds).map fun ns => .lst ((srt ns).map D.int)
  | _ => none
theorem den_ints_back {H : Hp} {ns : List Int} {vs : List V} (h : DenL K H (ns.map D.int) vs) : vs = ns.map V.int := denL_ints.1 h
theorem rc_sort : RC K (rSortedI K) fSort := fun Hh H ds vs d Q s h e q => by
  match ds, e with
  | [.lst es], e =>
    simp only [fSort] at e
    cases k : intsOf es with
    | none => rw [k] at e; cases e
    | some ns =>
      rw [k] at e
      cases e
      rw [intsOf_some k] at h
      obtain ⟨v, rfl, hv⟩ := den1 h
      obtain ⟨p, us, rfl, h1, h2⟩ := den_lst hv
      rw [den_ints_back h2] at h1
      refine ⟨p, ns, rfl, s.seq (.inl (.inl h1)), fun ms r hp hl hr => ?_⟩
      rw [srt_of hp hl]
      exact q _ _ (same_upd hr) (Fresh.lst hr (denL_ints.2 rfl))
/-! ### is True, is False -/
def gIsB : D → D → Option D
  | .bl a, .bl b => some (.bl (decide (a = b)))
  | _, _ => none
def gNotB : D → D → Option D
  | .bl a, .bl b => some (.bl (!decide (a = b)))
  | _, _ => none
theorem rb_isB : RB K (fun x y H Q => ∃ a b, x = .bl a ∧ y = .bl b ∧ Q (.bl (decide (a = b))) H) gIsB := fun Hh H a b x y d Q s ha hb h q => by
  match a, b, h with
  | .bl i, .bl j, h =>
    cases h
    exact ⟨i, j, den_bl ha, den_bl hb, flatQ (fun _ => by simp only [Den]) q⟩
theorem rb_notB : RB K (fun x y H Q => ∃ a b, x = .bl a ∧ y = .bl b ∧ Q (.bl (!decide (a = b))) H) gNotB := fun Hh H a b x y d Q s ha hb h q => by
  match a, b, h with
  | .bl i, .bl j, h =>
    cases h
    exact ⟨i, j, den_bl ha, den_bl hb, flatQ (fun _ => by simp only [Den]) q⟩
end
end Mi
namespace Mi
open PySem PySem.Spec PyProof.Rows L2
section
variable {X : Cx} {W : WX} {pos : Pos} {a b c : Expr} {fa fb fc : FE}
/-! ### what is read of a held list -/
def heldE (e : En) (i : Nat) : Option (List D) := match e[i]? with
  | some (.own ds) => some ds
  | some (.brw ds) => some ds
  | _ => none
theorem heldE_rep {A : Act} {σ : L2.St} {e : En} {H : Hp} {i : Nat} {ds : List D} (r : Rep X.K A H σ e) (h : heldE e i = some ds) : ∃ a vs, σ[i]? = some (some (.ref a)) ∧ H a = some (.lst vs) ∧ DenL X.K (hid A σ e H) ds vs := by
  unfold heldE at h
  split at h
  · cases h
    obtain ⟨a, vs, k1, k2, k3, _⟩ := r.own i ds (by assumption)
    exact ⟨a, vs, k1, k2, k3⟩
  · cases h
    obtain ⟨a, vs, k1, k2, k3, _⟩ := r.brw i ds (by assumption)
    exact ⟨a, vs, k1, k2, k3⟩
  · cases h
theorem var_imp {K : PySem.W.Frag} {mg : Str → Option Value} {σ : L2.St} {H : Hp} {G : VK} {i : Nat} (h : rE K mg W (eV i) σ H G) : tVar i σ H G := by
  obtain ⟨A, e, r, p⟩ := h
  unfold eV at p
  cases h : e[i]? with
  | none => rw [h] at p; exact p.elim
  | some s =>
    rw [h] at p
    cases s with
    | un => exact p.elim
    | brw ds => exact p.elim
    | val d =>
      obtain ⟨v, h1, h2⟩ := r.val i d h
      exact ⟨v, h1, p v H r (Same.refl _) h2⟩
    | own ds =>
      obtain ⟨a, h1, h2, h3, h4⟩ := r.freeze h
      exact ⟨_, h1, p _ H h2 h3 h4⟩
/-- x[k], x held or a value -/
def ePkIx (i : Nat) (fb : FE) : FE := fun e => match heldE e i with
  | some _ => (fb e).bind fun q => match heldE q.2 i with
    | some ds => (match (int? q.1).bind (atI ds) with
      | some d => .ok (d, q.2)
      | none => .err)
    | none => .err
  | none => eB gIx (eV i) fb e
theorem v_ixHeld (i : Nat) {x : Str} {p1 : Pos} (hb : PE X b (rE X.K X.mg W fb)) (hN : X.N[i]? = some x := by rfl) (hv : Vis X.env.scope x := by first | exact Or.inl rfl | exact Or.inr (Or.inl rfl) | exact Or.inr (Or.inr rfl))
    (hd : (x == ("__debug__" : Str)) = false := by decide) (hcd : (x == ("__classdict__" : Str)) = false := by decide) (hs : PlainIx b := by exact fun _ _ => rfl) :
    PE X (.Subscript (.Name x p1) b pos) (rE X.K X.mg W (ePkIx i fb)) :=
  (pe_ix ix_seq (pe_var hN hv hd hcd) hb hs).imp fun σ H Q ⟨A, e, r, p⟩ => by
    unfold ePkIx at p
    cases h : heldE e i with
    | none =>
      rw [h] at p
      exact var_imp (rB_of rb_ix σ H Q ⟨A, e, r, p⟩)
    | some ds0 =>
      rw [h] at p
      obtain ⟨a, vs0, k1, _, _⟩ := heldE_rep r h
      refine ⟨.ref a, k1, rd_seq r p fun dj e1 y H1 _ r1 s1 d1 p1 => ?_⟩
      cases h1 : heldE e1 i with
      | none => simp only [h1] at p1; exact p1.elim
      | some ds =>
        simp only [h1] at p1
        obtain ⟨a', vs, k1', k2, k3⟩ := heldE_rep r1 h1
        rw [k1] at k1'
        cases k1'
        cases h2 : int? dj with
        | none => simp only [h2, Option.bind_none] at p1; exact p1.elim
        | some j =>
          simp only [h2, Option.bind_some] at p1
          cases h3 : atI ds j with
          | none => simp only [h3] at p1; exact p1.elim
          | some d =>
            simp only [h3] at p1
            obtain ⟨v, hv', dv⟩ := atI_den k3 h3
            rw [int_some h2] at d1
            exact .inl ⟨a, vs, j, v, rfl, den_int d1, .inl (.inl k2), hv', p1 v H1 r1 (Same.refl _) dv⟩
end
end Mi
namespace Mi
open PySem PySem.Spec PyProof.Rows L2
theorem mi6 : (∀ (g : D → Option Int → Option Int → Option D) (f : FE) (lo hi : FO) (e : En), eSl g f lo hi e = (f e).bind fun p => (lo p.2).bind fun q => (hi q.2).bind fun r => match g p.1 q.1 r.1 with | some d => .ok (d, r.2) | none => .err) ∧
  (∀ (e : En), oN e = .ok (none, e)) ∧
  (∀ (f : FE) (e : En), oS f e = (f e).bind fun p => match int? p.1 with | some i => .ok (some i, p.2) | none => .err) ∧
  (∀ (i : Int), int? (.int i) = some i) ∧
  (∀ (f : FE) (lo hi : FO) (e : En), nSl f lo hi e = (f e).bind fun p => (lo p.2).bind fun q => (hi q.2).bind fun r => match p.1 with | .lst ds => .ok (cutD ds q.1 r.1, r.2) | _ => .err) ∧
  (∀ (ds : List D) (lo hi : Option Int), gSl (.lst ds) lo hi = some (.lst (cutD ds lo hi))) ∧
  (∀ (ds : List D) (lo hi : Option Int), gSl (.tup ds) lo hi = some (.tup (cutD ds lo hi))) ∧
  (∀ (x : Str) (lo hi : Option Int), gSl (.str x) lo hi = if x.length ≤ lim then some (.str (cutS x lo hi)) else none) ∧
  (∀ (f : FA) (e : En), iZ f e = (f e).bind fun p => match zp2 p.1 with | some q => .ok (zipD q.1 q.2, p.2) | none => .err) ∧
  (∀ (a b : List D), zp2 [.lst a, .lst b] = some (a, b)) ∧
  (∀ (f : FE) (e : En), iT f e = (f e).bind fun p => match p.1 with | .tup ds => .ok (ds, p.2) | _ => .err) ∧
  (∀ (f : FE) (e : En), iS f e = (f e).bind fun p => match p.1 with | .str x => .ok (signs x, p.2) | _ => .err) :=
  ⟨by intros; rfl, by intros; rfl, by intros; rfl, by intros; rfl, by intros; rfl, by intros; rfl, by intros; rfl, by intros; rfl, by intros; rfl, by intros; rfl, by intros; rfl, by intros; rfl⟩
theorem mi7 : (∀ (i : Nat) (fb : FE) (e : En), ePkIx i fb e = match heldE e i with | some _ => ((fb e).bind fun q => match heldE q.2 i with | some ds => (match (int? q.1).bind (atI ds) with | some d => .ok (d, q.2) | none => .err) | none => .err) | none => eB gIx (eV i) fb e) ∧
  (∀ (e : En) (i : Nat), heldE e i = match e[i]? with | some (.own ds) => some ds | some (.brw ds) => some ds | _ => none) ∧
  (∀ (ds : List D), fSort [.lst ds] = (intsOf ds).map fun ns => .lst ((srt ns).map D.int)) ∧
  (∀ (a b : Bool), gIsB (.bl a) (.bl b) = some (.bl (decide (a = b)))) ∧
  (∀ (a b : Bool), gNotB (.bl a) (.bl b) = some (.bl (!decide (a = b)))) ∧
  (∀ (f : FA) (e : En), iEn f e = (f e).bind fun p => match en1 p.1 with | some as => .ok (enumD 0 as, p.2) | none => .err) ∧
  (∀ (a : List D), en1 [.lst a] = some a) ∧
  (∀ (g : D → D → Option (List D)) (f h : FE) (e : En), nB g f h e = (f e).bind fun p => (h p.2).bind fun q => match g p.1 q.1 with | some d => .ok (d, q.2) | none => .err) ∧
  (∀ (a b : List D), gAdd (.lst a) (.lst b) = if a.length + b.length ≤ lim then some (.lst (a ++ b)) else none) ∧
  (∀ (a b : List D), gAdd (.tup a) (.tup b) = if a.length + b.length ≤ lim then some (.tup (a ++ b)) else none) ∧
  (∀ (a b : Str), gAdd (.str a) (.str b) = if a.length + b.length ≤ lim then some (.str (a ++ b)) else none) ∧
  (∀ (ds : List D) (k : Int), gRep (.lst ds) (.int k) = if r62 k = true ∧ ds.length * k.toNat ≤ lim then some (List.replicate k.toNat ds).flatten else none) ∧
  (∀ (ds : List D) (k : Int), gMul (.lst ds) (.int k) = (gRep (.lst ds) (.int k)).map .lst) :=
  ⟨by intros; rfl, by intros; rfl, by intros; rfl, by intros; rfl, by intros; rfl, by intros; rfl, by intros; rfl, by intros; rfl, by intros; rfl, by intros; rfl, by intros; rfl, by intros; rfl, by intros; rfl⟩
theorem mi8 : (∀ (x : Str), non? (.str x) = false) ∧ (∀ (x : List D), non? (.rls x) = false) ∧
  (∀ (x y : Str), gEq (.str x) (.str y) = some (.bl (decide (x = y)))) ∧
  (∀ (x y : Str), gNe (.str x) (.str y) = some (.bl (!decide (x = y)))) :=
  ⟨by intros; rfl, by intros; rfl, by intros; rfl, by intros; rfl⟩
theorem cutD_from (ds : List D) (k : Nat) : cutD ds (some (k : Int)) none = ds.drop k := by
  unfold cutD
  rw [HT.sIx_nat, HT.sIx_none]
  by_cases h : k ≤ ds.length
  · rw [Nat.min_eq_left h]
    exact List.take_of_length_le (by rw [List.length_drop]; omega)
  · rw [Nat.min_eq_right (by omega), List.drop_of_length_le (by omega), List.drop_of_length_le (by omega), List.take_nil]
theorem cutD_to (ds : List D) (k : Nat) : cutD ds none (some (k : Int)) = ds.take k := by
  unfold cutD
  rw [HT.sIx_none, HT.sIx_nat, List.drop_zero, Nat.sub_zero]
  by_cases h : k ≤ ds.length
  · rw [Nat.min_eq_left h]
  · rw [Nat.min_eq_right (by omega), List.take_of_length_le (by omega), List.take_of_length_le (by omega)]
end Mi
namespace Mi
open PySem PySem.Spec PyProof.Rows L2
/-! ### try .. except -/
def noX : R Fl → R Fl
  | .exc _ _ => .err
  | r => r
def handleM (sub : Str → Str → Option Bool) : List (Str × FS) → Str → FS
  | [], c => fun e => .exc c e
  | (h, g) :: r, c => fun e => match sub c h with
    | some true => noX (g e)
    | some false => handleM sub r c e
    | none => .err
def sTry (sub : Str → Str → Option Bool) (g : FS) (hs : List (Str × FS)) : FS := fun e => match g e with
  | .exc c e1 => handleM sub hs c e1
  | r => r
/-- which class is below which -/
def SubOk (K : PySem.W.Frag) (mg : Str → Option Value) (sub : Str → Str → Option Bool) : Prop := ∀ c h b, sub c h = some b → ∃ u v, mg c = some u ∧ mg h = some v ∧ PySem.W.exmOne K u v = some b
inductive HsOk (X : Cx) : List ExceptHandler → List (Str × FS) → Prop
  | nil : HsOk X [] []
  | cons {x : Str} {g : FS} {b₀ : Stmt} {suite : List Stmt} {np pos' : Pos} {hds : List ExceptHandler} {l : List (Str × FS)} (hg : Gl X x) (hd : (x == ("__debug__" : Str)) = false) (hm : ∃ v, X.mg x = some v)
      (hsu : ∀ (a : Addr) (pn : List (Addr × Obj)), PSs (X.suite a pn) (b₀ :: suite) (rdS X.K X.mg W0 g)) (r : HsOk X hds l) :
      HsOk X (.ExceptHandler (some (.Name x np)) none (b₀ :: suite) pos' :: hds) ((x, g) :: l)
section
variable {X : Cx} {W : WX} {pos : Pos}
theorem PostS.noX {K : PySem.W.Frag} {mg : Str → Option Value} {D : Ends} {A : Act} {σ : L2.St} {e : En} {H : Hp} : ∀ {r : R Fl}, PostS K mg W D A σ e H (noX r) → PostS K mg W0 D A σ e H r
  | .ok (.nx _), h => h
  | .ok (.bk _), h => h
  | .ok (.ct _), h => h
  | .ok (.rt _ _), h => h
  | .ok (.rn _ _), h => h
  | .exc _ _, h => h.elim
  | .err, h => h
theorem HsOk.go {sub : Str → Str → Option Bool} (hsb : SubOk X.K X.mg sub) : ∀ {hds : List ExceptHandler} {l : List (Str × FS)}, HsOk X hds l → ∃ l' : List (Value × (Addr → Value → Option Addr → TS)), HdsOk X hds l' ∧
    ∀ (c : Str) (D : Ends) (A : Act) (σ σ' : L2.St) (e e' : En) (H H' : Hp), Rep X.K A H' σ' e' → Same (hid A σ e H) (hid A σ' e' H') → PostS X.K X.mg W D A σ e H (handleM sub l c e') → ∃ u, X.mg c = some u ∧ wMany X.K W D l' u none σ' H'
  | _, _, .nil => ⟨[], .nil, fun c D A σ σ' e e' H H' r s p => p σ' H' r s⟩
  | _, _, .cons (x := x) (g := g) hg hd hm hsu r => by
    obtain ⟨l', h1, h2⟩ := HsOk.go hsb r
    obtain ⟨v, hv⟩ := hm
    refine ⟨(v, fun _ _ _ => rdS X.K X.mg W0 g) :: l', .cons ⟨hg, hd, .inl hv⟩ (fun a oe cls d pn _ _ => hsu a _) h1, fun c D A σ σ' e e' H H' rp s p => ?_⟩
    unfold handleM at p
    cases k : sub c x with
    | none => rw [k] at p; exact p.elim
    | some b =>
      rw [k] at p
      obtain ⟨u, v', hu, hv', hx⟩ := hsb c x b k
      rw [hv] at hv'
      cases hv'
      refine ⟨u, hu, b, hx, fun hb a ha => ?_, fun hb => ?_⟩
      · subst hb
        exact ⟨A, e', rp, PostS.noX (PostS.shift s p)⟩
      · subst hb
        obtain ⟨u', hu', w⟩ := h2 c D A σ σ' e e' H H' rp s p
        rw [hu] at hu'
        cases hu'
        exact w
theorem vs_try {body : List Stmt} {h₀ : ExceptHandler} {hds : List ExceptHandler} {g : FS} {l : List (Str × FS)} {sub : Str → Str → Option Bool} (hsb : SubOk X.K X.mg sub) (hs : X.stack = X.env :: X.outer) (hf : X.env.frame = some X.env.locals) (tk : Takes X W)
    (hb : ∀ (W' : WX) (pn : List (Addr × Obj)) (xe : Value → Shared → Prop), Takes (X.tr pn xe) W' → PassesOwn (model X.prog X.w) X.A X.env xe → PSs (X.tr pn xe) body (rdS X.K X.mg W' g)) (hh : HsOk X (h₀ :: hds) l) :
    PS X (.Try body (h₀ :: hds) [] [] pos) (rdS X.K X.mg W (sTry sub g l)) := by
  obtain ⟨l', h1, h2⟩ := HsOk.go (W := W) hsb hh
  refine (ps_try_many (tb := fun W' => rdS X.K X.mg W' g) hs hf tk hb h1).imp fun D σ H ⟨A, e, r, p⟩ => ?_
  refine ⟨A, e, r, ?_⟩
  unfold sTry at p
  cases q : g e with
  | ok fl =>
    rw [q] at p
    cases fl <;> exact p
  | exc c e1 =>
    rw [q] at p
    exact fun σ' H' r' s' => h2 c D A σ σ' e e1 H H' r' s' p
  | err => rw [q] at p; exact p
/-! ### [f, g, ..][k](..) -/
inductive Fns (X : Cx) (k n : Nat) : List Expr → List (List D → R D) → Prop
  | nil : Fns X k n [] []
  | cons {x : Str} {p : Pos} {fn : List D → R D} {es : List Expr} {fns : List (List D → R D)} {j : Nat} (h : CallA X.prog X.w X.K X.mg X.base j x n false fn) (hj : j ≤ k) (hg : Gl X x) (hd : (x == ("__debug__" : Str)) = false) (hs : starEach (.Name x p :: es) X.env = (false, eval (.Name x p) X.env) :: starEach es X.env) (r : Fns X k n es fns) :
      Fns X k n (.Name x p :: es) (fn :: fns)
end
end Mi
namespace Mi
open PySem PySem.Spec PyProof.Rows L2
def eCallIx (n : Nat) (fns : List (List D → R D)) (fi : FE) (f : FA) : FE := fun e => (fi e).bind fun p => match (int? p.1).bind (atI fns) with
  | none => .err
  | some fn => (f p.2).bind fun q => if q.1.length = n then (match fn q.1 with
    | .ok d => .ok (d, q.2)
    | .exc c _ => .exc c q.2
    | .err => .err) else .err
section
variable {X : Cx} {W : WX} {pos lp sp : Pos} {a b : Expr} {es as : List Expr} {k n : Nat} {fns : List (List D → R D)} {fi : FE} {f : FA}
/-- what stands of one of the functions -/
def Fn1 (X : Cx) (k n : Nat) (fn : List D → R D) (fa : Addr) : Prop := ∃ (fd : FuncData) (ps : List Str) (j : Nat), FnOk X.prog X.w X.K X.mg X.base (L2.CX X.prog X.w) j fa fd ps (spA X.K X.mg n false fn) ∧ PySem.W.keepIn X.K (.ref fa) = true ∧ Binds X.K fd ps [] ∧ j ≤ k
theorem Fns.get : ∀ {es : List Expr} {fns : List (List D → R D)}, Fns X k n es fns → ∃ fas : List Addr, fas.length = fns.length ∧ PA X es (fun _ H Q => Q (fas.map V.ref) H) ∧ ∀ (i : Nat) (fn : List D → R D), fns[i]? = some fn → ∃ fa, fas[i]? = some fa ∧ Fn1 X k n fn fa
  | _, _, .nil => ⟨[], rfl, pa_nil, fun i fn h => by simp at h⟩
  | _, _, .cons (fn := fn) h hj hg hd hs r => by
    obtain ⟨fas, l, ha, hf⟩ := Fns.get r
    obtain ⟨fa, fd, ps, F, kp, b, m⟩ := h
    refine ⟨fa :: fas, by rw [List.length_cons, List.length_cons, l], ?_, fun i fn' hi => ?_⟩
    · exact (pa_cons (pe_glob (v := .ref fa) hg m rfl hd) ha hs).imp fun σ H Q q => q
    · cases i with
      | zero =>
        simp only [List.getElem?_cons_zero, Option.some.injEq] at hi
        subst hi
        exact ⟨fa, rfl, fd, ps, _, F, kp, b, hj⟩
      | succ i => exact hf i fn' (by simpa using hi)
theorem v_callIx (hF : Fns X k n es fns) (hr : Room k X.A) (tk : Takes X W) (hb : PE X b (rE X.K X.mg W fi)) (ha : PA X (a :: as) (rA X.K X.mg W f)) (hn : fns.length ≤ 16777216) (hs : PlainIx b := by exact fun _ _ => rfl)
    (he : starEach (a :: as) X.env = (false, eval a X.env) :: starEach as X.env := by rfl) (hpl : (backTo pos (starEach as X.env)).any (·.1) = false := by rfl) :
    PE X (.Call (.Subscript (.List es lp) b sp) (a :: as) [] pos) (rE X.K X.mg W (eCallIx n fns fi f)) := by
  obtain ⟨fas, hlen, hfa, hget⟩ := hF.get
  refine ⟨fun pins s σ H Q I h => ?_⟩
  obtain ⟨A, e, r, p⟩ := h
  have ev : eval (.Call (.Subscript (.List es lp) b sp) (a :: as) [] pos) X.env = (do callWith pos (← eval (.Subscript (.List es lp) b sp) X.env) [] (backTo pos (starEach (a :: as) X.env)) (backToKw pos (keywordEach [] X.env))) := rfl
  rw [ev]
  refine wpAny_bind ?_
  refine thn ((pe_ix ix_seq (pe_lst hfa) hb hs).run pins s σ H (fun v H2 => ∃ (fn : List D → R D) (fa : Addr), v = .ref fa ∧ Fn1 X k n fn fa ∧ rA X.K X.mg W f σ H2 fun vs H3 => spA X.K X.mg n false fn vs H3 Q (WE W σ)) I ?_) fun u s1 ⟨v, H1, I1, r1, q1⟩ => ?_
  · refine ⟨by rw [List.length_map, hlen, ← lim_eq]; exact hn, fun pp hp => ?_⟩
    have su := same_upd (o := .lst (fas.map V.ref)) hp
    refine rd_seq (r.grow su) (Post.shift (hid_same su) p) fun di e1 y H2 _ r2 s2 d2 p2 => ?_
    cases q : int? di with
    | none => simp only [q, Option.bind_none] at p2; exact p2.elim
    | some i =>
      simp only [q, Option.bind_some] at p2
      cases q2 : atI fns i with
      | none => simp only [q2] at p2; exact p2.elim
      | some fn =>
        simp only [q2] at p2
        rw [int_some q] at d2
        have at1 : ∃ j : Nat, ixN fns.length i = some j ∧ fns[j]? = some fn := by
          unfold atI at q2
          cases z : ixN fns.length i with
          | none => rw [z] at q2; cases q2
          | some j => rw [z] at q2; exact ⟨j, rfl, q2⟩
        obtain ⟨j, hj1, hj2⟩ := at1
        obtain ⟨fa, hfa1, hF1⟩ := hget j fn hj2
        have at2 : atI (fas.map V.ref) i = some (.ref fa) := by
          unfold atI
          rw [List.length_map, hlen, hj1, Option.bind_some, List.getElem?_map, hfa1]
          rfl
        have hl : H2 pp = some (.lst (fas.map V.ref)) := hid_sub _ _ (s2 _ _ (r.seen upd_same hp))
        refine .inl ⟨pp, _, i, _, rfl, den_int d2, .inl (.inl hl), at2, fn, fa, rfl, hF1, ?_⟩
        refine rd_seq r2 p2 fun ds e3 vs H3 _ r3 s3 d3 p3 => ?_
        by_cases hl : ds.length = n
        · rw [if_pos hl] at p3
          refine ⟨ds, hid A σ e3 H3, hid_sub, d3, hl, ?_⟩
          revert p3
          dsimp only
          cases fn ds with
          | ok d => exact fun p3 => CallP.of fun v H' s fr => fin r3 p3 s fr
          | exc c z => exact fun p3 H' s => p3 H' (r3.grow s) (hid_same s)
          | err => exact fun p3 => p3
        · rw [if_neg hl] at p3
          exact p3.elim
  · obtain ⟨fn, fa, rfl, ⟨fd, ps, j, F, hk, hbd, hj⟩, q⟩ := q1
    cases r1
    refine PySem.W.callWith_K (h₀ := X.base) I1.ok.mod.kin hk (thn (ha.run pos pins s1 σ _ _ I1 q) fun us s2 ⟨vs, H2, I2, r, q⟩ => ⟨I2.kIn, ?_⟩) he hpl
    refine run_fnSD (dvs := []) (ds := []) F (hr.mono hj) hbd .nil (E := fun σ => WE W σ) (passAt tk σ) I2 r ?_
    rw [List.append_nil]
    exact q
end
end Mi
namespace Mi
open PySem PySem.Spec PyProof.Rows L2
/-! ### except X as e: what is told of e's class -/
def ExA (K : PySem.W.Frag) (mg : Str → Option Value) (c : Str) : Prop := ∃ D : Addr, mg c = some (.ref D) ∧ ExcC K D
def KitA (K : PySem.W.Frag) (mg : Str → Option Value) (c h : Str) (b : Bool) : Prop := ∃ D C : Addr, mg c = some (.ref D) ∧ mg h = some (.ref C) ∧ PySem.W.kitOne K (.ref D) (.ref C) = some b
def sTryP (sub : Str → Str → Option Bool) (g : FS) (x : Str) (i : Nat) (pick : Str → Option Str) : FS := fun e => match g e with
  | .exc c e1 => (match sub c x with
    | some true => (match pick c with
      | some d => if i < e1.length then .ok (.rt (.str d) (e1.set i .un)) else .err
      | none => .err)
    | some false => .exc c e1
    | none => .err)
  | r => r
section
variable {X : Cx} {W : WX} {pos : Pos}
/-- what the suite is asked -/
def tsP (mg : Str → Option Value) (i : Nat) (pick : Str → Option Str) (a : Addr) (cls : Value) (d : Option Addr) : TS := fun D σ H => ∃ c s, mg c = some cls ∧ d = none ∧ pick c = some s ∧ σ[i]? = some (some (.ref a)) ∧ ∀ H', Same H H' → D.rt (.str s) H'
theorem vs_tryP {x n : Str} {i : Nat} {np pos' : Pos} {b₀ : Stmt} {suite : List Stmt} {body : List Stmt} {g : FS} {sub : Str → Str → Option Bool} {pick : Str → Option Str} (hsb : SubOk X.K X.mg sub) (hs : X.stack = X.env :: X.outer) (hf : X.env.frame = some X.env.locals) (hN : X.N.Nodup) (hi : X.N[i]? = some n) (hln : X.env.kindOf n = some .local) (hg : Gl X x) (hd : (x == ("__debug__" : Str)) = false) (hm : ∃ v, X.mg x = some v)
    (tk : Takes X W) (hb : ∀ (W' : WX) (pn : List (Addr × Obj)) (xe : Value → Shared → Prop), Takes (X.tr pn xe) W' → PassesOwn (model X.prog X.w) X.A X.env xe → PSs (X.tr pn xe) body (rdS X.K X.mg W' g))
    (hsu : ∀ (a : Addr) (oe : Obj) (cls : Value) (d : Option Addr) (pn : List (Addr × Obj)), Zc cls d oe → (∃ vs, oe.data = .fields vs) → PSs (X.suite a ((a, oe) :: pn)) (b₀ :: suite) (tsP X.mg i pick a cls d)) :
    PS X (.Try body [.ExceptHandler (some (.Name x np)) (some n) (b₀ :: suite) pos'] [] [] pos) (rdS X.K X.mg W (sTryP sub g x i pick)) := by
  obtain ⟨v, hv⟩ := hm
  refine (ps_try_as (tb := fun W' => rdS X.K X.mg W' g) (c := v) hs hf hN hi hln ⟨hg, hd, .inl hv⟩ tk hb hsu).imp fun D σ H ⟨A, e, r, p⟩ => ?_
  refine ⟨A, e, r, ?_⟩
  unfold sTryP at p
  cases q : g e with
  | ok fl =>
    rw [q] at p
    cases fl <;> exact p
  | err => rw [q] at p; exact p
  | exc c e1 =>
    rw [q] at p
    intro σ' H' r' s'
    cases k : sub c x with
    | none => simp only [k] at p; exact p.elim
    | some b =>
      obtain ⟨u, v', hu, hv', hx⟩ := hsb c x b k
      rw [hv] at hv'
      cases hv'
      refine ⟨u, hu, b, hx, fun hb a ha => ?_, fun hb => ?_⟩
      · subst hb
        simp only [k] at p
        cases k2 : pick c with
        | none => simp only [k2] at p; exact p.elim
        | some s =>
          simp only [k2] at p
          by_cases li' : i < e1.length
          case neg => rw [if_neg li'] at p; exact p.elim
          rw [if_pos li'] at p
          have li : i < σ'.length := by rw [r'.len]; exact li'
          have hh := r'.vals (σ' := σ'.set i (some (.ref a))) (e' := e1.set i .un) (by rw [List.length_set, List.length_set]; exact r'.len) (fun j s hj => by
            by_cases c : j = i
            · subst c
              rw [List.getElem?_set_self (by rw [← r'.len]; exact li)] at hj
              cases hj
              exact .inl rfl
            · rw [List.getElem?_set_ne (Ne.symm c)] at hj
              exact .inr (.inl ⟨hj, List.getElem?_set_ne (Ne.symm c)⟩))
          refine ⟨c, s, hu, rfl, k2, List.getElem?_set_self li, fun H2 s2 => ?_⟩
          refine p _ _ H2 (hh.1.grow s2) ((s'.trans hh.2).trans (hid_same s2)) ?_
          simp only [Den]
      · subst hb
        simp only [k] at p
        obtain ⟨u', hu', w⟩ := p σ' H' r' s'
        rw [hu] at hu'
        cases hu'
        exact w
/-- return [s0, s1][int(isinstance(e, C))] -/
def pickI (kit : Str → Option Bool) (s0 s1 : Str) : Str → Option Str := fun c => (kit c).map fun b => if b = true then s1 else s0
theorem vs_tryI {x n h : Str} {i : Nat} {np pos' lp ip sp p1 p2 cp cp2 sbp rp q0 q1 : Pos} {j0 j1 : Nat} {s0 s1 : Str} {body : List Stmt} {g : FS} {sub : Str → Str → Option Bool} {kit : Str → Option Bool} (hsb : SubOk X.K X.mg sub) (hk : ∀ c b, kit c = some b → KitA X.K X.mg c h b ∧ ExA X.K X.mg c)
    (hgi : Gl X "int") (hmi : X.mg "int" = none) (hgs : Gl X "isinstance") (hms : X.mg "isinstance" = none) (hgh : Gl X h) (hdh : (h == ("__debug__" : Str)) = false)
    (hs : X.stack = X.env :: X.outer) (hf : X.env.frame = some X.env.locals) (hN : X.N.Nodup) (hi : X.N[i]? = some n) (hln : X.env.kindOf n = some .local) (hv : Vis X.env.scope n) (hdn : (n == ("__debug__" : Str)) = false) (hcn : (n == ("__classdict__" : Str)) = false) (hg : Gl X x) (hd : (x == ("__debug__" : Str)) = false) (hm : ∃ v, X.mg x = some v)
    (tk : Takes X W) (hb : ∀ (W' : WX) (pn : List (Addr × Obj)) (xe : Value → Shared → Prop), Takes (X.tr pn xe) W' → PassesOwn (model X.prog X.w) X.A X.env xe → PSs (X.tr pn xe) body (rdS X.K X.mg W' g)) :
    PS X (.Try body [.ExceptHandler (some (.Name x np)) (some n) [.Return (some (.Subscript (.List [.Constant (.str s0) j0 q0, .Constant (.str s1) j1 q1] lp) (.Call (.Name "int" ip) [.Call (.Name "isinstance" sp) [.Name n p1, .Name h p2] [] cp] [] cp2) sbp)) rp] pos'] [] [] pos) (rdS X.K X.mg W (sTryP sub g x i (pickI kit s0 s1))) := by
  refine vs_tryP hsb hs hf hN hi hln hg hd hm tk hb fun a oe cls d pn hz hfl => ⟨fun pins s σ H D I hh => ?_⟩
  obtain ⟨c, s, hc, rfl, hp, hσ, hD⟩ := hh
  unfold pickI at hp
  cases k : kit c with
  | none => rw [k] at hp; cases hp
  | some b =>
    rw [k] at hp
    cases hp
    obtain ⟨⟨D1, C, h1, h2, h3⟩, D2, h4, h5⟩ := hk c b k
    rw [hc] at h1 h4
    cases h1
    cases h4
    have a1 := pa_cons (X := X.suite a ((a, oe) :: pn)) (pe_var (pos := p1) (i := i) hi hv hdn hcn) (pa_cons (X := X.suite a ((a, oe) :: pn)) (pe_glob (pos := p2) (v := .ref C) hgh h2 rfl hdh) (pa_nil (X := X.suite a ((a, oe) :: pn))))
    have a2 := pe_callB (X := X.suite a ((a, oe) :: pn)) (p := sp) (pos := cp) (call_isE h5 hz hfl) hgs hms (by decide +kernel) a1
    have a3 := pe_callTy (X := X.suite a ((a, oe) :: pn)) (p := ip) (pos := cp2) call_int1 hgi hmi (by decide +kernel) (pa_cons (X := X.suite a ((a, oe) :: pn)) a2 (pa_nil (X := X.suite a ((a, oe) :: pn))))
    have a4 := pe_lst (X := X.suite a ((a, oe) :: pn)) (pos := lp) (pa_cons (X := X.suite a ((a, oe) :: pn)) (pe_str (x := s0) (j := j0) (pos := q0)) (pa_cons (X := X.suite a ((a, oe) :: pn)) (pe_str (x := s1) (j := j1) (pos := q1)) (pa_nil (X := X.suite a ((a, oe) :: pn)))))
    have a5 := pss_one (X := X.suite a ((a, oe) :: pn)) (ps_ret (pos := rp) (pe_ix (X := X.suite a ((a, oe) :: pn)) (pos := sbp) ix_seq a4 a3 (fun _ _ => rfl)))
    refine a5.run pins s σ H D I ?_
    refine ⟨by show 2 ≤ _; rw [← lim_eq]; decide, fun p hp => ?_⟩
    refine ⟨.ref a, hσ, .ref C, .ref C, b, rfl, fun u r => r, h3, ?_⟩
    refine .inr ⟨b, rfl, .inl ⟨p, [.str s0, .str s1], if b = true then 1 else 0, .str (if b = true then s1 else s0), rfl, rfl, .inl (.inl upd_same), ?_, hD _ (same_upd hp)⟩⟩
    cases b <;> rfl
end
end Mi
namespace Mi
open PySem PySem.Spec PyProof.Rows L2
/-! ### a head that is asked one more thing -/
def obP (n : Nat) (fa : List He.Fa) (fn : List He.DefD) (ck : PySem.W.Frag → Bool) (g : Addr → Option Obj) : Bool × He.AlD := (ck (He.frG g (He.asD g n)), He.obsDG n fa fn g)
def hookP (n : Nat) (fa : List He.Fa) (fn : List He.DefD) (ck : PySem.W.Frag → Bool) : PySem.W.Hook where
  α := Bool × He.AlD
  obs := fun s => obP n fa fn ck s.heap.get?
  val := fun _ => (true, He.valD fn)
  says := fun _ h => ∃ K : PySem.W.Frag, K.In h ∧ He.SaysD fa fn K ∧ ck K = true
  of := fun _ _ e => ⟨_, He.frG_in, congrArg Prod.snd e, congrArg Prod.fst e⟩
  keeps := fun _ _ _ ⟨K, hK, c, q⟩ k => ⟨K, PySem.W.Frag.In.keeps hK k, c, q⟩
theorem obP_eq {n : Nat} {fa : List He.Fa} {fn : List He.DefD} {ck : PySem.W.Frag → Bool} {g : Addr → Option Obj} {s : Shared} (h : ∀ a, g a = s.heap.get? a) : obP n fa fn ck g = (hookP n fa fn ck).obs s := by
  have e : g = s.heap.get? := funext h
  rw [e] <;> rfl
/-! what may be asked -/
def ckExc (x : Str) (K : PySem.W.Frag) : Bool :=
  decide (PySem.W.findIn K (.ref (He.ga K x)) "__getattribute__" = some (some (.builtin "BaseException.__getattribute__"))) && (decide (PySem.W.findIn K (.ref (He.ga K x)) "__getattr__" = some none) &&
  (decide (PySem.W.subIn K (.ref (He.ga K x)) (.type "BaseException") = some true) && (PySem.W.hasDictIn K (He.ga K x) && (decide (PySem.W.findIn K (.ref (He.ga K x)) "__class__" = some (some (.builtin "object.__class__"))) &&
  (decide (PySem.W.specialIn K (.builtin "object.__class__") "__get__" = some (some (.builtin "getset_descriptor.__get__"))) && (decide (PySem.W.takesIn K (.builtin "object.__class__") = some true) && decide (PySem.W.mroIn K (He.ga K x) (.type "object") = some true)))))))
theorem ckExc_ok {x : Str} {K : PySem.W.Frag} (h : ckExc x K = true) : ExcC K (He.ga K x) := by
  unfold ckExc at h
  simp only [Bool.and_eq_true, decide_eq_true_eq] at h
  obtain ⟨h1, h2, h3, h4, h5, h6, h7, h8⟩ := h
  exact ⟨h1, h2, h3, h4, h5, h6, h7, h8⟩
def ckKit (x y : Str) (b : Bool) (K : PySem.W.Frag) : Bool := decide (PySem.W.kitOne K (.ref (He.ga K x)) (.ref (He.ga K y)) = some b)
def ckAll (cs : List (PySem.W.Frag → Bool)) (K : PySem.W.Frag) : Bool := cs.all fun c => c K
theorem ckAll_get {cs : List (PySem.W.Frag → Bool)} {K : PySem.W.Frag} (h : ckAll cs K = true) (i : Nat) {c : PySem.W.Frag → Bool} (hi : cs[i]? = some c) : c K = true := List.all_eq_true.mp h c (List.mem_of_getElem? hi)
end Mi
namespace Mi
open PySem PySem.Spec PyProof.Rows L2
section
variable {K : PySem.W.Frag}
/-! ### max, min, sum, any of a list; list(x), tuple(x); in -/
def ints1 : List D → Option (List Int)
  | [.lst ds] => intsOf ds
  | _ => none
theorem ints1_den {Hh H : Hp} {ds : List D} {vs : List V} {ns : List Int} (s : Same Hh H) (h : DenL K Hh ds vs) (e : ints1 ds = some ns) : ∃ a, vs = [V.ref a] ∧ SqL K H a (ns.map V.int) := by
  match ds, e with
  | [.lst es], e =>
    simp only [ints1] at e
    rw [intsOf_some e] at h
    obtain ⟨v, rfl, hv⟩ := den1 h
    obtain ⟨p, us, rfl, h1, h2⟩ := den_lst hv
    rw [den_ints_back h2] at h1
    exact ⟨p, rfl, s.seq (.inl (.inl h1))⟩
def maxL : List Int → Option Int
  | [] => none
  | n :: ns => some (ns.foldl (fun a b => if b > a then b else a) n)
def minL : List Int → Option Int
  | [] => none
  | n :: ns => some (ns.foldl (fun a b => if b < a then b else a) n)
theorem maxF_spec : ∀ (ns : List Int) (n : Int), (∀ y ∈ n :: ns, y ≤ ns.foldl (fun a b => if b > a then b else a) n) ∧ ns.foldl (fun a b => if b > a then b else a) n ∈ n :: ns
  | [], n => ⟨fun y hy => by simp at hy; subst hy; exact Int.le_refl _, by simp⟩
  | m :: ns, n => by
    obtain ⟨h1, h2⟩ := maxF_spec ns (if m > n then m else n)
    rw [List.foldl_cons]
    have h0 := h1 _ (List.mem_cons_self ..)
    refine ⟨fun y hy => ?_, ?_⟩
    · rcases List.mem_cons.1 hy with rfl | hy
      · refine Int.le_trans ?_ h0
        split <;> omega
      rcases List.mem_cons.1 hy with rfl | hy
      · refine Int.le_trans ?_ h0
        split <;> omega
      · exact h1 y (List.mem_cons_of_mem _ hy)
    · rcases List.mem_cons.1 h2 with h | h
      · rw [h]
        split <;> simp
      · exact List.mem_cons_of_mem _ (List.mem_cons_of_mem _ h)
theorem minF_spec : ∀ (ns : List Int) (n : Int), (∀ y ∈ n :: ns, ns.foldl (fun a b => if b < a then b else a) n ≤ y) ∧ ns.foldl (fun a b => if b < a then b else a) n ∈ n :: ns
  | [], n => ⟨fun y hy => by simp at hy; subst hy; exact Int.le_refl _, by simp⟩
  | m :: ns, n => by
    obtain ⟨h1, h2⟩ := minF_spec ns (if m < n then m else n)
    rw [List.foldl_cons]
    have h0 := h1 _ (List.mem_cons_self ..)
    refine ⟨fun y hy => ?_, ?_⟩
    · rcases List.mem_cons.1 hy with rfl | hy
      · refine Int.le_trans h0 ?_
        split <;> omega
      rcases List.mem_cons.1 hy with rfl | hy
      · refine Int.le_trans h0 ?_
        split <;> omega
      · exact h1 y (List.mem_cons_of_mem _ hy)
    · rcases List.mem_cons.1 h2 with h | h
      · rw [h]
        split <;> simp
      · exact List.mem_cons_of_mem _ (List.mem_cons_of_mem _ h)
def fMax1 (ds : List D) : Option D := (ints1 ds).bind fun ns => (maxL ns).map .int
def fMin1 (ds : List D) : Option D := (ints1 ds).bind fun ns => (minL ns).map .int
def fSum (ds : List D) : Option D := (ints1 ds).map fun ns => .int ns.sum
theorem rc_max1 : RC K (rMax K) fMax1 := fun Hh H ds vs d Q s h e q => by
  unfold fMax1 at e
  cases k : ints1 ds with
  | none => rw [k] at e; cases e
  | some ns =>
    rw [k] at e
    obtain ⟨a, rfl, hs⟩ := ints1_den s h k
    cases ns with
    | nil => cases e
    | cons n ns =>
      cases e
      obtain ⟨h1, h2⟩ := maxF_spec ns n
      refine ⟨a, _, rfl, hs, by simp, fun m hm hle => ?_⟩
      have : m = ns.foldl (fun a b => if b > a then b else a) n := Int.le_antisymm (h1 m hm) (hle _ h2)
      subst this
      exact flatQ (fun _ => by simp only [Den]) q
theorem rc_min1 : RC K (rMin K) fMin1 := fun Hh H ds vs d Q s h e q => by
  unfold fMin1 at e
  cases k : ints1 ds with
  | none => rw [k] at e; cases e
  | some ns =>
    rw [k] at e
    obtain ⟨a, rfl, hs⟩ := ints1_den s h k
    cases ns with
    | nil => cases e
    | cons n ns =>
      cases e
      obtain ⟨h1, h2⟩ := minF_spec ns n
      refine ⟨a, _, rfl, hs, by simp, fun m hm hle => ?_⟩
      have : m = ns.foldl (fun a b => if b < a then b else a) n := Int.le_antisymm (hle _ h2) (h1 m hm)
      subst this
      exact flatQ (fun _ => by simp only [Den]) q
theorem rc_sum : RC K (rSum K) fSum := fun Hh H ds vs d Q s h e q => by
  unfold fSum at e
  cases k : ints1 ds with
  | none => rw [k] at e; cases e
  | some ns =>
    rw [k] at e
    cases e
    obtain ⟨a, rfl, hs⟩ := ints1_den s h k
    exact ⟨a, ns, rfl, hs, flatQ (fun _ => by simp only [Den]) q⟩
def fAny : List D → Option D
  | [.lst ds] => (bls ds).map fun bs => .bl (bs.any id)
  | _ => none
theorem rc_any : RC K (rAny K) fAny := fun Hh H ds vs d Q s h e q => by
  match ds, e with
  | [.lst es], e =>
    simp only [fAny] at e
    cases k : bls es with
    | none => rw [k] at e; cases e
    | some bs =>
      rw [k] at e
      cases e
      obtain ⟨v, rfl, hv⟩ := den1 h
      obtain ⟨p, us, rfl, h1, h2⟩ := den_lst hv
      rw [bls_some k h2] at h1
      exact ⟨p, bs, rfl, s.seq (.inl (.inl h1)), flatQ (fun _ => by simp only [Den]) q⟩
def fTup : List D → Option D
  | [.lst ds] => some (.tup ds)
  | [.tup ds] => some (.tup ds)
  | _ => none
def rTupOf (K : PySem.W.Frag) : List V → Hp → VK → Prop := fun xs H Q => ∃ p ys, xs = [.ref p] ∧ ((SqL K H p ys ∧ ∀ l, H l = none → Q (.ref l) (upd H l (.tup ys))) ∨ (SqT K H p ys ∧ Q (.ref p) H))
theorem call_tupA {X : Cx} : CallR X (.type "tuple") (rTupOf X.K) := call_tuple_of
theorem rc_tup : RC K (rTupOf K) fTup := fun Hh H ds vs d Q s h e q => by
  match ds, e with
  | [.lst es], e =>
    cases e
    obtain ⟨v, rfl, hv⟩ := den1 h
    obtain ⟨p, us, rfl, h1, h2⟩ := den_lst hv
    exact ⟨p, us, rfl, .inl ⟨s.seq (.inl (.inl h1)), fun l hl => q _ _ (same_upd hl) (Fresh.tup hl h2)⟩⟩
  | [.tup es], e =>
    cases e
    obtain ⟨v, rfl, hv⟩ := den1 h
    obtain ⟨p, us, rfl, h1, h2⟩ := den_tup hv
    exact ⟨p, us, rfl, .inr ⟨Same.seqT s h1, q _ _ (Same.refl _) (Fresh.flat hv)⟩⟩
def fLst : List D → Option D
  | [.lst ds] => some (.lst ds)
  | [.rls ds] => some (.lst ds)
  | [.tup ds] => some (.lst ds)
  | _ => none
def rLstOf (K : PySem.W.Frag) : List V → Hp → VK → Prop := fun xs H Q => ∃ p ys, xs = [.ref p] ∧ (SqL K H p ys ∨ SqT K H p ys) ∧ ∀ l, H l = none → Q (.ref l) (upd H l (.lst ys))
theorem call_lstA {X : Cx} : CallR X (.type "list") (rLstOf X.K) := call_list_of
theorem rc_lst : RC K (rLstOf K) fLst := fun Hh H ds vs d Q s h e q => by
  match ds, e with
  | [.lst es], e =>
    cases e
    obtain ⟨v, rfl, hv⟩ := den1 h
    obtain ⟨p, us, rfl, h1, h2⟩ := den_lst hv
    exact ⟨p, us, rfl, .inl (s.seq (.inl (.inl h1))), fun l hl => q _ _ (same_upd hl) (Fresh.lst hl h2)⟩
  | [.rls es], e =>
    cases e
    obtain ⟨v, rfl, hv⟩ := den1 h
    simp only [Den] at hv
    obtain ⟨p, us, rfl, h1, h2⟩ := hv
    exact ⟨p, us, rfl, .inl (s.seq h1), fun l hl => q _ _ (same_upd hl) (Fresh.lst hl h2)⟩
  | [.tup es], e =>
    cases e
    obtain ⟨v, rfl, hv⟩ := den1 h
    obtain ⟨p, us, rfl, h1, h2⟩ := den_tup hv
    exact ⟨p, us, rfl, .inr (Same.seqT s h1), fun l hl => q _ _ (same_upd hl) (Fresh.lst hl h2)⟩
def gCat : D → D → Option (List D)
  | .lst a, .lst b => if a.length + b.length ≤ lim then some (a ++ b) else none
  | _, _ => none
theorem rbn_cat : RBN K rCat gCat := fun Hh H a b x y ds Q s ha hb h q => by
  match a, b, h with
  | .lst i, .lst j, h =>
    simp only [gCat] at h
    by_cases c : i.length + j.length ≤ lim
    · rw [if_pos c] at h
      cases h
      obtain ⟨p, vs, rfl, h1, h2⟩ := den_lst ha
      obtain ⟨p', us, rfl, h3, h4⟩ := den_lst hb
      exact ⟨p, p', vs, us, rfl, rfl, s _ _ h1, s _ _ h3, by rw [← h2.length, ← h4.length, ← lim_eq]; exact c, fun r hr => q r _ hr (DenL.append h2 h4)⟩
    · rw [if_neg c] at h; cases h
/-! ### in -/
def flatD : D → Bool
  | .int _ => true
  | .bl _ => true
  | .str _ => true
  | _ => false
end
theorem lst_no (d : D) : lstOf false d = none := by cases d <;> rfl
theorem mi9 : (∀ (sub : Str → Str → Option Bool) (g : FS) (hs : List (Str × FS)) (e : En), sTry sub g hs e = match g e with | .exc c e1 => handleM sub hs c e1 | r => r) ∧
  (∀ (sub : Str → Str → Option Bool) (c : Str) (e : En), handleM sub [] c e = .exc c e) ∧
  (∀ (sub : Str → Str → Option Bool) (h : Str) (g : FS) (r : List (Str × FS)) (c : Str) (e : En), handleM sub ((h, g) :: r) c e = match sub c h with | some true => noX (g e) | some false => handleM sub r c e | none => .err) ∧
  (∀ (d : D) (e : En), noX (.ok (.rt d e)) = .ok (.rt d e)) ∧
  (∀ (sub : Str → Str → Option Bool) (g : FS) (x : Str) (i : Nat) (pick : Str → Option Str) (e : En), sTryP sub g x i pick e = match g e with | .exc c e1 => (match sub c x with | some true => (match pick c with | some d => if i < e1.length then .ok (.rt (.str d) (e1.set i .un)) else .err | none => .err) | some false => .exc c e1 | none => .err) | r => r) ∧
  (∀ (n : Nat) (fns : List (List D → R D)) (fi : FE) (f : FA) (e : En), eCallIx n fns fi f e = (fi e).bind fun p => match (int? p.1).bind (atI fns) with | none => .err | some fn => (f p.2).bind fun q => if q.1.length = n then (match fn q.1 with | .ok d => .ok (d, q.2) | .exc c _ => .exc c q.2 | .err => .err) else .err) ∧
  (∀ (ds : List D), ints1 [.lst ds] = intsOf ds) ∧
  (∀ (ds : List D), fMax1 ds = (ints1 ds).bind fun ns => (maxL ns).map .int) ∧
  (∀ (ds : List D), fMin1 ds = (ints1 ds).bind fun ns => (minL ns).map .int) ∧
  (∀ (ds : List D), fSum ds = (ints1 ds).map fun ns => .int ns.sum) ∧
  (∀ (ds : List D), fTup [.lst ds] = some (.tup ds)) ∧ (∀ (ds : List D), fTup [.tup ds] = some (.tup ds)) ∧
  (∀ (ds : List D), fLst [.lst ds] = some (.lst ds)) ∧ (∀ (ds : List D), fLst [.tup ds] = some (.lst ds)) ∧ (∀ (a b : List D), gCat (.lst a) (.lst b) = if a.length + b.length ≤ lim then some (a ++ b) else none) :=
  ⟨by intros; rfl, by intros; rfl, by intros; rfl, by intros; rfl, by intros; rfl, by intros; rfl, by intros; rfl, by intros; rfl, by intros; rfl, by intros; rfl, by intros; rfl, by intros; rfl, by intros; rfl, by intros; rfl, by intros; rfl⟩
end Mi
namespace Lw
open PySem PySem.Spec PyProof.Rows L2 Mi
def topS (i : Nat) : Stmt := PySem.Challenge.pw_oncecodes_k40_whole_locks_and_buckets.main.body.getD i (.Pass ⟨0, 0, 0, 0⟩)
def pk__law_draws : {s : Stmt // topS 37 = s} := ⟨_, by conv => lhs; whnf⟩
def st__law_draws : Stmt := pk__law_draws.1
def pk__law_take : {s : Stmt // topS 38 = s} := ⟨_, by conv => lhs; whnf⟩
def st__law_take : Stmt := pk__law_take.1
def pk__law_pick : {s : Stmt // topS 39 = s} := ⟨_, by conv => lhs; whnf⟩
def st__law_pick : Stmt := pk__law_pick.1
def pk__law_same : {s : Stmt // topS 41 = s} := ⟨_, by conv => lhs; whnf⟩
def st__law_same : Stmt := pk__law_same.1
def pk__law_lock : {s : Stmt // topS 42 = s} := ⟨_, by conv => lhs; whnf⟩
def st__law_lock : Stmt := pk__law_lock.1
def pk_is_integer : {s : Stmt // topS 3 = s} := ⟨_, by conv => lhs; whnf⟩
def st_is_integer : Stmt := pk_is_integer.1
def pk_is_within : {s : Stmt // topS 4 = s} := ⟨_, by conv => lhs; whnf⟩
def st_is_within : Stmt := pk_is_within.1
def pk_is_lock : {s : Stmt // topS 15 = s} := ⟨_, by conv => lhs; whnf⟩
def st_is_lock : Stmt := pk_is_lock.1
def pk_is_bucket : {s : Stmt // topS 16 = s} := ⟨_, by conv => lhs; whnf⟩
def st_is_bucket : Stmt := pk_is_bucket.1
def pk_check : {s : Stmt // topS 5 = s} := ⟨_, by conv => lhs; whnf⟩
def st_check : Stmt := pk_check.1
def pk_check_lock : {s : Stmt // topS 17 = s} := ⟨_, by conv => lhs; whnf⟩
def st_check_lock : Stmt := pk_check_lock.1
def pk_is_count : {s : Stmt // topS 6 = s} := ⟨_, by conv => lhs; whnf⟩
def st_is_count : Stmt := pk_is_count.1
def pk_is_state_by : {s : Stmt // topS 19 = s} := ⟨_, by conv => lhs; whnf⟩
def st_is_state_by : Stmt := pk_is_state_by.1
def pk_is_state : {s : Stmt // topS 20 = s} := ⟨_, by conv => lhs; whnf⟩
def st_is_state : Stmt := pk_is_state.1
def pk_power : {s : Stmt // topS 7 = s} := ⟨_, by conv => lhs; whnf⟩
def st_power : Stmt := pk_power.1
def pk_wait_by : {s : Stmt // topS 21 = s} := ⟨_, by conv => lhs; whnf⟩
def st_wait_by : Stmt := pk_wait_by.1
def pk_wait_of : {s : Stmt // topS 22 = s} := ⟨_, by conv => lhs; whnf⟩
def st_wait_of : Stmt := pk_wait_of.1
def pk_tried_by : {s : Stmt // topS 23 = s} := ⟨_, by conv => lhs; whnf⟩
def st_tried_by : Stmt := pk_tried_by.1
def pk_tried : {s : Stmt // topS 24 = s} := ⟨_, by conv => lhs; whnf⟩
def st_tried : Stmt := pk_tried.1
def pk_is_sorted : {s : Stmt // topS 25 = s} := ⟨_, by conv => lhs; whnf⟩
def st_is_sorted : Stmt := pk_is_sorted.1
def pk_is_try : {s : Stmt // topS 26 = s} := ⟨_, by conv => lhs; whnf⟩
def st_is_try : Stmt := pk_is_try.1
def pk_heard : {s : Stmt // topS 27 = s} := ⟨_, by conv => lhs; whnf⟩
def st_heard : Stmt := pk_heard.1
def pk_times_by : {s : Stmt // topS 28 = s} := ⟨_, by conv => lhs; whnf⟩
def st_times_by : Stmt := pk_times_by.1
def pk_most_tries : {s : Stmt // topS 29 = s} := ⟨_, by conv => lhs; whnf⟩
def st_most_tries : Stmt := pk_most_tries.1
def pk_time_for : {s : Stmt // topS 30 = s} := ⟨_, by conv => lhs; whnf⟩
def st_time_for : Stmt := pk_time_for.1
def pk_check_bucket : {s : Stmt // topS 18 = s} := ⟨_, by conv => lhs; whnf⟩
def st_check_bucket : Stmt := pk_check_bucket.1
def pk_gone_through : {s : Stmt // topS 31 = s} := ⟨_, by conv => lhs; whnf⟩
def st_gone_through : Stmt := pk_gone_through.1
def pk_check_tries : {s : Stmt // topS 32 = s} := ⟨_, by conv => lhs; whnf⟩
def st_check_tries : Stmt := pk_check_tries.1
def pk_drops_at : {s : Stmt // topS 33 = s} := ⟨_, by conv => lhs; whnf⟩
def st_drops_at : Stmt := pk_drops_at.1
def pk_bucket_heard : {s : Stmt // topS 34 = s} := ⟨_, by conv => lhs; whnf⟩
def st_bucket_heard : Stmt := pk_bucket_heard.1
def pk_most_from : {s : Stmt // topS 35 = s} := ⟨_, by conv => lhs; whnf⟩
def st_most_from : Stmt := pk_most_from.1
def pk__law_told : {s : Stmt // topS 47 = s} := ⟨_, by conv => lhs; whnf⟩
def st__law_told : Stmt := pk__law_told.1
def pk__law_wait : {s : Stmt // topS 43 = s} := ⟨_, by conv => lhs; whnf⟩
def st__law_wait : Stmt := pk__law_wait.1
def pk__law_try : {s : Stmt // topS 44 = s} := ⟨_, by conv => lhs; whnf⟩
def st__law_try : Stmt := pk__law_try.1
def pk__law_heard : {s : Stmt // topS 45 = s} := ⟨_, by conv => lhs; whnf⟩
def st__law_heard : Stmt := pk__law_heard.1
def pk__law_seconds : {s : Stmt // topS 48 = s} := ⟨_, by conv => lhs; whnf⟩
def st__law_seconds : Stmt := pk__law_seconds.1
def pk__law_is_lock_due : {s : Stmt // topS 49 = s} := ⟨_, by conv => lhs; whnf⟩
def st__law_is_lock_due : Stmt := pk__law_is_lock_due.1
def pk__law_drops : {s : Stmt // topS 46 = s} := ⟨_, by conv => lhs; whnf⟩
def st__law_drops : Stmt := pk__law_drops.1
def pk__law_is_bucket_due : {s : Stmt // topS 50 = s} := ⟨_, by conv => lhs; whnf⟩
def st__law_is_bucket_due : Stmt := pk__law_is_bucket_due.1
def pk_law : {s : Stmt // topS 51 = s} := ⟨_, by conv => lhs; whnf⟩
def st_law : Stmt := pk_law.1
/-- what the top has written -/
structure Tx (K : PySem.W.Frag) (mg : Str → Option Value) : Prop where
  d__law_draws : DefA K mg "_law_draws" st__law_draws ["script"]
  d__law_take : DefA K mg "_law_take" st__law_take ["draws", "bound"]
  d__law_pick : DefA K mg "_law_pick" st__law_pick ["draws", "some"]
  d__law_same : DefA K mg "_law_same" st__law_same ["told", "due"]
  d__law_lock : DefA K mg "_law_lock" st__law_lock ["draws"]
  d_is_integer : DefA K mg "is_integer" st_is_integer ["value"]
  d_is_within : DefA K mg "is_within" st_is_within ["value", "low", "high"]
  d_is_lock : DefA K mg "is_lock" st_is_lock ["value"]
  d_is_bucket : DefA K mg "is_bucket" st_is_bucket ["value"]
  d_check : DefA K mg "check" st_check ["is_right"]
  d_check_lock : DefA K mg "check_lock" st_check_lock ["lock"]
  d_is_count : DefA K mg "is_count" st_is_count ["value"]
  d_is_state_by : DefA K mg "is_state_by" st_is_state_by ["lock", "value"]
  d_is_state : DefA K mg "is_state" st_is_state ["lock", "value"]
  d_power : DefA K mg "power" st_power ["number", "times"]
  d_wait_by : DefA K mg "wait_by" st_wait_by ["lock", "wrong"]
  d_wait_of : DefA K mg "wait_of" st_wait_of ["lock", "wrong"]
  d_tried_by : DefA K mg "tried_by" st_tried_by ["lock", "state", "second", "is_right"]
  d_tried : DefA K mg "tried" st_tried ["lock", "state", "second", "is_right"]
  d_is_sorted : DefA K mg "is_sorted" st_is_sorted ["values"]
  d_is_try : DefA K mg "is_try" st_is_try ["value"]
  d_heard : DefA K mg "heard" st_heard ["lock", "tries"]
  d_times_by : DefA K mg "times_by" st_times_by ["lock"]
  d_most_tries : DefA K mg "most_tries" st_most_tries ["lock", "second"]
  d_time_for : DefA K mg "time_for" st_time_for ["lock", "count"]
  d_check_bucket : DefA K mg "check_bucket" st_check_bucket ["bucket"]
  d_gone_through : DefA K mg "gone_through" st_gone_through ["bucket", "tries"]
  d_check_tries : DefA K mg "check_tries" st_check_tries ["tries"]
  d_drops_at : DefA K mg "drops_at" st_drops_at ["bucket", "tries", "second"]
  d_bucket_heard : DefA K mg "bucket_heard" st_bucket_heard ["bucket", "tries"]
  d_most_from : DefA K mg "most_from" st_most_from ["bucket", "second"]
  d__law_told : DefA K mg "_law_told" st__law_told ["which", "one", "two", "three", "four"]
  d__law_wait : DefA K mg "_law_wait" st__law_wait ["lock", "wrong"]
  d__law_try : DefA K mg "_law_try" st__law_try ["lock", "state", "second", "is_right"]
  d__law_heard : DefA K mg "_law_heard" st__law_heard ["lock", "tries"]
  d__law_seconds : DefA K mg "_law_seconds" st__law_seconds ["draws", "most", "wide"]
  d__law_is_lock_due : DefA K mg "_law_is_lock_due" st__law_is_lock_due ["draws", "lock"]
  d__law_drops : DefA K mg "_law_drops" st__law_drops ["bucket", "tries", "second"]
  d__law_is_bucket_due : DefA K mg "_law_is_bucket_due" st__law_is_bucket_due ["draws", "bucket"]
  d_law : DefA K mg "law" st_law ["script"]
  h_CodeError : ∃ v, mg "CodeError" = some v
  p_NotRight_CodeError : ∃ u v, mg "NotRight" = some u ∧ mg "CodeError" = some v ∧ PySem.W.exmOne K u v = some true
  k_NotRight_NotRight : KitA K mg "NotRight" "NotRight" true
  a_NotRight : ExA K mg "NotRight"
  b_abs : mg "abs" = none
  b_all : mg "all" = none
  b_bool : mg "bool" = none
  b_dict : mg "dict" = none
  b_int : mg "int" = none
  b_isinstance : mg "isinstance" = none
  b_len : mg "len" = none
  b_list : mg "list" = none
  b_max : mg "max" = none
  b_min : mg "min" = none
  b_range : mg "range" = none
  b_reversed : mg "reversed" = none
  b_str : mg "str" = none
  b_tuple : mg "tuple" = none
  b_zip : mg "zip" = none
  i_LONGEST : IntA mg "LONGEST" 1000000
  i_MOST_DROPS : IntA mg "MOST_DROPS" 1000
  i_MOST_EACH : IntA mg "MOST_EACH" 100000
  i_MOST_FIRST : IntA mg "MOST_FIRST" 1000
  i_MOST_FREE : IntA mg "MOST_FREE" 20
  i_MOST_WRONG : IntA mg "MOST_WRONG" 200
  e_NotRight : ExcA K mg "NotRight"
def exSub : Str → Str → Option Bool := fun c h => if c = "NotRight" ∧ h = "CodeError" then some true else none
theorem sub_ok {K : PySem.W.Frag} {mg : Str → Option Value} (T : Tx K mg) : SubOk K mg exSub := by
  intro c h b e
  unfold exSub at e
  by_cases q0 : c = "NotRight" ∧ h = "CodeError"
  · rw [if_pos q0] at e
    cases e
    obtain ⟨rfl, rfl⟩ := q0
    exact T.p_NotRight_CodeError
  rw [if_neg q0] at e
  cases e
def exKit_NotRight : Str → Option Bool := fun c => if c = "NotRight" then some true else none
theorem kit_NotRight_ok {K : PySem.W.Frag} {mg : Str → Option Value} (T : Tx K mg) : ∀ c b, exKit_NotRight c = some b → KitA K mg c "NotRight" b ∧ ExA K mg c := by
  intro c b e
  unfold exKit_NotRight at e
  by_cases q0 : c = "NotRight"
  · rw [if_pos q0] at e
    cases e
    subst q0
    exact ⟨T.k_NotRight_NotRight, T.a_NotRight⟩
  rw [if_neg q0] at e
  cases e
section
variable {P : Program} {w : World} {K : PySem.W.Frag} {mg : Str → Option Value} {base : Heap}
/-! ### _law_draws -/
theorem S__law_draws : FnScope ["script", "draws", "cell", "seed", "k", "number", "first"] ["script"] (defScope st__law_draws) := ⟨rfl, rfl, rfl, by decide +kernel, rfl, by decide +kernel, by decide +kernel⟩
def b__law_draws_0 : FS := sIf (tC1 (eB gGtI (eV 5) (eC (.int 0)))) (sSeq (sApp 1 (eB gMod (eF fInt (aC (eV 5) (aN))) (eC (.int 997))))
    (sSet 5 (eB gDivX (eV 5) (eC (.int 997))))) (sNx)
def b__law_draws_1 : FS := sSeq (sSet 5 (eF fAbs (aC (eV 2) (aN))))
    (sSeq (sIf (tC1 (eB gLt (eV 5) (eB gPow (eC (.int 10)) (eC (.int 18))))) (sSeq (sSet 6 (eB gMod (eF fInt (aC (eB gAdd (eB gMul (eV 5) (eC (.int 48271))) (eC (.int 11))) (aN))) (eC (.int 2147483647))))
    (sSeq (sApp 1 (eB gMod (eF fInt (aC (eB gAdd (eB gMul (eV 6) (eC (.int 69621))) (eV 5)) (aN))) (eC (.int 2147483629))))
    (sSeq (sApp 1 (eB gMod (eF fInt (aC (eB gAdd (eV 6) (eB gDivX (eV 5) (eC (.int 7)))) (aN))) (eC (.int 1000003))))
    (sSet 5 (eC (.int 0)))))) (sNx))
    (sFor (iR1 (aC (eC (.int 60)) (aN))) (gN 4) b__law_draws_0))
def b__law_draws_2 : FS := sSeq (sSet 3 (eB gMod (eF fInt (aC (eB gAdd (eB gMul (eV 3) (eC (.int 48271))) (eC (.int 69621))) (aN))) (eC (.int 2147483647))))
    (sApp 1 (eB gDivX (eV 3) (eC (.int 5))))
def m__law_draws : FS := sSeq (sNew 1 (nLst (aN)))
    (sSeq (sFor (iL (eV 0)) (gN 2) b__law_draws_1)
    (sSeq (sSet 3 (eC (.int 1)))
    (sSeq (sIf (tC1 (eB gGtI (eF fLen (aC (eV 0) (aN))) (eC (.int 0)))) (sSet 3 (eB gAdd (eC (.int 1)) (eF fAbs (aC (eB gIx (eV 0) (eC (.int 0))) (aN))))) (sNx))
    (sSeq (sFor (iR1 (aC (eC (.int 2000)) (aN))) (gN 4) b__law_draws_2)
    (sRetN (nU gRevL (eV 1)))))))
@[irreducible] def F__law_draws : List D → R D := runA 7 true m__law_draws
theorem c__law_draws (T : Tx K mg) : CallA P w K mg base 1 "_law_draws" 1 true F__law_draws := by
  unfold F__law_draws
  obtain ⟨f, fd, F, g, kp, b⟩ := T.d__law_draws
  have h1 : FnOk P w K mg base (L2.CX P w) (0 + 1) f fd ["script"] (spA K mg 1 true (runA 7 true m__law_draws)) := ok_A (n := 1) (N := ["script", "draws", "cell", "seed", "k", "number", "first"]) (k := 0) (g := m__law_draws) true F S__law_draws rfl (by decide) (fun cdv A outer s H E hr => vss_cons (vs_new 1 S__law_draws.nd (n_lst (va_nil)))
    (vss_cons (vs_for (b := b__law_draws_1) (passes_of rfl) rfl (vi_list (v_var 0)) (vg_name 2 S__law_draws.nd) (vss_cons (vs_set 5 S__law_draws.nd (v_blt rc_abs call_abs rfl T.b_abs (va_cons (v_var 2) (va_nil))))
    (vss_cons (vs_if (vt_cmp rb_lt op_ltA (nomark _) (v_var 5) (v_op rb_pow op_pow (v_int) (v_int))) (vss_cons (vs_set 6 S__law_draws.nd (v_op rb_mod op_mod (v_bty rc_int call_int1 rfl T.b_int (va_cons (v_op rb_add op_addA (v_op rb_mul op_mulA (v_var 5) (v_int)) (v_int)) (va_nil))) (v_int)))
    (vss_cons (vs_append 1 (v_op rb_mod op_mod (v_bty rc_int call_int1 rfl T.b_int (va_cons (v_op rb_add op_addA (v_op rb_mul op_mulA (v_var 6) (v_int)) (v_var 5)) (va_nil))) (v_int)))
    (vss_cons (vs_append 1 (v_op rb_mod op_mod (v_bty rc_int call_int1 rfl T.b_int (va_cons (v_op rb_add op_addA (v_var 6) (v_op rb_divX op_fdivX (v_var 5) (v_int))) (va_nil))) (v_int)))
    (vss_one (vs_set 5 S__law_draws.nd (v_int)))))) (vss_nil))
    (vss_one (vs_for (b := b__law_draws_0) (passes_of rfl) rfl (vi_range1 rfl T.b_range (va_cons (v_int) (va_nil))) (vg_name 4 S__law_draws.nd) (vss_one (vs_if (vt_cmp rb_gtI op_gt (nomark _) (v_var 5) (v_int)) (vss_cons (vs_append 1 (v_op rb_mod op_mod (v_bty rc_int call_int1 rfl T.b_int (va_cons (v_var 5) (va_nil))) (v_int)))
    (vss_one (vs_set 5 S__law_draws.nd (v_op rb_divX op_fdivX (v_var 5) (v_int))))) (vss_nil))))))))
    (vss_cons (vs_set 3 S__law_draws.nd (v_int))
    (vss_cons (vs_if (vt_cmp rb_gtI op_gt (nomark _) (v_blt rc_len call_lenA rfl T.b_len (va_cons (v_var 0) (va_nil))) (v_int)) (vss_one (vs_set 3 S__law_draws.nd (v_op rb_add op_addA (v_int) (v_blt rc_abs call_abs rfl T.b_abs (va_cons (v_ix rb_ix ix_seq (v_var 0) (v_int)) (va_nil)))))) (vss_nil))
    (vss_cons (vs_for (b := b__law_draws_2) (passes_of rfl) rfl (vi_range1 rfl T.b_range (va_cons (v_int) (va_nil))) (vg_name 4 S__law_draws.nd) (vss_cons (vs_set 3 S__law_draws.nd (v_op rb_mod op_mod (v_bty rc_int call_int1 rfl T.b_int (va_cons (v_op rb_add op_addA (v_op rb_mul op_mulA (v_var 3) (v_int)) (v_int)) (va_nil))) (v_int)))
    (vss_one (vs_append 1 (v_op rb_divX op_fdivX (v_var 3) (v_int))))))
    (vss_one (vs_retN (n_lstRev rfl rfl T.b_list rfl T.b_reversed (v_var 1)))))))))
  exact ⟨f, fd, _, h1, kp, b, g⟩
/-! ### _law_take -/
theorem S__law_take : FnScope ["draws", "bound"] ["draws", "bound"] (defScope st__law_take) := ⟨rfl, rfl, rfl, by decide +kernel, rfl, by decide +kernel, by decide +kernel⟩
def m__law_take : FS := sSeq (sIf (tC1 (eB gEq (ePeek 0 lenOf) (eC (.int 0)))) (sRet (eC (.int 0))) (sNx))
    (sRet (eB gMod (eF fInt (aC (ePop 0) (aN))) (eV 1)))
@[irreducible] def F__law_take : List Int → List D → R (D × List Int) := runB 2 m__law_take
theorem c__law_take (T : Tx K mg) : CallB P w K mg base 1 "_law_take" 2 F__law_take := by
  unfold F__law_take
  obtain ⟨f, fd, F, g, kp, b⟩ := T.d__law_take
  have h1 : FnOk P w K mg base (L2.CX P w) (0 + 1) f fd ["draws", "bound"] (spB K 2 (runB 2 m__law_take)) := ok_B (n := 2) (N := ["draws", "bound"]) (k := 0) (g := m__law_take) F S__law_take rfl (by decide) (fun cdv A outer s H E hr => vss_cons (vs_if (vt_cmp rb_eq (op_eqA hr.hu) (nomark _) (v_lenHeld 0 rfl T.b_len) (v_int)) (vss_one (vs_ret (v_int))) (vss_nil))
    (vss_one (vs_ret (v_op rb_mod op_mod (v_bty rc_int call_int1 rfl T.b_int (va_cons (v_pop 0) (va_nil))) (v_var 1)))))
  exact ⟨f, fd, _, h1, kp, b, g⟩
/-! ### _law_pick -/
theorem S__law_pick : FnScope ["draws", "some"] ["draws", "some"] (defScope st__law_pick) := ⟨rfl, rfl, rfl, by decide +kernel, rfl, by decide +kernel, by decide +kernel⟩
def m__law_pick : FS := sRet (eB gIx (eV 1) (eCallB 2 0 F__law_take (aC (eF fLen (aC (eV 1) (aN))) (aN))))
@[irreducible] def F__law_pick : List Int → List D → R (D × List Int) := runB 2 m__law_pick
theorem c__law_pick (T : Tx K mg) : CallB P w K mg base 2 "_law_pick" 2 F__law_pick := by
  unfold F__law_pick
  obtain ⟨f, fd, F, g, kp, b⟩ := T.d__law_pick
  have h1 : FnOk P w K mg base (L2.CX P w) (1 + 1) f fd ["draws", "some"] (spB K 2 (runB 2 m__law_pick)) := ok_B (n := 2) (N := ["draws", "some"]) (k := 1) (g := m__law_pick) F S__law_pick rfl (by decide) (fun cdv A outer s H E hr => vss_one (vs_ret (v_ix rb_ix ix_seq (v_var 1) (v_callBU 0 (c__law_take T) (hr.mono (by decide)) (takes_of rfl rfl rfl rfl) rfl (va_cons (v_blt rc_len call_lenA rfl T.b_len (va_cons (v_var 1) (va_nil))) (va_nil))))))
  exact ⟨f, fd, _, h1, kp, b, g⟩
/-! ### _law_same -/
theorem S__law_same : FnScope ["told", "due", "key", "k"] ["told", "due"] (defScope st__law_same) := ⟨rfl, rfl, rfl, by decide +kernel, rfl, by decide +kernel, by decide +kernel⟩
def f__law_same_0 (r : List D → R D) : FE := eCall 2 r (aC (eB gIx (eV 0) (eV 3)) (aC (eB gIx (eV 1) (eV 3)) (aN)))
def m__law_same (r : List D → R D) : FS := sSeq (sIf (tE (eF fIs (aC (eV 1) (aC (eC (.ty "dict")) (aN))))) (sErr) (sNx))
    (sSeq (sIf (tOr1 (tE (eF fIs (aC (eV 1) (aC (eC (.ty "tuple")) (aN))))) (tE (eF fIs (aC (eV 1) (aC (eC (.ty "list")) (aN)))))) (sSeq (sIf (tOr1 (tC1 (eB gNe (eF fIs (aC (eV 1) (aC (eC (.ty "tuple")) (aN)))) (eF fIs (aC (eV 0) (aC (eC (.ty "tuple")) (aN)))))) (tC1 (eB gNe (eF fIs (aC (eV 1) (aC (eC (.ty "list")) (aN)))) (eF fIs (aC (eV 0) (aC (eC (.ty "list")) (aN))))))) (sRet (eC (.bl false))) (sNx))
    (sRet (eAnd (eB gEq (eF fLen (aC (eV 0) (aN))) (eF fLen (aC (eV 1) (aN)))) (eF fAll (aC (eL (nLc (iR1 (aC (eF fLen (aC (eV 1) (aN))) (aN))) [3] (gN 3) (tYes1) ((f__law_same_0 r)))) (aN)))))) (sNx))
    (sSeq (sIf (tC1 (eB gIsN (eV 1) (eC .non))) (sRet (eB gIsN (eV 0) (eC .non))) (sNx))
    (sSeq (sIf (tC1 (eB gNe (eF fIs (aC (eV 1) (aC (eC (.ty "bool")) (aN)))) (eF fIs (aC (eV 0) (aC (eC (.ty "bool")) (aN)))))) (sRet (eC (.bl false))) (sNx))
    (sSeq (sIf (tOr1 (tC1 (eB gNe (eF fIs (aC (eV 1) (aC (eC (.ty "int")) (aN)))) (eF fIs (aC (eV 0) (aC (eC (.ty "int")) (aN)))))) (tC1 (eB gNe (eF fIs (aC (eV 1) (aC (eC (.ty "str")) (aN)))) (eF fIs (aC (eV 0) (aC (eC (.ty "str")) (aN))))))) (sRet (eC (.bl false))) (sNx))
    (sRet (eB gEq (eV 0) (eV 1)))))))
def R__law_same : Nat → List D → R D
  | 0 => runA 4 false sErr
  | d + 1 => runA 4 false (m__law_same (R__law_same d))
@[irreducible] def F__law_same (d : Nat) : List D → R D := R__law_same d
theorem F__law_same_0 : F__law_same 0 = runA 4 false sErr := by
  unfold F__law_same
  rfl
theorem F__law_same_s (d : Nat) : F__law_same (d + 1) = runA 4 false (m__law_same (F__law_same d)) := by
  unfold F__law_same
  rfl
theorem c__law_same (T : Tx K mg) : ∀ d : Nat, CallA P w K mg base (1 + d) "_law_same" 2 false (F__law_same d)
  | 0 => by
    rw [F__law_same_0]
    obtain ⟨f, fd, F, g, kp, b⟩ := T.d__law_same
    have h1 : FnOk P w K mg base (L2.CX P w) (0 + 1) f fd ["told", "due"] (spA K mg 2 false (runA 4 false sErr)) := ok_A (n := 2) (N := ["told", "due", "key", "k"]) (k := 0) (g := sErr) false F S__law_same rfl (by decide) (fun cdv A outer s H E hr => vss_never)
    exact ⟨f, fd, _, h1, kp, b, g⟩
  | d + 1 => by
    have ih := c__law_same T d
    rw [F__law_same_s]
    obtain ⟨f, fd, F, g, kp, b⟩ := T.d__law_same
    have h1 : FnOk P w K mg base (L2.CX P w) (1 + d + 1) f fd ["told", "due"] (spA K mg 2 false (runA 4 false (m__law_same (F__law_same d)))) := ok_A (n := 2) (N := ["told", "due", "key", "k"]) (k := 1 + d) (g := m__law_same (F__law_same d)) false F S__law_same rfl (by decide) (fun cdv A outer s H E hr => vss_cons (vs_if (vt_val (v_blt rc_is call_isi rfl T.b_isinstance (va_cons (v_var 1) (va_cons (v_ty rfl T.b_dict) (va_nil))))) (vss_never) (vss_nil))
    (vss_cons (vs_if (PW.pt (vw_or (vt_val (v_blt rc_is call_isi rfl T.b_isinstance (va_cons (v_var 1) (va_cons (v_ty rfl T.b_tuple) (va_nil))))) (vw_or1 (vt_val (v_blt rc_is call_isi rfl T.b_isinstance (va_cons (v_var 1) (va_cons (v_ty rfl T.b_list) (va_nil)))))))) (vss_cons (vs_if (PW.pt (vw_or (vt_cmp rb_ne (op_neA hr.hu) (nomark _) (v_blt rc_is call_isi rfl T.b_isinstance (va_cons (v_var 1) (va_cons (v_ty rfl T.b_tuple) (va_nil)))) (v_blt rc_is call_isi rfl T.b_isinstance (va_cons (v_var 0) (va_cons (v_ty rfl T.b_tuple) (va_nil))))) (vw_or1 (vt_cmp rb_ne (op_neA hr.hu) (nomark _) (v_blt rc_is call_isi rfl T.b_isinstance (va_cons (v_var 1) (va_cons (v_ty rfl T.b_list) (va_nil)))) (v_blt rc_is call_isi rfl T.b_isinstance (va_cons (v_var 0) (va_cons (v_ty rfl T.b_list) (va_nil)))))))) (vss_one (vs_ret (v_bl))) (vss_nil))
    (vss_one (vs_ret (v_and (v_cmp rb_eq (op_eqA hr.hu) (nomark _) (v_blt rc_len call_lenA rfl T.b_len (va_cons (v_var 0) (va_nil))) (v_blt rc_len call_lenA rfl T.b_len (va_cons (v_var 1) (va_nil)))) (v_one (v_blt rc_all (cr_all rfl) rfl T.b_all (va_cons (v_ofN (n_lc (own := [("k", 3)]) (c := tYes1) (f := (f__law_same_0 (F__law_same d))) rfl S__law_same.nd (vi_range1 rfl T.b_range (va_cons (v_blt rc_len call_lenA rfl T.b_len (va_cons (v_var 1) (va_nil))) (va_nil))) rfl (fun _ _ _ _ _ => vg_name 3 S__law_same.nd) (fun _ _ _ _ _ => vts_nil) (fun _ _ _ _ _ => v_callU ih hr takes0 rfl (va_cons (v_ix rb_ix ix_seq (v_var 0) (v_var 3)) (va_cons (v_ix rb_ix ix_seq (v_var 1) (v_var 3)) (va_nil)))))) (va_nil)))))))) (vss_nil))
    (vss_cons (vs_if (vt_cmp rb_isN op_isN (nomark _) (v_var 1) (v_non)) (vss_one (vs_ret (v_cmp rb_isN op_isN (nomark _) (v_var 0) (v_non)))) (vss_nil))
    (vss_cons (vs_if (vt_cmp rb_ne (op_neA hr.hu) (nomark _) (v_blt rc_is call_isi rfl T.b_isinstance (va_cons (v_var 1) (va_cons (v_ty rfl T.b_bool) (va_nil)))) (v_blt rc_is call_isi rfl T.b_isinstance (va_cons (v_var 0) (va_cons (v_ty rfl T.b_bool) (va_nil))))) (vss_one (vs_ret (v_bl))) (vss_nil))
    (vss_cons (vs_if (PW.pt (vw_or (vt_cmp rb_ne (op_neA hr.hu) (nomark _) (v_blt rc_is call_isi rfl T.b_isinstance (va_cons (v_var 1) (va_cons (v_ty rfl T.b_int) (va_nil)))) (v_blt rc_is call_isi rfl T.b_isinstance (va_cons (v_var 0) (va_cons (v_ty rfl T.b_int) (va_nil))))) (vw_or1 (vt_cmp rb_ne (op_neA hr.hu) (nomark _) (v_blt rc_is call_isi rfl T.b_isinstance (va_cons (v_var 1) (va_cons (v_ty rfl T.b_str) (va_nil)))) (v_blt rc_is call_isi rfl T.b_isinstance (va_cons (v_var 0) (va_cons (v_ty rfl T.b_str) (va_nil)))))))) (vss_one (vs_ret (v_bl))) (vss_nil))
    (vss_one (vs_ret (v_cmp rb_eq (op_eqA hr.hu) (nomark _) (v_var 0) (v_var 1)))))))))
    exact ⟨f, fd, _, h1, kp, b, g⟩
/-! ### _law_lock -/
theorem S__law_lock : FnScope ["draws", "free", "first"] ["draws"] (defScope st__law_lock) := ⟨rfl, rfl, rfl, by decide +kernel, rfl, by decide +kernel, by decide +kernel⟩
def m__law_lock : FS := sSeq (sPar [1, 2] (bV (eCallB 2 0 F__law_take (aC (eC (.int 4)) (aN))) (bV (eB gAdd (eC (.int 1)) (eCallB 2 0 F__law_take (aC (eC (.int 6)) (aN)))) (bN))))
    (sRet (eTup (aC (eV 1) (aC (eV 2) (aC (eB gAdd (eB gAdd (eV 1) (eC (.int 1))) (eCallB 2 0 F__law_take (aC (eC (.int 6)) (aN)))) (aC (eB gAdd (eV 2) (eCallB 2 0 F__law_take (aC (eCallB 2 0 F__law_pick (aC (eLst (aC (eC (.int 1)) (aC (eC (.int 30)) (aC (eC (.int 200)) (aN))))) (aN))) (aN)))) (aN)))))))
@[irreducible] def F__law_lock : List Int → List D → R (D × List Int) := runB 3 m__law_lock
theorem c__law_lock (T : Tx K mg) : CallB P w K mg base 3 "_law_lock" 1 F__law_lock := by
  unfold F__law_lock
  obtain ⟨f, fd, F, g, kp, b⟩ := T.d__law_lock
  have h1 : FnOk P w K mg base (L2.CX P w) (2 + 1) f fd ["draws"] (spB K 1 (runB 3 m__law_lock)) := ok_B (n := 1) (N := ["draws", "free", "first"]) (k := 2) (g := m__law_lock) F S__law_lock rfl (by decide) (fun cdv A outer s H E hr => vss_cons (vs_par 1 2 rfl S__law_lock.nd (vb_v (v_callBU 0 (c__law_take T) (hr.mono (by decide)) (takes_of rfl rfl rfl rfl) rfl (va_cons (v_int) (va_nil))) (vb_v (v_op rb_add op_addA (v_int) (v_callBU 0 (c__law_take T) (hr.mono (by decide)) (takes_of rfl rfl rfl rfl) rfl (va_cons (v_int) (va_nil)))) (vb_nil))))
    (vss_one (vs_ret (v_tup (va_cons (v_var 1) (va_cons (v_var 2) (va_cons (v_op rb_add op_addA (v_op rb_add op_addA (v_var 1) (v_int)) (v_callBU 0 (c__law_take T) (hr.mono (by decide)) (takes_of rfl rfl rfl rfl) rfl (va_cons (v_int) (va_nil)))) (va_cons (v_op rb_add op_addA (v_var 2) (v_callBU 0 (c__law_take T) (hr.mono (by decide)) (takes_of rfl rfl rfl rfl) rfl (va_cons (v_callBU 0 (c__law_pick T) (hr.mono (by decide)) (takes_of rfl rfl rfl rfl) rfl (va_cons (v_lst (va_cons (v_int) (va_cons (v_int) (va_cons (v_int) (va_nil))))) (va_nil))) (va_nil)))) (va_nil)))))))))
  exact ⟨f, fd, _, h1, kp, b, g⟩
/-! ### is_integer -/
theorem S_is_integer : FnScope ["value"] ["value"] (defScope st_is_integer) := ⟨rfl, rfl, rfl, by decide +kernel, rfl, by decide +kernel, by decide +kernel⟩
def m_is_integer : FS := sRet (eAnd (eF fIs (aC (eV 0) (aC (eC (.ty "int")) (aN)))) (eNot (eF fIs (aC (eV 0) (aC (eC (.ty "bool")) (aN))))))
@[irreducible] def F_is_integer : List D → R D := runA 1 false m_is_integer
theorem c_is_integer (T : Tx K mg) : CallA P w K mg base 1 "is_integer" 1 false F_is_integer := by
  unfold F_is_integer
  obtain ⟨f, fd, F, g, kp, b⟩ := T.d_is_integer
  have h1 : FnOk P w K mg base (L2.CX P w) (0 + 1) f fd ["value"] (spA K mg 1 false (runA 1 false m_is_integer)) := ok_A (n := 1) (N := ["value"]) (k := 0) (g := m_is_integer) false F S_is_integer rfl (by decide) (fun cdv A outer s H E hr => vss_one (vs_ret (v_and (v_blt rc_is call_isi rfl T.b_isinstance (va_cons (v_var 0) (va_cons (v_ty rfl T.b_int) (va_nil)))) (v_one (v_not (v_blt rc_is call_isi rfl T.b_isinstance (va_cons (v_var 0) (va_cons (v_ty rfl T.b_bool) (va_nil)))))))))
  exact ⟨f, fd, _, h1, kp, b, g⟩
/-! ### is_within -/
theorem S_is_within : FnScope ["value", "low", "high"] ["value", "low", "high"] (defScope st_is_within) := ⟨rfl, rfl, rfl, by decide +kernel, rfl, by decide +kernel, by decide +kernel⟩
def m_is_within : FS := sRet (eAnd (eCall 1 F_is_integer (aC (eV 0) (aN))) (eCh gLe gLe (eV 1) (eV 0) (eV 2)))
@[irreducible] def F_is_within : List D → R D := runA 3 false m_is_within
theorem c_is_within (T : Tx K mg) : CallA P w K mg base 2 "is_within" 3 false F_is_within := by
  unfold F_is_within
  obtain ⟨f, fd, F, g, kp, b⟩ := T.d_is_within
  have h1 : FnOk P w K mg base (L2.CX P w) (1 + 1) f fd ["value", "low", "high"] (spA K mg 3 false (runA 3 false m_is_within)) := ok_A (n := 3) (N := ["value", "low", "high"]) (k := 1) (g := m_is_within) false F S_is_within rfl (by decide) (fun cdv A outer s H E hr => vss_one (vs_ret (v_and (v_callU (c_is_integer T) (hr.mono (by decide)) (takes_of rfl rfl rfl rfl) rfl (va_cons (v_var 0) (va_nil))) (v_one (v_chain rb_le rb_le op_leA op_leA (v_var 1) (v_var 0) (v_var 2))))))
  exact ⟨f, fd, _, h1, kp, b, g⟩
/-! ### is_lock -/
theorem S_is_lock : FnScope ["value", "free", "first", "most", "longest"] ["value"] (defScope st_is_lock) := ⟨rfl, rfl, rfl, by decide +kernel, rfl, by decide +kernel, by decide +kernel⟩
def m_is_lock : FS := sSeq (sIf (tOr1 (tNot1 (tE (eF fIs (aC (eV 0) (aC (eC (.ty "tuple")) (aN)))))) (tC1 (eB gNe (eF fLen (aC (eV 0) (aN))) (eC (.int 4))))) (sRet (eC (.bl false))) (sNx))
    (sSeq (sAsg (gT 4 (gsC (gN 1) (gsC (gN 2) (gsC (gN 3) (gsC (gN 4) (gsN)))))) (eV 0))
    (sSeq (sIf (tOr1 (tNot1 (tE (eCall 3 F_is_within (aC (eV 1) (aC (eC (.int 0)) (aC (eC (.int 20)) (aN))))))) (tNot1 (tE (eCall 3 F_is_within (aC (eV 2) (aC (eC (.int 1)) (aC (eC (.int 1000)) (aN)))))))) (sRet (eC (.bl false))) (sNx))
    (sRet (eAnd (eCall 3 F_is_within (aC (eV 3) (aC (eB gAdd (eV 1) (eC (.int 1))) (aC (eC (.int 200)) (aN))))) (eCall 3 F_is_within (aC (eV 4) (aC (eV 2) (aC (eC (.int 1000000)) (aN)))))))))
@[irreducible] def F_is_lock : List D → R D := runA 5 false m_is_lock
theorem c_is_lock (T : Tx K mg) : CallA P w K mg base 3 "is_lock" 1 false F_is_lock := by
  unfold F_is_lock
  obtain ⟨f, fd, F, g, kp, b⟩ := T.d_is_lock
  have h1 : FnOk P w K mg base (L2.CX P w) (2 + 1) f fd ["value"] (spA K mg 1 false (runA 5 false m_is_lock)) := ok_A (n := 1) (N := ["value", "free", "first", "most", "longest"]) (k := 2) (g := m_is_lock) false F S_is_lock rfl (by decide) (fun cdv A outer s H E hr => vss_cons (vs_if (PW.pt (vw_or (vt_not (vt_val (v_blt rc_is call_isi rfl T.b_isinstance (va_cons (v_var 0) (va_cons (v_ty rfl T.b_tuple) (va_nil)))))) (vw_or1 (vt_cmp rb_ne (op_neA hr.hu) (nomark _) (v_blt rc_len call_lenA rfl T.b_len (va_cons (v_var 0) (va_nil))) (v_int))))) (vss_one (vs_ret (v_bl))) (vss_nil))
    (vss_cons (vs_asg (v_var 0) (vg_tup rfl (vgs_cons (vg_name 1 S_is_lock.nd) (vgs_cons (vg_name 2 S_is_lock.nd) (vgs_cons (vg_name 3 S_is_lock.nd) (vgs_cons (vg_name 4 S_is_lock.nd) (vgs_nil)))))))
    (vss_cons (vs_if (PW.pt (vw_or (vt_not (vt_val (v_callU (c_is_within T) (hr.mono (by decide)) (takes_of rfl rfl rfl rfl) rfl (va_cons (v_var 1) (va_cons (v_int) (va_cons (v_globIU T.i_MOST_FREE rfl) (va_nil))))))) (vw_or1 (vt_not (vt_val (v_callU (c_is_within T) (hr.mono (by decide)) (takes_of rfl rfl rfl rfl) rfl (va_cons (v_var 2) (va_cons (v_int) (va_cons (v_globIU T.i_MOST_FIRST rfl) (va_nil)))))))))) (vss_one (vs_ret (v_bl))) (vss_nil))
    (vss_one (vs_ret (v_and (v_callU (c_is_within T) (hr.mono (by decide)) (takes_of rfl rfl rfl rfl) rfl (va_cons (v_var 3) (va_cons (v_op rb_add op_addA (v_var 1) (v_int)) (va_cons (v_globIU T.i_MOST_WRONG rfl) (va_nil))))) (v_one (v_callU (c_is_within T) (hr.mono (by decide)) (takes_of rfl rfl rfl rfl) rfl (va_cons (v_var 4) (va_cons (v_var 2) (va_cons (v_globIU T.i_LONGEST rfl) (va_nil))))))))))))
  exact ⟨f, fd, _, h1, kp, b, g⟩
/-! ### is_bucket -/
theorem S_is_bucket : FnScope ["value"] ["value"] (defScope st_is_bucket) := ⟨rfl, rfl, rfl, by decide +kernel, rfl, by decide +kernel, by decide +kernel⟩
def m_is_bucket : FS := sSeq (sIf (tOr1 (tNot1 (tE (eF fIs (aC (eV 0) (aC (eC (.ty "tuple")) (aN)))))) (tC1 (eB gNe (eF fLen (aC (eV 0) (aN))) (eC (.int 2))))) (sRet (eC (.bl false))) (sNx))
    (sRet (eAnd (eCall 3 F_is_within (aC (eB gIx (eV 0) (eC (.int 0))) (aC (eC (.int 1)) (aC (eC (.int 1000)) (aN))))) (eCall 3 F_is_within (aC (eB gIx (eV 0) (eC (.int 1))) (aC (eC (.int 1)) (aC (eC (.int 100000)) (aN)))))))
@[irreducible] def F_is_bucket : List D → R D := runA 1 false m_is_bucket
theorem c_is_bucket (T : Tx K mg) : CallA P w K mg base 3 "is_bucket" 1 false F_is_bucket := by
  unfold F_is_bucket
  obtain ⟨f, fd, F, g, kp, b⟩ := T.d_is_bucket
  have h1 : FnOk P w K mg base (L2.CX P w) (2 + 1) f fd ["value"] (spA K mg 1 false (runA 1 false m_is_bucket)) := ok_A (n := 1) (N := ["value"]) (k := 2) (g := m_is_bucket) false F S_is_bucket rfl (by decide) (fun cdv A outer s H E hr => vss_cons (vs_if (PW.pt (vw_or (vt_not (vt_val (v_blt rc_is call_isi rfl T.b_isinstance (va_cons (v_var 0) (va_cons (v_ty rfl T.b_tuple) (va_nil)))))) (vw_or1 (vt_cmp rb_ne (op_neA hr.hu) (nomark _) (v_blt rc_len call_lenA rfl T.b_len (va_cons (v_var 0) (va_nil))) (v_int))))) (vss_one (vs_ret (v_bl))) (vss_nil))
    (vss_one (vs_ret (v_and (v_callU (c_is_within T) (hr.mono (by decide)) (takes_of rfl rfl rfl rfl) rfl (va_cons (v_ix rb_ix ix_seq (v_var 0) (v_int)) (va_cons (v_int) (va_cons (v_globIU T.i_MOST_DROPS rfl) (va_nil))))) (v_one (v_callU (c_is_within T) (hr.mono (by decide)) (takes_of rfl rfl rfl rfl) rfl (va_cons (v_ix rb_ix ix_seq (v_var 0) (v_int)) (va_cons (v_int) (va_cons (v_globIU T.i_MOST_EACH rfl) (va_nil))))))))))
  exact ⟨f, fd, _, h1, kp, b, g⟩
/-! ### check -/
theorem S_check : FnScope ["is_right"] ["is_right"] (defScope st_check) := ⟨rfl, rfl, rfl, by decide +kernel, rfl, by decide +kernel, by decide +kernel⟩
def m_check : FS := sIf (tNot1 (tE (eV 0))) (sRaise "NotRight") (sNx)
@[irreducible] def F_check : List D → R D := runA 1 false m_check
theorem c_check (T : Tx K mg) : CallA P w K mg base 1 "check" 1 false F_check := by
  unfold F_check
  obtain ⟨f, fd, F, g, kp, b⟩ := T.d_check
  have h1 : FnOk P w K mg base (L2.CX P w) (0 + 1) f fd ["is_right"] (spA K mg 1 false (runA 1 false m_check)) := ok_A (n := 1) (N := ["is_right"]) (k := 0) (g := m_check) false F S_check rfl (by decide) (fun cdv A outer s H E hr => vss_one (vs_if (vt_not (vt_val (v_var 0))) (vss_one (vs_raiseU T.e_NotRight rfl (takes_of rfl rfl rfl rfl) rfl)) (vss_nil)))
  exact ⟨f, fd, _, h1, kp, b, g⟩
/-! ### check_lock -/
theorem S_check_lock : FnScope ["lock"] ["lock"] (defScope st_check_lock) := ⟨rfl, rfl, rfl, by decide +kernel, rfl, by decide +kernel, by decide +kernel⟩
def m_check_lock : FS := sExp (eCall 1 F_check (aC (eCall 1 F_is_lock (aC (eV 0) (aN))) (aN)))
@[irreducible] def F_check_lock : List D → R D := runA 1 false m_check_lock
theorem c_check_lock (T : Tx K mg) : CallA P w K mg base 4 "check_lock" 1 false F_check_lock := by
  unfold F_check_lock
  obtain ⟨f, fd, F, g, kp, b⟩ := T.d_check_lock
  have h1 : FnOk P w K mg base (L2.CX P w) (3 + 1) f fd ["lock"] (spA K mg 1 false (runA 1 false m_check_lock)) := ok_A (n := 1) (N := ["lock"]) (k := 3) (g := m_check_lock) false F S_check_lock rfl (by decide) (fun cdv A outer s H E hr => vss_one (vs_expr (v_callU (c_check T) (hr.mono (by decide)) (takes_of rfl rfl rfl rfl) rfl (va_cons (v_callU (c_is_lock T) (hr.mono (by decide)) (takes_of rfl rfl rfl rfl) rfl (va_cons (v_var 0) (va_nil))) (va_nil)))))
  exact ⟨f, fd, _, h1, kp, b, g⟩
/-! ### is_count -/
theorem S_is_count : FnScope ["value"] ["value"] (defScope st_is_count) := ⟨rfl, rfl, rfl, by decide +kernel, rfl, by decide +kernel, by decide +kernel⟩
def m_is_count : FS := sRet (eAnd (eCall 1 F_is_integer (aC (eV 0) (aN))) (eB gGeI (eV 0) (eC (.int 0))))
@[irreducible] def F_is_count : List D → R D := runA 1 false m_is_count
theorem c_is_count (T : Tx K mg) : CallA P w K mg base 2 "is_count" 1 false F_is_count := by
  unfold F_is_count
  obtain ⟨f, fd, F, g, kp, b⟩ := T.d_is_count
  have h1 : FnOk P w K mg base (L2.CX P w) (1 + 1) f fd ["value"] (spA K mg 1 false (runA 1 false m_is_count)) := ok_A (n := 1) (N := ["value"]) (k := 1) (g := m_is_count) false F S_is_count rfl (by decide) (fun cdv A outer s H E hr => vss_one (vs_ret (v_and (v_callU (c_is_integer T) (hr.mono (by decide)) (takes_of rfl rfl rfl rfl) rfl (va_cons (v_var 0) (va_nil))) (v_one (v_cmp rb_geI op_ge (nomark _) (v_var 0) (v_int))))))
  exact ⟨f, fd, _, h1, kp, b, g⟩
/-! ### is_state_by -/
theorem S_is_state_by : FnScope ["lock", "value"] ["lock", "value"] (defScope st_is_state_by) := ⟨rfl, rfl, rfl, by decide +kernel, rfl, by decide +kernel, by decide +kernel⟩
def m_is_state_by : FS := sSeq (sIf (tOr1 (tNot1 (tE (eF fIs (aC (eV 1) (aC (eC (.ty "tuple")) (aN)))))) (tOr1 (tC1 (eB gNe (eF fLen (aC (eV 1) (aN))) (eC (.int 3)))) (tOr1 (tNot1 (tE (eCall 3 F_is_within (aC (eB gIx (eV 1) (eC (.int 0))) (aC (eC (.int 0)) (aC (eB gIx (eV 0) (eC (.int 2))) (aN))))))) (tNot1 (tE (eCall 1 F_is_count (aC (eB gIx (eV 1) (eC (.int 1))) (aN)))))))) (sRet (eC (.bl false))) (sNx))
    (sRet (eAnd (eF fIs (aC (eB gIx (eV 1) (eC (.int 2))) (aC (eC (.ty "bool")) (aN)))) (eB gEq (eB gIx (eV 1) (eC (.int 2))) (eB gEq (eB gIx (eV 1) (eC (.int 0))) (eB gIx (eV 0) (eC (.int 2)))))))
@[irreducible] def F_is_state_by : List D → R D := runA 2 false m_is_state_by
theorem c_is_state_by (T : Tx K mg) : CallA P w K mg base 3 "is_state_by" 2 false F_is_state_by := by
  unfold F_is_state_by
  obtain ⟨f, fd, F, g, kp, b⟩ := T.d_is_state_by
  have h1 : FnOk P w K mg base (L2.CX P w) (2 + 1) f fd ["lock", "value"] (spA K mg 2 false (runA 2 false m_is_state_by)) := ok_A (n := 2) (N := ["lock", "value"]) (k := 2) (g := m_is_state_by) false F S_is_state_by rfl (by decide) (fun cdv A outer s H E hr => vss_cons (vs_if (PW.pt (vw_or (vt_not (vt_val (v_blt rc_is call_isi rfl T.b_isinstance (va_cons (v_var 1) (va_cons (v_ty rfl T.b_tuple) (va_nil)))))) (vw_or (vt_cmp rb_ne (op_neA hr.hu) (nomark _) (v_blt rc_len call_lenA rfl T.b_len (va_cons (v_var 1) (va_nil))) (v_int)) (vw_or (vt_not (vt_val (v_callU (c_is_within T) (hr.mono (by decide)) (takes_of rfl rfl rfl rfl) rfl (va_cons (v_ix rb_ix ix_seq (v_var 1) (v_int)) (va_cons (v_int) (va_cons (v_ix rb_ix ix_seq (v_var 0) (v_int)) (va_nil))))))) (vw_or1 (vt_not (vt_val (v_callU (c_is_count T) (hr.mono (by decide)) (takes_of rfl rfl rfl rfl) rfl (va_cons (v_ix rb_ix ix_seq (v_var 1) (v_int)) (va_nil)))))))))) (vss_one (vs_ret (v_bl))) (vss_nil))
    (vss_one (vs_ret (v_and (v_blt rc_is call_isi rfl T.b_isinstance (va_cons (v_ix rb_ix ix_seq (v_var 1) (v_int)) (va_cons (v_ty rfl T.b_bool) (va_nil)))) (v_one (v_cmp rb_eq (op_eqA hr.hu) (nomark _) (v_ix rb_ix ix_seq (v_var 1) (v_int)) (v_cmp rb_eq (op_eqA hr.hu) (nomark _) (v_ix rb_ix ix_seq (v_var 1) (v_int)) (v_ix rb_ix ix_seq (v_var 0) (v_int)))))))))
  exact ⟨f, fd, _, h1, kp, b, g⟩
/-! ### is_state -/
theorem S_is_state : FnScope ["lock", "value"] ["lock", "value"] (defScope st_is_state) := ⟨rfl, rfl, rfl, by decide +kernel, rfl, by decide +kernel, by decide +kernel⟩
def m_is_state : FS := sSeq (sExp (eCall 1 F_check_lock (aC (eV 0) (aN))))
    (sRet (eCall 2 F_is_state_by (aC (eV 0) (aC (eV 1) (aN)))))
@[irreducible] def F_is_state : List D → R D := runA 2 false m_is_state
theorem c_is_state (T : Tx K mg) : CallA P w K mg base 5 "is_state" 2 false F_is_state := by
  unfold F_is_state
  obtain ⟨f, fd, F, g, kp, b⟩ := T.d_is_state
  have h1 : FnOk P w K mg base (L2.CX P w) (4 + 1) f fd ["lock", "value"] (spA K mg 2 false (runA 2 false m_is_state)) := ok_A (n := 2) (N := ["lock", "value"]) (k := 4) (g := m_is_state) false F S_is_state rfl (by decide) (fun cdv A outer s H E hr => vss_cons (vs_expr (v_callU (c_check_lock T) (hr.mono (by decide)) (takes_of rfl rfl rfl rfl) rfl (va_cons (v_var 0) (va_nil))))
    (vss_one (vs_ret (v_callU (c_is_state_by T) (hr.mono (by decide)) (takes_of rfl rfl rfl rfl) rfl (va_cons (v_var 0) (va_cons (v_var 1) (va_nil)))))))
  exact ⟨f, fd, _, h1, kp, b, g⟩
/-! ### power -/
theorem S_power : FnScope ["number", "times", "found", "_"] ["number", "times"] (defScope st_power) := ⟨rfl, rfl, rfl, by decide +kernel, rfl, by decide +kernel, by decide +kernel⟩
def b_power_0 : FS := sAug 2 gMulI (eV 0)
def m_power : FS := sSeq (sSet 2 (eC (.int 1)))
    (sSeq (sFor (iR1 (aC (eV 1) (aN))) (gN 3) b_power_0)
    (sRet (eV 2)))
@[irreducible] def F_power : List D → R D := runA 4 false m_power
theorem c_power (T : Tx K mg) : CallA P w K mg base 1 "power" 2 false F_power := by
  unfold F_power
  obtain ⟨f, fd, F, g, kp, b⟩ := T.d_power
  have h1 : FnOk P w K mg base (L2.CX P w) (0 + 1) f fd ["number", "times"] (spA K mg 2 false (runA 4 false m_power)) := ok_A (n := 2) (N := ["number", "times", "found", "_"]) (k := 0) (g := m_power) false F S_power rfl (by decide) (fun cdv A outer s H E hr => vss_cons (vs_set 2 S_power.nd (v_int))
    (vss_cons (vs_for (b := b_power_0) (passes_of rfl) rfl (vi_range1 rfl T.b_range (va_cons (v_var 1) (va_nil))) (vg_name 3 S_power.nd) (vss_one (vs_aug 2 rb_mulI ip_mulW S_power.nd (v_var 0))))
    (vss_one (vs_ret (v_var 2)))))
  exact ⟨f, fd, _, h1, kp, b, g⟩
/-! ### wait_by -/
theorem S_wait_by : FnScope ["lock", "wrong", "free", "first", "_", "longest"] ["lock", "wrong"] (defScope st_wait_by) := ⟨rfl, rfl, rfl, by decide +kernel, rfl, by decide +kernel, by decide +kernel⟩
def m_wait_by : FS := sSeq (sAsg (gT 4 (gsC (gN 2) (gsC (gN 3) (gsC (gN 4) (gsC (gN 5) (gsN)))))) (eV 0))
    (sRet (eIf (tC1 (eB gGtI (eV 1) (eV 2))) (eF fMin2 (aC (eB gMul (eV 3) (eCall 2 F_power (aC (eC (.int 2)) (aC (eB gSub (eB gSub (eV 1) (eV 2)) (eC (.int 1))) (aN))))) (aC (eV 5) (aN)))) (eC (.int 0))))
@[irreducible] def F_wait_by : List D → R D := runA 6 false m_wait_by
theorem c_wait_by (T : Tx K mg) : CallA P w K mg base 2 "wait_by" 2 false F_wait_by := by
  unfold F_wait_by
  obtain ⟨f, fd, F, g, kp, b⟩ := T.d_wait_by
  have h1 : FnOk P w K mg base (L2.CX P w) (1 + 1) f fd ["lock", "wrong"] (spA K mg 2 false (runA 6 false m_wait_by)) := ok_A (n := 2) (N := ["lock", "wrong", "free", "first", "_", "longest"]) (k := 1) (g := m_wait_by) false F S_wait_by rfl (by decide) (fun cdv A outer s H E hr => vss_cons (vs_asg (v_var 0) (vg_tup rfl (vgs_cons (vg_name 2 S_wait_by.nd) (vgs_cons (vg_name 3 S_wait_by.nd) (vgs_cons (vg_name 4 S_wait_by.nd) (vgs_cons (vg_name 5 S_wait_by.nd) (vgs_nil)))))))
    (vss_one (vs_ret (v_if (vt_cmp rb_gtI op_gt (nomark _) (v_var 1) (v_var 2)) (v_blt rc_min2 (call_min2 rfl) rfl T.b_min (va_cons (v_op rb_mul op_mulA (v_var 3) (v_callU (c_power T) (hr.mono (by decide)) (takes_of rfl rfl rfl rfl) rfl (va_cons (v_int) (va_cons (v_op rb_sub op_sub (v_op rb_sub op_sub (v_var 1) (v_var 2)) (v_int)) (va_nil))))) (va_cons (v_var 5) (va_nil)))) (v_int)))))
  exact ⟨f, fd, _, h1, kp, b, g⟩
/-! ### wait_of -/
theorem S_wait_of : FnScope ["lock", "wrong"] ["lock", "wrong"] (defScope st_wait_of) := ⟨rfl, rfl, rfl, by decide +kernel, rfl, by decide +kernel, by decide +kernel⟩
def m_wait_of : FS := sSeq (sExp (eCall 1 F_check_lock (aC (eV 0) (aN))))
    (sSeq (sExp (eCall 1 F_check (aC (eCall 3 F_is_within (aC (eV 1) (aC (eC (.int 0)) (aC (eB gSub (eB gIx (eV 0) (eC (.int 2))) (eC (.int 1))) (aN))))) (aN))))
    (sRet (eCall 2 F_wait_by (aC (eV 0) (aC (eV 1) (aN))))))
@[irreducible] def F_wait_of : List D → R D := runA 2 false m_wait_of
theorem c_wait_of (T : Tx K mg) : CallA P w K mg base 5 "wait_of" 2 false F_wait_of := by
  unfold F_wait_of
  obtain ⟨f, fd, F, g, kp, b⟩ := T.d_wait_of
  have h1 : FnOk P w K mg base (L2.CX P w) (4 + 1) f fd ["lock", "wrong"] (spA K mg 2 false (runA 2 false m_wait_of)) := ok_A (n := 2) (N := ["lock", "wrong"]) (k := 4) (g := m_wait_of) false F S_wait_of rfl (by decide) (fun cdv A outer s H E hr => vss_cons (vs_expr (v_callU (c_check_lock T) (hr.mono (by decide)) (takes_of rfl rfl rfl rfl) rfl (va_cons (v_var 0) (va_nil))))
    (vss_cons (vs_expr (v_callU (c_check T) (hr.mono (by decide)) (takes_of rfl rfl rfl rfl) rfl (va_cons (v_callU (c_is_within T) (hr.mono (by decide)) (takes_of rfl rfl rfl rfl) rfl (va_cons (v_var 1) (va_cons (v_int) (va_cons (v_op rb_sub op_sub (v_ix rb_ix ix_seq (v_var 0) (v_int)) (v_int)) (va_nil))))) (va_nil))))
    (vss_one (vs_ret (v_callU (c_wait_by T) (hr.mono (by decide)) (takes_of rfl rfl rfl rfl) rfl (va_cons (v_var 0) (va_cons (v_var 1) (va_nil))))))))
  exact ⟨f, fd, _, h1, kp, b, g⟩
/-! ### tried_by -/
theorem S_tried_by : FnScope ["lock", "state", "second", "is_right", "wrong", "since", "is_shut"] ["lock", "state", "second", "is_right"] (defScope st_tried_by) := ⟨rfl, rfl, rfl, by decide +kernel, rfl, by decide +kernel, by decide +kernel⟩
def m_tried_by : FS := sSeq (sAsg (gT 3 (gsC (gN 4) (gsC (gN 5) (gsC (gN 6) (gsN))))) (eV 1))
    (sSeq (sIf (tOr1 (tE (eV 6)) (tC1 (eB gLt (eV 2) (eB gAdd (eV 5) (eCall 2 F_wait_by (aC (eV 0) (aC (eV 4) (aN)))))))) (sRet (eTup (aC (eC (.bl false)) (aC (eV 1) (aN))))) (sNx))
    (sSeq (sIf (tE (eV 3)) (sRet (eTup (aC (eC (.bl true)) (aC (eTup (aC (eC (.int 0)) (aC (eV 2) (aC (eC (.bl false)) (aN))))) (aN))))) (sNx))
    (sRet (eTup (aC (eC (.bl true)) (aC (eTup (aC (eB gAdd (eV 4) (eC (.int 1))) (aC (eV 2) (aC (eB gEq (eB gAdd (eV 4) (eC (.int 1))) (eB gIx (eV 0) (eC (.int 2)))) (aN))))) (aN)))))))
@[irreducible] def F_tried_by : List D → R D := runA 7 false m_tried_by
theorem c_tried_by (T : Tx K mg) : CallA P w K mg base 3 "tried_by" 4 false F_tried_by := by
  unfold F_tried_by
  obtain ⟨f, fd, F, g, kp, b⟩ := T.d_tried_by
  have h1 : FnOk P w K mg base (L2.CX P w) (2 + 1) f fd ["lock", "state", "second", "is_right"] (spA K mg 4 false (runA 7 false m_tried_by)) := ok_A (n := 4) (N := ["lock", "state", "second", "is_right", "wrong", "since", "is_shut"]) (k := 2) (g := m_tried_by) false F S_tried_by rfl (by decide) (fun cdv A outer s H E hr => vss_cons (vs_asg (v_var 1) (vg_tup rfl (vgs_cons (vg_name 4 S_tried_by.nd) (vgs_cons (vg_name 5 S_tried_by.nd) (vgs_cons (vg_name 6 S_tried_by.nd) (vgs_nil))))))
    (vss_cons (vs_if (PW.pt (vw_or (vt_val (v_var 6)) (vw_or1 (vt_cmp rb_lt op_ltA (nomark _) (v_var 2) (v_op rb_add op_addA (v_var 5) (v_callU (c_wait_by T) (hr.mono (by decide)) (takes_of rfl rfl rfl rfl) rfl (va_cons (v_var 0) (va_cons (v_var 4) (va_nil))))))))) (vss_one (vs_ret (v_tup (va_cons (v_bl) (va_cons (v_var 1) (va_nil)))))) (vss_nil))
    (vss_cons (vs_if (vt_val (v_var 3)) (vss_one (vs_ret (v_tup (va_cons (v_bl) (va_cons (v_tup (va_cons (v_int) (va_cons (v_var 2) (va_cons (v_bl) (va_nil))))) (va_nil)))))) (vss_nil))
    (vss_one (vs_ret (v_tup (va_cons (v_bl) (va_cons (v_tup (va_cons (v_op rb_add op_addA (v_var 4) (v_int)) (va_cons (v_var 2) (va_cons (v_cmp rb_eq (op_eqA hr.hu) (nomark _) (v_op rb_add op_addA (v_var 4) (v_int)) (v_ix rb_ix ix_seq (v_var 0) (v_int))) (va_nil))))) (va_nil)))))))))
  exact ⟨f, fd, _, h1, kp, b, g⟩
/-! ### tried -/
theorem S_tried : FnScope ["lock", "state", "second", "is_right"] ["lock", "state", "second", "is_right"] (defScope st_tried) := ⟨rfl, rfl, rfl, by decide +kernel, rfl, by decide +kernel, by decide +kernel⟩
def m_tried : FS := sSeq (sExp (eCall 1 F_check_lock (aC (eV 0) (aN))))
    (sSeq (sExp (eCall 1 F_check (aC (eCall 2 F_is_state_by (aC (eV 0) (aC (eV 1) (aN)))) (aN))))
    (sSeq (sExp (eCall 1 F_check (aC (eAnd (eCall 1 F_is_count (aC (eV 2) (aN))) (eF fIs (aC (eV 3) (aC (eC (.ty "bool")) (aN))))) (aN))))
    (sRet (eCall 4 F_tried_by (aC (eV 0) (aC (eV 1) (aC (eV 2) (aC (eV 3) (aN)))))))))
@[irreducible] def F_tried : List D → R D := runA 4 false m_tried
theorem c_tried (T : Tx K mg) : CallA P w K mg base 5 "tried" 4 false F_tried := by
  unfold F_tried
  obtain ⟨f, fd, F, g, kp, b⟩ := T.d_tried
  have h1 : FnOk P w K mg base (L2.CX P w) (4 + 1) f fd ["lock", "state", "second", "is_right"] (spA K mg 4 false (runA 4 false m_tried)) := ok_A (n := 4) (N := ["lock", "state", "second", "is_right"]) (k := 4) (g := m_tried) false F S_tried rfl (by decide) (fun cdv A outer s H E hr => vss_cons (vs_expr (v_callU (c_check_lock T) (hr.mono (by decide)) (takes_of rfl rfl rfl rfl) rfl (va_cons (v_var 0) (va_nil))))
    (vss_cons (vs_expr (v_callU (c_check T) (hr.mono (by decide)) (takes_of rfl rfl rfl rfl) rfl (va_cons (v_callU (c_is_state_by T) (hr.mono (by decide)) (takes_of rfl rfl rfl rfl) rfl (va_cons (v_var 0) (va_cons (v_var 1) (va_nil)))) (va_nil))))
    (vss_cons (vs_expr (v_callU (c_check T) (hr.mono (by decide)) (takes_of rfl rfl rfl rfl) rfl (va_cons (v_and (v_callU (c_is_count T) (hr.mono (by decide)) (takes_of rfl rfl rfl rfl) rfl (va_cons (v_var 2) (va_nil))) (v_one (v_blt rc_is call_isi rfl T.b_isinstance (va_cons (v_var 3) (va_cons (v_ty rfl T.b_bool) (va_nil)))))) (va_nil))))
    (vss_one (vs_ret (v_callU (c_tried_by T) (hr.mono (by decide)) (takes_of rfl rfl rfl rfl) rfl (va_cons (v_var 0) (va_cons (v_var 1) (va_cons (v_var 2) (va_cons (v_var 3) (va_nil)))))))))))
  exact ⟨f, fd, _, h1, kp, b, g⟩
/-! ### is_sorted -/
theorem S_is_sorted : FnScope ["values", "one", "other"] ["values"] (defScope st_is_sorted) := ⟨rfl, rfl, rfl, by decide +kernel, rfl, by decide +kernel, by decide +kernel⟩
def f_is_sorted_0 : FE := eB gLe (eV 1) (eV 2)
def m_is_sorted : FS := sRet (eF fAll (aC (eL (nLc (iZ (aC (eV 0) (aC (eSl gSl (eV 0) (oS (eC (.int 1))) (oN)) (aN)))) [1, 2] (gT 2 (gsC (gN 1) (gsC (gN 2) (gsN)))) (tYes1) (f_is_sorted_0))) (aN)))
@[irreducible] def F_is_sorted : List D → R D := runA 3 false m_is_sorted
theorem c_is_sorted (T : Tx K mg) : CallA P w K mg base 1 "is_sorted" 1 false F_is_sorted := by
  unfold F_is_sorted
  obtain ⟨f, fd, F, g, kp, b⟩ := T.d_is_sorted
  have h1 : FnOk P w K mg base (L2.CX P w) (0 + 1) f fd ["values"] (spA K mg 1 false (runA 3 false m_is_sorted)) := ok_A (n := 1) (N := ["values", "one", "other"]) (k := 0) (g := m_is_sorted) false F S_is_sorted rfl (by decide) (fun cdv A outer s H E hr => vss_one (vs_ret (v_blt rc_all (cr_all rfl) rfl T.b_all (va_cons (v_ofN (n_lc (own := [("one", 1), ("other", 2)]) (c := tYes1) (f := f_is_sorted_0) rfl S_is_sorted.nd (vi_zip rfl T.b_zip (va_cons (v_var 0) (va_cons (v_slice rsl_all sl_all (v_var 0) (vo_some (v_int)) (vo_none)) (va_nil)))) rfl (fun _ _ _ _ _ => vg_tup rfl (vgs_cons (vg_name 1 S_is_sorted.nd) (vgs_cons (vg_name 2 S_is_sorted.nd) (vgs_nil)))) (fun _ _ _ _ _ => vts_nil) (fun _ _ _ _ _ => v_cmp rb_le op_leA (nomark _) (v_var 1) (v_var 2)))) (va_nil)))))
  exact ⟨f, fd, _, h1, kp, b, g⟩
/-! ### is_try -/
theorem S_is_try : FnScope ["value"] ["value"] (defScope st_is_try) := ⟨rfl, rfl, rfl, by decide +kernel, rfl, by decide +kernel, by decide +kernel⟩
def m_is_try : FS := sRet (eAnd (eF fIs (aC (eV 0) (aC (eC (.ty "tuple")) (aN)))) (eAnd (eB gEq (eF fLen (aC (eV 0) (aN))) (eC (.int 2))) (eAnd (eCall 1 F_is_count (aC (eB gIx (eV 0) (eC (.int 0))) (aN))) (eF fIs (aC (eB gIx (eV 0) (eC (.int 1))) (aC (eC (.ty "bool")) (aN)))))))
@[irreducible] def F_is_try : List D → R D := runA 1 false m_is_try
theorem c_is_try (T : Tx K mg) : CallA P w K mg base 3 "is_try" 1 false F_is_try := by
  unfold F_is_try
  obtain ⟨f, fd, F, g, kp, b⟩ := T.d_is_try
  have h1 : FnOk P w K mg base (L2.CX P w) (2 + 1) f fd ["value"] (spA K mg 1 false (runA 1 false m_is_try)) := ok_A (n := 1) (N := ["value"]) (k := 2) (g := m_is_try) false F S_is_try rfl (by decide) (fun cdv A outer s H E hr => vss_one (vs_ret (v_and (v_blt rc_is call_isi rfl T.b_isinstance (va_cons (v_var 0) (va_cons (v_ty rfl T.b_tuple) (va_nil)))) (v_and (v_cmp rb_eq (op_eqA hr.hu) (nomark _) (v_blt rc_len call_lenA rfl T.b_len (va_cons (v_var 0) (va_nil))) (v_int)) (v_and (v_callU (c_is_count T) (hr.mono (by decide)) (takes_of rfl rfl rfl rfl) rfl (va_cons (v_ix rb_ix ix_seq (v_var 0) (v_int)) (va_nil))) (v_one (v_blt rc_is call_isi rfl T.b_isinstance (va_cons (v_ix rb_ix ix_seq (v_var 0) (v_int)) (va_cons (v_ty rfl T.b_bool) (va_nil))))))))))
  exact ⟨f, fd, _, h1, kp, b, g⟩
/-! ### heard -/
theorem S_heard : FnScope ["lock", "tries", "found", "state", "second", "is_right", "is_heard", "one"] ["lock", "tries"] (defScope st_heard) := ⟨rfl, rfl, rfl, by decide +kernel, rfl, by decide +kernel, by decide +kernel⟩
def f_heard_0 : FE := eCall 1 F_is_try (aC (eV 7) (aN))
def f_heard_1 : FE := eB gIx (eV 7) (eC (.int 0))
def b_heard_0 : FS := sSeq (sAsg (gT 2 (gsC (gN 6) (gsC (gN 3) (gsN)))) (eCall 4 F_tried_by (aC (eV 0) (aC (eV 3) (aC (eV 4) (aC (eV 5) (aN)))))))
    (sApp 2 (eV 6))
def m_heard : FS := sSeq (sExp (eCall 1 F_check_lock (aC (eV 0) (aN))))
    (sSeq (sExp (eCall 1 F_check (aC (eAnd (eF fIs (aC (eV 1) (aC (eC (.ty "list")) (aN)))) (eAnd (eF fAll (aC (eL (nLc (iL (eV 1)) [7] (gN 7) (tYes1) (f_heard_0))) (aN))) (eCall 1 F_is_sorted (aC (eL (nLc (iL (eV 1)) [7] (gN 7) (tYes1) (f_heard_1))) (aN))))) (aN))))
    (sSeq (sPar [2, 3] (bL (nLst (aN)) (bV (eTup (aC (eC (.int 0)) (aC (eC (.int 0)) (aC (eC (.bl false)) (aN))))) (bN))))
    (sSeq (sFor (iL (eV 1)) (gT 2 (gsC (gN 4) (gsC (gN 5) (gsN)))) b_heard_0)
    (sRet (eTup (aC (eV 2) (aC (eV 3) (aN))))))))
@[irreducible] def F_heard : List D → R D := runA 8 false m_heard
theorem c_heard (T : Tx K mg) : CallA P w K mg base 5 "heard" 2 false F_heard := by
  unfold F_heard
  obtain ⟨f, fd, F, g, kp, b⟩ := T.d_heard
  have h1 : FnOk P w K mg base (L2.CX P w) (4 + 1) f fd ["lock", "tries"] (spA K mg 2 false (runA 8 false m_heard)) := ok_A (n := 2) (N := ["lock", "tries", "found", "state", "second", "is_right", "is_heard", "one"]) (k := 4) (g := m_heard) false F S_heard rfl (by decide) (fun cdv A outer s H E hr => vss_cons (vs_expr (v_callU (c_check_lock T) (hr.mono (by decide)) (takes_of rfl rfl rfl rfl) rfl (va_cons (v_var 0) (va_nil))))
    (vss_cons (vs_expr (v_callU (c_check T) (hr.mono (by decide)) (takes_of rfl rfl rfl rfl) rfl (va_cons (v_and (v_blt rc_is call_isi rfl T.b_isinstance (va_cons (v_var 1) (va_cons (v_ty rfl T.b_list) (va_nil)))) (v_and (v_blt rc_all (cr_all rfl) rfl T.b_all (va_cons (v_ofN (n_lc (own := [("one", 7)]) (c := tYes1) (f := f_heard_0) rfl S_heard.nd (vi_list (v_var 1)) rfl (fun _ _ _ _ _ => vg_name 7 S_heard.nd) (fun _ _ _ _ _ => vts_nil) (fun _ _ _ _ _ => v_callU (c_is_try T) (hr.mono (by decide)) takes0 rfl (va_cons (v_var 7) (va_nil))))) (va_nil))) (v_one (v_callU (c_is_sorted T) (hr.mono (by decide)) (takes_of rfl rfl rfl rfl) rfl (va_cons (v_ofN (n_lc (own := [("one", 7)]) (c := tYes1) (f := f_heard_1) rfl S_heard.nd (vi_list (v_var 1)) rfl (fun _ _ _ _ _ => vg_name 7 S_heard.nd) (fun _ _ _ _ _ => vts_nil) (fun _ _ _ _ _ => v_ix rb_ix ix_seq (v_var 7) (v_int)))) (va_nil)))))) (va_nil))))
    (vss_cons (vs_par 2 3 rfl S_heard.nd (vb_l (n_lst (va_nil)) (vb_v (v_tup (va_cons (v_int) (va_cons (v_int) (va_cons (v_bl) (va_nil))))) (vb_nil))))
    (vss_cons (vs_for (b := b_heard_0) (passes_of rfl) rfl (vi_list (v_var 1)) (vg_tup rfl (vgs_cons (vg_name 4 S_heard.nd) (vgs_cons (vg_name 5 S_heard.nd) (vgs_nil)))) (vss_cons (vs_asg (v_callU (c_tried_by T) (hr.mono (by decide)) (takes_of rfl rfl rfl rfl) rfl (va_cons (v_var 0) (va_cons (v_var 3) (va_cons (v_var 4) (va_cons (v_var 5) (va_nil)))))) (vg_tup rfl (vgs_cons (vg_name 6 S_heard.nd) (vgs_cons (vg_name 3 S_heard.nd) (vgs_nil)))))
    (vss_one (vs_append 2 (v_var 6)))))
    (vss_one (vs_ret (v_tup (va_cons (v_var 2) (va_cons (v_var 3) (va_nil))))))))))
  exact ⟨f, fd, _, h1, kp, b, g⟩
/-! ### times_by -/
theorem S_times_by : FnScope ["lock", "found", "t", "wrong"] ["lock"] (defScope st_times_by) := ⟨rfl, rfl, rfl, by decide +kernel, rfl, by decide +kernel, by decide +kernel⟩
def b_times_by_0 : FS := sSeq (sAug 2 gAddI (eCall 2 F_wait_by (aC (eV 0) (aC (eV 3) (aN)))))
    (sApp 1 (eV 2))
def m_times_by : FS := sSeq (sNew 1 (nLst (aN)))
    (sSeq (sSet 2 (eC (.int 0)))
    (sSeq (sFor (iR1 (aC (eB gIx (eV 0) (eC (.int 2))) (aN))) (gN 3) b_times_by_0)
    (sRet (eV 1))))
@[irreducible] def F_times_by : List D → R D := runA 4 false m_times_by
theorem c_times_by (T : Tx K mg) : CallA P w K mg base 3 "times_by" 1 false F_times_by := by
  unfold F_times_by
  obtain ⟨f, fd, F, g, kp, b⟩ := T.d_times_by
  have h1 : FnOk P w K mg base (L2.CX P w) (2 + 1) f fd ["lock"] (spA K mg 1 false (runA 4 false m_times_by)) := ok_A (n := 1) (N := ["lock", "found", "t", "wrong"]) (k := 2) (g := m_times_by) false F S_times_by rfl (by decide) (fun cdv A outer s H E hr => vss_cons (vs_new 1 S_times_by.nd (n_lst (va_nil)))
    (vss_cons (vs_set 2 S_times_by.nd (v_int))
    (vss_cons (vs_for (b := b_times_by_0) (passes_of rfl) rfl (vi_range1 rfl T.b_range (va_cons (v_ix rb_ix ix_seq (v_var 0) (v_int)) (va_nil))) (vg_name 3 S_times_by.nd) (vss_cons (vs_aug 2 rb_ipadd ip_add S_times_by.nd (v_callU (c_wait_by T) (hr.mono (by decide)) (takes_of rfl rfl rfl rfl) rfl (va_cons (v_var 0) (va_cons (v_var 3) (va_nil)))))
    (vss_one (vs_append 1 (v_var 2)))))
    (vss_one (vs_ret (v_var 1))))))
  exact ⟨f, fd, _, h1, kp, b, g⟩
/-! ### most_tries -/
theorem S_most_tries : FnScope ["lock", "second", "t"] ["lock", "second"] (defScope st_most_tries) := ⟨rfl, rfl, rfl, by decide +kernel, rfl, by decide +kernel, by decide +kernel⟩
def t_most_tries_0 : FT := tC1 (eB gLe (eV 2) (eV 1))
def f_most_tries_1 : FE := eC (.int 1)
def m_most_tries : FS := sSeq (sExp (eCall 1 F_check_lock (aC (eV 0) (aN))))
    (sSeq (sExp (eCall 1 F_check (aC (eCall 1 F_is_count (aC (eV 1) (aN))) (aN))))
    (sRet (eF fLen (aC (eL (nLc (iL (eCall 1 F_times_by (aC (eV 0) (aN)))) [2] (gN 2) (t_most_tries_0) (f_most_tries_1))) (aN)))))
@[irreducible] def F_most_tries : List D → R D := runA 3 false m_most_tries
theorem c_most_tries (T : Tx K mg) : CallA P w K mg base 5 "most_tries" 2 false F_most_tries := by
  unfold F_most_tries
  obtain ⟨f, fd, F, g, kp, b⟩ := T.d_most_tries
  have h1 : FnOk P w K mg base (L2.CX P w) (4 + 1) f fd ["lock", "second"] (spA K mg 2 false (runA 3 false m_most_tries)) := ok_A (n := 2) (N := ["lock", "second", "t"]) (k := 4) (g := m_most_tries) false F S_most_tries rfl (by decide) (fun cdv A outer s H E hr => vss_cons (vs_expr (v_callU (c_check_lock T) (hr.mono (by decide)) (takes_of rfl rfl rfl rfl) rfl (va_cons (v_var 0) (va_nil))))
    (vss_cons (vs_expr (v_callU (c_check T) (hr.mono (by decide)) (takes_of rfl rfl rfl rfl) rfl (va_cons (v_callU (c_is_count T) (hr.mono (by decide)) (takes_of rfl rfl rfl rfl) rfl (va_cons (v_var 1) (va_nil))) (va_nil))))
    (vss_one (vs_ret (v_blt rc_len call_lenA rfl T.b_len (va_cons (v_ofN (n_lc (own := [("t", 2)]) (c := t_most_tries_0) (f := f_most_tries_1) rfl S_most_tries.nd (vi_list (v_callU (c_times_by T) (hr.mono (by decide)) (takes_of rfl rfl rfl rfl) rfl (va_cons (v_var 0) (va_nil)))) rfl (fun _ _ _ _ _ => vg_name 2 S_most_tries.nd) (fun _ _ _ _ _ => vts_one (vt_cmp rb_le op_leA (nomark _) (v_var 2) (v_var 1))) (fun _ _ _ _ _ => v_int))) (va_nil)))))))
  exact ⟨f, fd, _, h1, kp, b, g⟩
/-! ### time_for -/
theorem S_time_for : FnScope ["lock", "count"] ["lock", "count"] (defScope st_time_for) := ⟨rfl, rfl, rfl, by decide +kernel, rfl, by decide +kernel, by decide +kernel⟩
def m_time_for : FS := sSeq (sExp (eCall 1 F_check_lock (aC (eV 0) (aN))))
    (sSeq (sExp (eCall 1 F_check (aC (eCall 1 F_is_count (aC (eV 1) (aN))) (aN))))
    (sSeq (sIf (tC1 (eB gGtI (eV 1) (eB gIx (eV 0) (eC (.int 2))))) (sRet (eC .non)) (sNx))
    (sRet (eIf (tC1 (eB gGtI (eV 1) (eC (.int 0)))) (eB gIx (eCall 1 F_times_by (aC (eV 0) (aN))) (eB gSub (eV 1) (eC (.int 1)))) (eC (.int 0))))))
@[irreducible] def F_time_for : List D → R D := runA 2 false m_time_for
theorem c_time_for (T : Tx K mg) : CallA P w K mg base 5 "time_for" 2 false F_time_for := by
  unfold F_time_for
  obtain ⟨f, fd, F, g, kp, b⟩ := T.d_time_for
  have h1 : FnOk P w K mg base (L2.CX P w) (4 + 1) f fd ["lock", "count"] (spA K mg 2 false (runA 2 false m_time_for)) := ok_A (n := 2) (N := ["lock", "count"]) (k := 4) (g := m_time_for) false F S_time_for rfl (by decide) (fun cdv A outer s H E hr => vss_cons (vs_expr (v_callU (c_check_lock T) (hr.mono (by decide)) (takes_of rfl rfl rfl rfl) rfl (va_cons (v_var 0) (va_nil))))
    (vss_cons (vs_expr (v_callU (c_check T) (hr.mono (by decide)) (takes_of rfl rfl rfl rfl) rfl (va_cons (v_callU (c_is_count T) (hr.mono (by decide)) (takes_of rfl rfl rfl rfl) rfl (va_cons (v_var 1) (va_nil))) (va_nil))))
    (vss_cons (vs_if (vt_cmp rb_gtI op_gt (nomark _) (v_var 1) (v_ix rb_ix ix_seq (v_var 0) (v_int))) (vss_one (vs_ret (v_non))) (vss_nil))
    (vss_one (vs_ret (v_if (vt_cmp rb_gtI op_gt (nomark _) (v_var 1) (v_int)) (v_ix rb_ix ix_seq (v_callU (c_times_by T) (hr.mono (by decide)) (takes_of rfl rfl rfl rfl) rfl (va_cons (v_var 0) (va_nil))) (v_op rb_sub op_sub (v_var 1) (v_int))) (v_int)))))))
  exact ⟨f, fd, _, h1, kp, b, g⟩
/-! ### check_bucket -/
theorem S_check_bucket : FnScope ["bucket"] ["bucket"] (defScope st_check_bucket) := ⟨rfl, rfl, rfl, by decide +kernel, rfl, by decide +kernel, by decide +kernel⟩
def m_check_bucket : FS := sExp (eCall 1 F_check (aC (eCall 1 F_is_bucket (aC (eV 0) (aN))) (aN)))
@[irreducible] def F_check_bucket : List D → R D := runA 1 false m_check_bucket
theorem c_check_bucket (T : Tx K mg) : CallA P w K mg base 4 "check_bucket" 1 false F_check_bucket := by
  unfold F_check_bucket
  obtain ⟨f, fd, F, g, kp, b⟩ := T.d_check_bucket
  have h1 : FnOk P w K mg base (L2.CX P w) (3 + 1) f fd ["bucket"] (spA K mg 1 false (runA 1 false m_check_bucket)) := ok_A (n := 1) (N := ["bucket"]) (k := 3) (g := m_check_bucket) false F S_check_bucket rfl (by decide) (fun cdv A outer s H E hr => vss_one (vs_expr (v_callU (c_check T) (hr.mono (by decide)) (takes_of rfl rfl rfl rfl) rfl (va_cons (v_callU (c_is_bucket T) (hr.mono (by decide)) (takes_of rfl rfl rfl rfl) rfl (va_cons (v_var 0) (va_nil))) (va_nil)))))
  exact ⟨f, fd, _, h1, kp, b, g⟩
/-! ### gone_through -/
theorem S_gone_through : FnScope ["bucket", "tries", "t", "holds", "each", "found", "drops", "last"] ["bucket", "tries"] (defScope st_gone_through) := ⟨rfl, rfl, rfl, by decide +kernel, rfl, by decide +kernel, by decide +kernel⟩
def b_gone_through_0 : FS := sSeq (sSet 6 (eF fMin2 (aC (eV 3) (aC (eB gSub (eB gAdd (eV 6) (eB gDivX (eV 2) (eV 4))) (eB gDivX (eV 7) (eV 4))) (aN)))))
    (sSeq (sApp 5 (eB gGtI (eV 6) (eC (.int 0))))
    (sPar [6, 7] (bV (eF fMax2 (aC (eC (.int 0)) (aC (eB gSub (eV 6) (eC (.int 1))) (aN)))) (bV (eV 2) (bN)))))
def m_gone_through : FS := sSeq (sAsg (gT 2 (gsC (gN 3) (gsC (gN 4) (gsN)))) (eV 0))
    (sSeq (sPar [5, 6, 7] (bL (nLst (aN)) (bV (eV 3) (bV (eC (.int 0)) (bN)))))
    (sSeq (sFor (iL (eV 1)) (gN 2) b_gone_through_0)
    (sRet (eTup (aC (eV 5) (aC (eV 6) (aC (eV 7) (aN))))))))
@[irreducible] def F_gone_through : List D → R D := runA 8 false m_gone_through
theorem c_gone_through (T : Tx K mg) : CallA P w K mg base 1 "gone_through" 2 false F_gone_through := by
  unfold F_gone_through
  obtain ⟨f, fd, F, g, kp, b⟩ := T.d_gone_through
  have h1 : FnOk P w K mg base (L2.CX P w) (0 + 1) f fd ["bucket", "tries"] (spA K mg 2 false (runA 8 false m_gone_through)) := ok_A (n := 2) (N := ["bucket", "tries", "t", "holds", "each", "found", "drops", "last"]) (k := 0) (g := m_gone_through) false F S_gone_through rfl (by decide) (fun cdv A outer s H E hr => vss_cons (vs_asg (v_var 0) (vg_tup rfl (vgs_cons (vg_name 3 S_gone_through.nd) (vgs_cons (vg_name 4 S_gone_through.nd) (vgs_nil)))))
    (vss_cons (vs_par3 5 6 7 rfl S_gone_through.nd (vb_l (n_lst (va_nil)) (vb_v (v_var 3) (vb_v (v_int) (vb_nil)))))
    (vss_cons (vs_for (b := b_gone_through_0) (passes_of rfl) rfl (vi_list (v_var 1)) (vg_name 2 S_gone_through.nd) (vss_cons (vs_set 6 S_gone_through.nd (v_blt rc_min2 (call_min2 rfl) rfl T.b_min (va_cons (v_var 3) (va_cons (v_op rb_sub op_sub (v_op rb_add op_addA (v_var 6) (v_op rb_divX op_fdivX (v_var 2) (v_var 4))) (v_op rb_divX op_fdivX (v_var 7) (v_var 4))) (va_nil)))))
    (vss_cons (vs_append 5 (v_cmp rb_gtI op_gt (nomark _) (v_var 6) (v_int)))
    (vss_one (vs_par 6 7 rfl S_gone_through.nd (vb_v (v_blt rc_max2 (call_max2 rfl) rfl T.b_max (va_cons (v_int) (va_cons (v_op rb_sub op_sub (v_var 6) (v_int)) (va_nil)))) (vb_v (v_var 2) (vb_nil))))))))
    (vss_one (vs_ret (v_tup (va_cons (v_var 5) (va_cons (v_var 6) (va_cons (v_var 7) (va_nil))))))))))
  exact ⟨f, fd, _, h1, kp, b, g⟩
/-! ### check_tries -/
theorem S_check_tries : FnScope ["tries", "t"] ["tries"] (defScope st_check_tries) := ⟨rfl, rfl, rfl, by decide +kernel, rfl, by decide +kernel, by decide +kernel⟩
def f_check_tries_0 : FE := eCall 1 F_is_count (aC (eV 1) (aN))
def m_check_tries : FS := sExp (eCall 1 F_check (aC (eAnd (eF fIs (aC (eV 0) (aC (eC (.ty "list")) (aN)))) (eAnd (eF fAll (aC (eL (nLc (iL (eV 0)) [1] (gN 1) (tYes1) (f_check_tries_0))) (aN))) (eCall 1 F_is_sorted (aC (eV 0) (aN))))) (aN)))
@[irreducible] def F_check_tries : List D → R D := runA 2 false m_check_tries
theorem c_check_tries (T : Tx K mg) : CallA P w K mg base 3 "check_tries" 1 false F_check_tries := by
  unfold F_check_tries
  obtain ⟨f, fd, F, g, kp, b⟩ := T.d_check_tries
  have h1 : FnOk P w K mg base (L2.CX P w) (2 + 1) f fd ["tries"] (spA K mg 1 false (runA 2 false m_check_tries)) := ok_A (n := 1) (N := ["tries", "t"]) (k := 2) (g := m_check_tries) false F S_check_tries rfl (by decide) (fun cdv A outer s H E hr => vss_one (vs_expr (v_callU (c_check T) (hr.mono (by decide)) (takes_of rfl rfl rfl rfl) rfl (va_cons (v_and (v_blt rc_is call_isi rfl T.b_isinstance (va_cons (v_var 0) (va_cons (v_ty rfl T.b_list) (va_nil)))) (v_and (v_blt rc_all (cr_all rfl) rfl T.b_all (va_cons (v_ofN (n_lc (own := [("t", 1)]) (c := tYes1) (f := f_check_tries_0) rfl S_check_tries.nd (vi_list (v_var 0)) rfl (fun _ _ _ _ _ => vg_name 1 S_check_tries.nd) (fun _ _ _ _ _ => vts_nil) (fun _ _ _ _ _ => v_callU (c_is_count T) (hr.mono (by decide)) takes0 rfl (va_cons (v_var 1) (va_nil))))) (va_nil))) (v_one (v_callU (c_is_sorted T) (hr.mono (by decide)) (takes_of rfl rfl rfl rfl) rfl (va_cons (v_var 0) (va_nil)))))) (va_nil)))))
  exact ⟨f, fd, _, h1, kp, b, g⟩
/-! ### drops_at -/
theorem S_drops_at : FnScope ["bucket", "tries", "second", "_", "drops", "last", "t"] ["bucket", "tries", "second"] (defScope st_drops_at) := ⟨rfl, rfl, rfl, by decide +kernel, rfl, by decide +kernel, by decide +kernel⟩
def f_drops_at_0 : FE := eB gLe (eV 6) (eV 2)
def m_drops_at : FS := sSeq (sExp (eCall 1 F_check_bucket (aC (eV 0) (aN))))
    (sSeq (sExp (eCall 1 F_check_tries (aC (eV 1) (aN))))
    (sSeq (sExp (eCall 1 F_check (aC (eAnd (eCall 1 F_is_count (aC (eV 2) (aN))) (eF fAll (aC (eL (nLc (iL (eV 1)) [6] (gN 6) (tYes1) (f_drops_at_0))) (aN)))) (aN))))
    (sSeq (sAsg (gT 3 (gsC (gN 3) (gsC (gN 4) (gsC (gN 5) (gsN))))) (eCall 2 F_gone_through (aC (eV 0) (aC (eV 1) (aN)))))
    (sRet (eF fMin2 (aC (eB gIx (eV 0) (eC (.int 0))) (aC (eB gSub (eB gAdd (eV 4) (eB gDivX (eV 2) (eB gIx (eV 0) (eC (.int 1))))) (eB gDivX (eV 5) (eB gIx (eV 0) (eC (.int 1))))) (aN))))))))
@[irreducible] def F_drops_at : List D → R D := runA 7 false m_drops_at
theorem c_drops_at (T : Tx K mg) : CallA P w K mg base 5 "drops_at" 3 false F_drops_at := by
  unfold F_drops_at
  obtain ⟨f, fd, F, g, kp, b⟩ := T.d_drops_at
  have h1 : FnOk P w K mg base (L2.CX P w) (4 + 1) f fd ["bucket", "tries", "second"] (spA K mg 3 false (runA 7 false m_drops_at)) := ok_A (n := 3) (N := ["bucket", "tries", "second", "_", "drops", "last", "t"]) (k := 4) (g := m_drops_at) false F S_drops_at rfl (by decide) (fun cdv A outer s H E hr => vss_cons (vs_expr (v_callU (c_check_bucket T) (hr.mono (by decide)) (takes_of rfl rfl rfl rfl) rfl (va_cons (v_var 0) (va_nil))))
    (vss_cons (vs_expr (v_callU (c_check_tries T) (hr.mono (by decide)) (takes_of rfl rfl rfl rfl) rfl (va_cons (v_var 1) (va_nil))))
    (vss_cons (vs_expr (v_callU (c_check T) (hr.mono (by decide)) (takes_of rfl rfl rfl rfl) rfl (va_cons (v_and (v_callU (c_is_count T) (hr.mono (by decide)) (takes_of rfl rfl rfl rfl) rfl (va_cons (v_var 2) (va_nil))) (v_one (v_blt rc_all (cr_all rfl) rfl T.b_all (va_cons (v_ofN (n_lc (own := [("t", 6)]) (c := tYes1) (f := f_drops_at_0) rfl S_drops_at.nd (vi_list (v_var 1)) rfl (fun _ _ _ _ _ => vg_name 6 S_drops_at.nd) (fun _ _ _ _ _ => vts_nil) (fun _ _ _ _ _ => v_cmp rb_le op_leA (nomark _) (v_var 6) (v_var 2)))) (va_nil))))) (va_nil))))
    (vss_cons (vs_asg (v_callU (c_gone_through T) (hr.mono (by decide)) (takes_of rfl rfl rfl rfl) rfl (va_cons (v_var 0) (va_cons (v_var 1) (va_nil)))) (vg_tup rfl (vgs_cons (vg_name 3 S_drops_at.nd) (vgs_cons (vg_name 4 S_drops_at.nd) (vgs_cons (vg_name 5 S_drops_at.nd) (vgs_nil))))))
    (vss_one (vs_ret (v_blt rc_min2 (call_min2 rfl) rfl T.b_min (va_cons (v_ix rb_ix ix_seq (v_var 0) (v_int)) (va_cons (v_op rb_sub op_sub (v_op rb_add op_addA (v_var 4) (v_op rb_divX op_fdivX (v_var 2) (v_ix rb_ix ix_seq (v_var 0) (v_int)))) (v_op rb_divX op_fdivX (v_var 5) (v_ix rb_ix ix_seq (v_var 0) (v_int)))) (va_nil))))))))))
  exact ⟨f, fd, _, h1, kp, b, g⟩
/-! ### bucket_heard -/
theorem S_bucket_heard : FnScope ["bucket", "tries"] ["bucket", "tries"] (defScope st_bucket_heard) := ⟨rfl, rfl, rfl, by decide +kernel, rfl, by decide +kernel, by decide +kernel⟩
def m_bucket_heard : FS := sSeq (sExp (eCall 1 F_check_bucket (aC (eV 0) (aN))))
    (sSeq (sExp (eCall 1 F_check_tries (aC (eV 1) (aN))))
    (sRet (eB gIx (eCall 2 F_gone_through (aC (eV 0) (aC (eV 1) (aN)))) (eC (.int 0)))))
@[irreducible] def F_bucket_heard : List D → R D := runA 2 false m_bucket_heard
theorem c_bucket_heard (T : Tx K mg) : CallA P w K mg base 5 "bucket_heard" 2 false F_bucket_heard := by
  unfold F_bucket_heard
  obtain ⟨f, fd, F, g, kp, b⟩ := T.d_bucket_heard
  have h1 : FnOk P w K mg base (L2.CX P w) (4 + 1) f fd ["bucket", "tries"] (spA K mg 2 false (runA 2 false m_bucket_heard)) := ok_A (n := 2) (N := ["bucket", "tries"]) (k := 4) (g := m_bucket_heard) false F S_bucket_heard rfl (by decide) (fun cdv A outer s H E hr => vss_cons (vs_expr (v_callU (c_check_bucket T) (hr.mono (by decide)) (takes_of rfl rfl rfl rfl) rfl (va_cons (v_var 0) (va_nil))))
    (vss_cons (vs_expr (v_callU (c_check_tries T) (hr.mono (by decide)) (takes_of rfl rfl rfl rfl) rfl (va_cons (v_var 1) (va_nil))))
    (vss_one (vs_ret (v_ix rb_ix ix_seq (v_callU (c_gone_through T) (hr.mono (by decide)) (takes_of rfl rfl rfl rfl) rfl (va_cons (v_var 0) (va_cons (v_var 1) (va_nil)))) (v_int))))))
  exact ⟨f, fd, _, h1, kp, b, g⟩
/-! ### most_from -/
theorem S_most_from : FnScope ["bucket", "second"] ["bucket", "second"] (defScope st_most_from) := ⟨rfl, rfl, rfl, by decide +kernel, rfl, by decide +kernel, by decide +kernel⟩
def m_most_from : FS := sSeq (sExp (eCall 1 F_check_bucket (aC (eV 0) (aN))))
    (sSeq (sExp (eCall 1 F_check (aC (eCall 1 F_is_count (aC (eV 1) (aN))) (aN))))
    (sRet (eB gAdd (eB gIx (eV 0) (eC (.int 0))) (eB gDivX (eV 1) (eB gIx (eV 0) (eC (.int 1)))))))
@[irreducible] def F_most_from : List D → R D := runA 2 false m_most_from
theorem c_most_from (T : Tx K mg) : CallA P w K mg base 5 "most_from" 2 false F_most_from := by
  unfold F_most_from
  obtain ⟨f, fd, F, g, kp, b⟩ := T.d_most_from
  have h1 : FnOk P w K mg base (L2.CX P w) (4 + 1) f fd ["bucket", "second"] (spA K mg 2 false (runA 2 false m_most_from)) := ok_A (n := 2) (N := ["bucket", "second"]) (k := 4) (g := m_most_from) false F S_most_from rfl (by decide) (fun cdv A outer s H E hr => vss_cons (vs_expr (v_callU (c_check_bucket T) (hr.mono (by decide)) (takes_of rfl rfl rfl rfl) rfl (va_cons (v_var 0) (va_nil))))
    (vss_cons (vs_expr (v_callU (c_check T) (hr.mono (by decide)) (takes_of rfl rfl rfl rfl) rfl (va_cons (v_callU (c_is_count T) (hr.mono (by decide)) (takes_of rfl rfl rfl rfl) rfl (va_cons (v_var 1) (va_nil))) (va_nil))))
    (vss_one (vs_ret (v_op rb_add op_addA (v_ix rb_ix ix_seq (v_var 0) (v_int)) (v_op rb_divX op_fdivX (v_var 1) (v_ix rb_ix ix_seq (v_var 0) (v_int))))))))
  exact ⟨f, fd, _, h1, kp, b, g⟩
/-! ### _law_told -/
theorem S__law_told : FnScope ["which", "one", "two", "three", "four", "error"] ["which", "one", "two", "three", "four"] (defScope st__law_told) := ⟨rfl, rfl, rfl, by decide +kernel, rfl, by decide +kernel, by decide +kernel⟩
def b__law_told_0 : FS := sSeq (sIf (tC1 (eB gLt (eV 0) (eC (.int 2)))) (sRet (eCallIx 1 [F_is_lock, F_is_bucket] (eV 0) (aC (eV 1) (aN)))) (sNx))
    (sSeq (sIf (tC1 (eB gLt (eV 0) (eC (.int 9)))) (sRet (eCallIx 2 [F_is_state, F_wait_of, F_heard, F_most_tries, F_time_for, F_bucket_heard, F_most_from] (eB gSub (eV 0) (eC (.int 2))) (aC (eV 1) (aC (eV 2) (aN))))) (sNx))
    (sRet (eIf (tC1 (eB gEq (eV 0) (eC (.int 9)))) (eCall 3 F_drops_at (aC (eV 1) (aC (eV 2) (aC (eV 3) (aN))))) (eCall 4 F_tried (aC (eV 1) (aC (eV 2) (aC (eV 3) (aC (eV 4) (aN)))))))))
def m__law_told : FS := sTryP exSub b__law_told_0 "CodeError" 5 (pickI exKit_NotRight "refused" "not right")
@[irreducible] def F__law_told : List D → R D := runA 6 false m__law_told
theorem c__law_told (T : Tx K mg) : CallA P w K mg base 6 "_law_told" 5 false F__law_told := by
  unfold F__law_told
  obtain ⟨f, fd, F, g, kp, b⟩ := T.d__law_told
  have h1 : FnOk P w K mg base (L2.CX P w) (5 + 1) f fd ["which", "one", "two", "three", "four"] (spA K mg 5 false (runA 6 false m__law_told)) := ok_A (n := 5) (N := ["which", "one", "two", "three", "four", "error"]) (k := 5) (g := m__law_told) false F S__law_told rfl (by decide) (fun cdv A outer s H E hr => vss_one (vs_tryI (g := b__law_told_0) (sub_ok T) (kit_NotRight_ok T) rfl T.b_int rfl T.b_isinstance rfl rfl rfl rfl S__law_told.nd rfl rfl (.inl rfl) rfl rfl rfl rfl T.h_CodeError (takes_of rfl rfl rfl rfl) (fun W1 pn xe tk po => vss_cons (vs_if (vt_cmp rb_lt op_ltA (nomark _) (v_var 0) (v_int)) (vss_one (vs_ret (v_callIx (k := 3) (Fns.cons (c_is_lock T) (by decide) rfl rfl rfl (Fns.cons (c_is_bucket T) (by decide) rfl rfl rfl (Fns.nil))) (hr.mono (by decide)) tk (v_var 0) (va_cons (v_var 1) (va_nil)) (by decide)))) (vss_nil))
    (vss_cons (vs_if (vt_cmp rb_lt op_ltA (nomark _) (v_var 0) (v_int)) (vss_one (vs_ret (v_callIx (k := 5) (Fns.cons (c_is_state T) (by decide) rfl rfl rfl (Fns.cons (c_wait_of T) (by decide) rfl rfl rfl (Fns.cons (c_heard T) (by decide) rfl rfl rfl (Fns.cons (c_most_tries T) (by decide) rfl rfl rfl (Fns.cons (c_time_for T) (by decide) rfl rfl rfl (Fns.cons (c_bucket_heard T) (by decide) rfl rfl rfl (Fns.cons (c_most_from T) (by decide) rfl rfl rfl (Fns.nil)))))))) (hr.mono (by decide)) tk (v_op rb_sub op_sub (v_var 0) (v_int)) (va_cons (v_var 1) (va_cons (v_var 2) (va_nil))) (by decide)))) (vss_nil))
    (vss_one (vs_ret (v_if (vt_cmp rb_eq (op_eqA hr.hu) (nomark _) (v_var 0) (v_int)) (v_callU (c_drops_at T) (hr.mono (by decide)) tk rfl (va_cons (v_var 1) (va_cons (v_var 2) (va_cons (v_var 3) (va_nil))))) (v_callU (c_tried T) (hr.mono (by decide)) tk rfl (va_cons (v_var 1) (va_cons (v_var 2) (va_cons (v_var 3) (va_cons (v_var 4) (va_nil)))))))))))))
  exact ⟨f, fd, _, h1, kp, b, g⟩
/-! ### _law_wait -/
theorem S__law_wait : FnScope ["lock", "wrong", "wait", "k", "free", "first", "most", "longest"] ["lock", "wrong"] (defScope st__law_wait) := ⟨rfl, rfl, rfl, by decide +kernel, rfl, by decide +kernel, by decide +kernel⟩
def b__law_wait_0 : FS := sSet 2 (eF fMin2 (aC (eV 7) (aC (eIf (tC1 (eB gEq (eV 3) (eB gAdd (eV 4) (eC (.int 1))))) (eV 5) (eB gMul (eC (.int 2)) (eV 2))) (aN))))
def m__law_wait : FS := sSeq (sAsg (gT 4 (gsC (gN 4) (gsC (gN 5) (gsC (gN 6) (gsC (gN 7) (gsN)))))) (eV 0))
    (sSeq (sSet 2 (eC (.int 0)))
    (sSeq (sFor (iR2 (aC (eB gAdd (eV 4) (eC (.int 1))) (aC (eB gAdd (eV 1) (eC (.int 1))) (aN)))) (gN 3) b__law_wait_0)
    (sRet (eV 2))))
@[irreducible] def F__law_wait : List D → R D := runA 8 false m__law_wait
theorem c__law_wait (T : Tx K mg) : CallA P w K mg base 1 "_law_wait" 2 false F__law_wait := by
  unfold F__law_wait
  obtain ⟨f, fd, F, g, kp, b⟩ := T.d__law_wait
  have h1 : FnOk P w K mg base (L2.CX P w) (0 + 1) f fd ["lock", "wrong"] (spA K mg 2 false (runA 8 false m__law_wait)) := ok_A (n := 2) (N := ["lock", "wrong", "wait", "k", "free", "first", "most", "longest"]) (k := 0) (g := m__law_wait) false F S__law_wait rfl (by decide) (fun cdv A outer s H E hr => vss_cons (vs_asg (v_var 0) (vg_tup rfl (vgs_cons (vg_name 4 S__law_wait.nd) (vgs_cons (vg_name 5 S__law_wait.nd) (vgs_cons (vg_name 6 S__law_wait.nd) (vgs_cons (vg_name 7 S__law_wait.nd) (vgs_nil)))))))
    (vss_cons (vs_set 2 S__law_wait.nd (v_int))
    (vss_cons (vs_for (b := b__law_wait_0) (passes_of rfl) rfl (vi_range2 rfl T.b_range (va_cons (v_op rb_add op_addA (v_var 4) (v_int)) (va_cons (v_op rb_add op_addA (v_var 1) (v_int)) (va_nil)))) (vg_name 3 S__law_wait.nd) (vss_one (vs_set 2 S__law_wait.nd (v_blt rc_min2 (call_min2 rfl) rfl T.b_min (va_cons (v_var 7) (va_cons (v_if (vt_cmp rb_eq (op_eqA hr.hu) (nomark _) (v_var 3) (v_op rb_add op_addA (v_var 4) (v_int))) (v_var 5) (v_op rb_mul op_mulA (v_int) (v_var 2))) (va_nil)))))))
    (vss_one (vs_ret (v_var 2))))))
  exact ⟨f, fd, _, h1, kp, b, g⟩
/-! ### _law_try -/
theorem S__law_try : FnScope ["lock", "state", "second", "is_right", "wrong", "since", "shut"] ["lock", "state", "second", "is_right"] (defScope st__law_try) := ⟨rfl, rfl, rfl, by decide +kernel, rfl, by decide +kernel, by decide +kernel⟩
def m__law_try : FS := sSeq (sAsg (gT 3 (gsC (gN 4) (gsC (gN 5) (gsC (gN 6) (gsN))))) (eV 1))
    (sSeq (sIf (tOr1 (tE (eV 6)) (tC1 (eB gLt (eV 2) (eB gAdd (eV 5) (eCall 2 F__law_wait (aC (eV 0) (aC (eV 4) (aN)))))))) (sRet (eTup (aC (eC (.bl false)) (aC (eV 1) (aN))))) (sNx))
    (sSeq (sSet 4 (eIf (tE (eV 3)) (eC (.int 0)) (eB gAdd (eV 4) (eC (.int 1)))))
    (sRet (eTup (aC (eC (.bl true)) (aC (eTup (aC (eV 4) (aC (eV 2) (aC (eB gEq (eV 4) (eB gIx (eV 0) (eC (.int 2)))) (aN))))) (aN)))))))
@[irreducible] def F__law_try : List D → R D := runA 7 false m__law_try
theorem c__law_try (T : Tx K mg) : CallA P w K mg base 2 "_law_try" 4 false F__law_try := by
  unfold F__law_try
  obtain ⟨f, fd, F, g, kp, b⟩ := T.d__law_try
  have h1 : FnOk P w K mg base (L2.CX P w) (1 + 1) f fd ["lock", "state", "second", "is_right"] (spA K mg 4 false (runA 7 false m__law_try)) := ok_A (n := 4) (N := ["lock", "state", "second", "is_right", "wrong", "since", "shut"]) (k := 1) (g := m__law_try) false F S__law_try rfl (by decide) (fun cdv A outer s H E hr => vss_cons (vs_asg (v_var 1) (vg_tup rfl (vgs_cons (vg_name 4 S__law_try.nd) (vgs_cons (vg_name 5 S__law_try.nd) (vgs_cons (vg_name 6 S__law_try.nd) (vgs_nil))))))
    (vss_cons (vs_if (PW.pt (vw_or (vt_val (v_var 6)) (vw_or1 (vt_cmp rb_lt op_ltA (nomark _) (v_var 2) (v_op rb_add op_addA (v_var 5) (v_callU (c__law_wait T) (hr.mono (by decide)) (takes_of rfl rfl rfl rfl) rfl (va_cons (v_var 0) (va_cons (v_var 4) (va_nil))))))))) (vss_one (vs_ret (v_tup (va_cons (v_bl) (va_cons (v_var 1) (va_nil)))))) (vss_nil))
    (vss_cons (vs_set 4 S__law_try.nd (v_if (vt_val (v_var 3)) (v_int) (v_op rb_add op_addA (v_var 4) (v_int))))
    (vss_one (vs_ret (v_tup (va_cons (v_bl) (va_cons (v_tup (va_cons (v_var 4) (va_cons (v_var 2) (va_cons (v_cmp rb_eq (op_eqA hr.hu) (nomark _) (v_var 4) (v_ix rb_ix ix_seq (v_var 0) (v_int))) (va_nil))))) (va_nil)))))))))
  exact ⟨f, fd, _, h1, kp, b, g⟩
/-! ### _law_heard -/
theorem S__law_heard : FnScope ["lock", "tries", "found", "state", "second", "is_right", "told"] ["lock", "tries"] (defScope st__law_heard) := ⟨rfl, rfl, rfl, by decide +kernel, rfl, by decide +kernel, by decide +kernel⟩
def b__law_heard_0 : FS := sSeq (sSet 6 (eCall 4 F__law_try (aC (eV 0) (aC (eV 3) (aC (eV 4) (aC (eV 5) (aN)))))))
    (sSeq (sApp 2 (eB gIx (eV 6) (eC (.int 0))))
    (sSet 3 (eB gIx (eV 6) (eC (.int 1)))))
def m__law_heard : FS := sSeq (sPar [2, 3] (bL (nLst (aN)) (bV (eTup (aC (eC (.int 0)) (aC (eC (.int 0)) (aC (eC (.bl false)) (aN))))) (bN))))
    (sSeq (sFor (iL (eV 1)) (gT 2 (gsC (gN 4) (gsC (gN 5) (gsN)))) b__law_heard_0)
    (sRet (eTup (aC (eV 2) (aC (eV 3) (aN))))))
@[irreducible] def F__law_heard : List D → R D := runA 7 false m__law_heard
theorem c__law_heard (T : Tx K mg) : CallA P w K mg base 3 "_law_heard" 2 false F__law_heard := by
  unfold F__law_heard
  obtain ⟨f, fd, F, g, kp, b⟩ := T.d__law_heard
  have h1 : FnOk P w K mg base (L2.CX P w) (2 + 1) f fd ["lock", "tries"] (spA K mg 2 false (runA 7 false m__law_heard)) := ok_A (n := 2) (N := ["lock", "tries", "found", "state", "second", "is_right", "told"]) (k := 2) (g := m__law_heard) false F S__law_heard rfl (by decide) (fun cdv A outer s H E hr => vss_cons (vs_par 2 3 rfl S__law_heard.nd (vb_l (n_lst (va_nil)) (vb_v (v_tup (va_cons (v_int) (va_cons (v_int) (va_cons (v_bl) (va_nil))))) (vb_nil))))
    (vss_cons (vs_for (b := b__law_heard_0) (passes_of rfl) rfl (vi_list (v_var 1)) (vg_tup rfl (vgs_cons (vg_name 4 S__law_heard.nd) (vgs_cons (vg_name 5 S__law_heard.nd) (vgs_nil)))) (vss_cons (vs_set 6 S__law_heard.nd (v_callU (c__law_try T) (hr.mono (by decide)) (takes_of rfl rfl rfl rfl) rfl (va_cons (v_var 0) (va_cons (v_var 3) (va_cons (v_var 4) (va_cons (v_var 5) (va_nil)))))))
    (vss_cons (vs_append 2 (v_ix rb_ix ix_seq (v_var 6) (v_int)))
    (vss_one (vs_set 3 S__law_heard.nd (v_ix rb_ix ix_seq (v_var 6) (v_int)))))))
    (vss_one (vs_ret (v_tup (va_cons (v_var 2) (va_cons (v_var 3) (va_nil))))))))
  exact ⟨f, fd, _, h1, kp, b, g⟩
/-! ### _law_seconds -/
theorem S__law_seconds : FnScope ["draws", "most", "wide", "k", "t", "found"] ["draws", "most", "wide"] (defScope st__law_seconds) := ⟨rfl, rfl, rfl, by decide +kernel, rfl, by decide +kernel, by decide +kernel⟩
def b__law_seconds_0 : FS := sSeq (sSet 4 (eB gAdd (eV 4) (eCallB 2 0 F__law_take (aC (eV 2) (aN)))))
    (sApp 5 (eV 4))
def m__law_seconds : FS := sSeq (sPar [4, 5] (bV (eC (.int 0)) (bL (nLst (aN)) (bN))))
    (sSeq (sFor (iR1 (aC (eCallB 2 0 F__law_take (aC (eB gAdd (eV 1) (eC (.int 1))) (aN))) (aN))) (gN 3) b__law_seconds_0)
    (sRet (eV 5)))
@[irreducible] def F__law_seconds : List Int → List D → R (D × List Int) := runB 6 m__law_seconds
theorem c__law_seconds (T : Tx K mg) : CallB P w K mg base 2 "_law_seconds" 3 F__law_seconds := by
  unfold F__law_seconds
  obtain ⟨f, fd, F, g, kp, b⟩ := T.d__law_seconds
  have h1 : FnOk P w K mg base (L2.CX P w) (1 + 1) f fd ["draws", "most", "wide"] (spB K 3 (runB 6 m__law_seconds)) := ok_B (n := 3) (N := ["draws", "most", "wide", "k", "t", "found"]) (k := 1) (g := m__law_seconds) F S__law_seconds rfl (by decide) (fun cdv A outer s H E hr => vss_cons (vs_par 4 5 rfl S__law_seconds.nd (vb_v (v_int) (vb_l (n_lst (va_nil)) (vb_nil))))
    (vss_cons (vs_for (b := b__law_seconds_0) (passes_of rfl) rfl (vi_range1 rfl T.b_range (va_cons (v_callBU 0 (c__law_take T) (hr.mono (by decide)) (takes_of rfl rfl rfl rfl) rfl (va_cons (v_op rb_add op_addA (v_var 1) (v_int)) (va_nil))) (va_nil))) (vg_name 3 S__law_seconds.nd) (vss_cons (vs_set 4 S__law_seconds.nd (v_op rb_add op_addA (v_var 4) (v_callBU 0 (c__law_take T) (hr.mono (by decide)) (takes_of rfl rfl rfl rfl) rfl (va_cons (v_var 2) (va_nil)))))
    (vss_one (vs_append 5 (v_var 4)))))
    (vss_one (vs_ret (v_var 5)))))
  exact ⟨f, fd, _, h1, kp, b, g⟩
/-! ### _law_is_lock_due -/
theorem S__law_is_lock_due : FnScope ["draws", "lock", "tries", "waits", "second", "t", "count", "wrong", "own", "found", "state", "row", "again", "told", "is_right", "k"] ["draws", "lock"] (defScope st__law_is_lock_due) := ⟨rfl, rfl, rfl, by decide +kernel, rfl, by decide +kernel, by decide +kernel⟩
def f__law_is_lock_due_0 : FE := eTup (aC (eV 5) (aC (eB gEq (eCallB 2 0 F__law_take (aC (eC (.int 6)) (aN))) (eC (.int 0))) (aN)))
def f__law_is_lock_due_1 : FE := eCall 2 F__law_wait (aC (eV 1) (aC (eV 15) (aN)))
def f__law_is_lock_due_2 : FE := eCall 5 F__law_told (aC (eC (.int 3)) (aC (eV 1) (aC (eV 15) (aC (eC .non) (aC (eC .non) (aN))))))
def b__law_is_lock_due_0 : FS := sSeq (sSet 13 (eCall 4 F__law_try (aC (eV 1) (aC (eV 10) (aC (eV 5) (aC (eC (.bl false)) (aN)))))))
    (sSeq (sSet 11 (eB gAdd (eV 11) (eB gMul (eLst (aC (eV 5) (aN))) (eF fInt (aC (eB gIx (eV 13) (eC (.int 0))) (aN))))))
    (sSet 10 (eB gIx (eV 13) (eC (.int 1)))))
def b__law_is_lock_due_1 : FS := sFor (iR1 (aC (eB gAdd (eB gIx (eV 1) (eC (.int 2))) (eC (.int 1))) (aN))) (gN 12) b__law_is_lock_due_0
def b__law_is_lock_due_2 : FS := sSeq (sSet 13 (eCall 5 F__law_told (aC (eC (.int 6)) (aC (eV 1) (aC (eV 6) (aC (eC .non) (aC (eC .non) (aN))))))))
    (sSeq (sIf (tOr1 (tAnd1 (tC1 (eB gLe (eV 6) (eF fLen (aC (eV 11) (aN))))) (tNot1 (tE (eCall 2 (F__law_same 4) (aC (eV 13) (aC (eB gIx (eB gAdd (eLst (aC (eC (.int 0)) (aN))) (eV 11)) (eV 6)) (aN))))))) (tAnd1 (tC1 (eB gGtI (eV 6) (eB gIx (eV 1) (eC (.int 2))))) (tC1 (eB gNotN (eV 13) (eC .non))))) (sRet (eC (.bl false))) (sNx))
    (sIf (tAnd1 (tC1 (eCh gLt gLe (eF fLen (aC (eV 11) (aN))) (eV 6) (eB gIx (eV 1) (eC (.int 2))))) (tOr1 (tNot1 (tE (eF fIs (aC (eV 13) (aC (eC (.ty "int")) (aN)))))) (tC1 (eB gLe (eV 13) (eV 4))))) (sRet (eC (.bl false))) (sNx)))
def m__law_is_lock_due : FS := sSeq (sSet 2 (eL (nLc (iL (eCallB 3 0 F__law_seconds (aC (eC (.int 14)) (aC (eCallB 2 0 F__law_pick (aC (eLst (aC (eC (.int 1)) (aC (eC (.int 4)) (aC (eC (.int 30)) (aN))))) (aN))) (aN))))) [5] (gN 5) (tYes1) (f__law_is_lock_due_0))))
    (sSeq (sAsg (gT 2 (gsC (gN 9) (gsC (gN 10) (gsN)))) (eCall 2 F__law_heard (aC (eV 1) (aC (eV 2) (aN)))))
    (sSeq (sSet 3 (eL (nLc (iR1 (aC (eB gIx (eV 1) (eC (.int 2))) (aN))) [15] (gN 15) (tYes1) (f__law_is_lock_due_1))))
    (sSeq (sIf (tNot1 (tE (eCall 2 (F__law_same 4) (aC (eLst (aC (eCall 5 F__law_told (aC (eC (.int 0)) (aC (eV 1) (aC (eC .non) (aC (eC .non) (aC (eC .non) (aN))))))) (aC (eCall 5 F__law_told (aC (eC (.int 4)) (aC (eV 1) (aC (eF fLst (aC (eV 2) (aN))) (aC (eC .non) (aC (eC .non) (aN))))))) (aN)))) (aC (eLst (aC (eC (.bl true)) (aC (eTup (aC (eV 9) (aC (eV 10) (aN)))) (aN)))) (aN)))))) (sRet (eC (.bl false))) (sNx))
    (sSeq (sIf (tNot1 (tE (eCall 2 (F__law_same 4) (aC (eL (nLc (iR1 (aC (eB gIx (eV 1) (eC (.int 2))) (aN))) [15] (gN 15) (tYes1) (f__law_is_lock_due_2))) (aC (eV 3) (aN)))))) (sRet (eC (.bl false))) (sNx))
    (sSeq (sSet 4 (eCallB 2 0 F__law_take (aC (eC (.int 150)) (aN))))
    (sSeq (sPar [11, 10] (bV (eLst (aN)) (bV (eTup (aC (eC (.int 0)) (aC (eC (.int 0)) (aC (eC (.bl false)) (aN))))) (bN))))
    (sSeq (sFor (iR1 (aC (eB gAdd (eV 4) (eC (.int 1))) (aN))) (gN 5) b__law_is_lock_due_1)
    (sSeq (sIf (tNot1 (tE (eCall 2 (F__law_same 4) (aC (eCall 5 F__law_told (aC (eC (.int 5)) (aC (eV 1) (aC (eV 4) (aC (eC .non) (aC (eC .non) (aN))))))) (aC (eF fLen (aC (eV 11) (aN))) (aN)))))) (sRet (eC (.bl false))) (sNx))
    (sSeq (sFor (iR1 (aC (eB gAdd (eB gIx (eV 1) (eC (.int 2))) (eC (.int 3))) (aN))) (gN 6) b__law_is_lock_due_2)
    (sSeq (sSet 7 (eCallB 2 0 F__law_take (aC (eB gAdd (eB gIx (eV 1) (eC (.int 2))) (eC (.int 1))) (aN))))
    (sSeq (sSet 8 (eTup (aC (eV 7) (aC (eCallB 2 0 F__law_take (aC (eC (.int 99)) (aN))) (aC (eB gEq (eV 7) (eB gIx (eV 1) (eC (.int 2)))) (aN))))))
    (sSeq (sPar [5, 14] (bV (eCallB 2 0 F__law_take (aC (eC (.int 200)) (aN))) (bV (eB gEq (eCallB 2 0 F__law_take (aC (eC (.int 2)) (aN))) (eC (.int 0))) (bN))))
    (sRet (eCall 2 (F__law_same 4) (aC (eLst (aC (eCall 5 F__law_told (aC (eC (.int 2)) (aC (eV 1) (aC (eV 8) (aC (eC .non) (aC (eC .non) (aN))))))) (aC (eCall 5 F__law_told (aC (eC (.int 10)) (aC (eV 1) (aC (eV 8) (aC (eV 5) (aC (eV 14) (aN))))))) (aN)))) (aC (eLst (aC (eC (.bl true)) (aC (eCall 4 F__law_try (aC (eV 1) (aC (eV 8) (aC (eV 5) (aC (eV 14) (aN)))))) (aN)))) (aN)))))))))))))))))
@[irreducible] def F__law_is_lock_due : List Int → List D → R (D × List Int) := runB 16 m__law_is_lock_due
theorem c__law_is_lock_due (T : Tx K mg) : CallB P w K mg base 7 "_law_is_lock_due" 2 F__law_is_lock_due := by
  unfold F__law_is_lock_due
  obtain ⟨f, fd, F, g, kp, b⟩ := T.d__law_is_lock_due
  have h1 : FnOk P w K mg base (L2.CX P w) (6 + 1) f fd ["draws", "lock"] (spB K 2 (runB 16 m__law_is_lock_due)) := ok_B (n := 2) (N := ["draws", "lock", "tries", "waits", "second", "t", "count", "wrong", "own", "found", "state", "row", "again", "told", "is_right", "k"]) (k := 6) (g := m__law_is_lock_due) F S__law_is_lock_due rfl (by decide) (fun cdv A outer s H E hr => vss_cons (vs_setLc (own := [("t", 5)]) (c := tYes1) (f := f__law_is_lock_due_0) 2 rfl S__law_is_lock_due.nd (vi_list (v_callBU 0 (c__law_seconds T) (hr.mono (by decide)) (takes_of rfl rfl rfl rfl) rfl (va_cons (v_int) (va_cons (v_callBU 0 (c__law_pick T) (hr.mono (by decide)) (takes_of rfl rfl rfl rfl) rfl (va_cons (v_lst (va_cons (v_int) (va_cons (v_int) (va_cons (v_int) (va_nil))))) (va_nil))) (va_nil))))) rfl (fun _ _ _ _ _ => vg_name 5 S__law_is_lock_due.nd) (fun _ _ _ _ _ => vts_nil) (fun _ _ _ _ _ => v_tup (va_cons (v_var 5) (va_cons (v_cmp rb_eq (op_eqA hr.hu) (nomark _) (v_callBU 0 (c__law_take T) (hr.mono (by decide)) takes0 rfl (va_cons (v_int) (va_nil))) (v_int)) (va_nil)))) (sw_true rfl rfl rfl (by decide +kernel)))
    (vss_cons (vs_asg (v_callU (c__law_heard T) (hr.mono (by decide)) (takes_of rfl rfl rfl rfl) rfl (va_cons (v_var 1) (va_cons (v_var 2) (va_nil)))) (vg_tup rfl (vgs_cons (vg_name 9 S__law_is_lock_due.nd) (vgs_cons (vg_name 10 S__law_is_lock_due.nd) (vgs_nil)))))
    (vss_cons (vs_setLc (own := [("k", 15)]) (c := tYes1) (f := f__law_is_lock_due_1) 3 rfl S__law_is_lock_due.nd (vi_range1 rfl T.b_range (va_cons (v_ix rb_ix ix_seq (v_var 1) (v_int)) (va_nil))) rfl (fun _ _ _ _ _ => vg_name 15 S__law_is_lock_due.nd) (fun _ _ _ _ _ => vts_nil) (fun _ _ _ _ _ => v_callU (c__law_wait T) (hr.mono (by decide)) takes0 rfl (va_cons (v_var 1) (va_cons (v_var 15) (va_nil)))) (sw_true rfl rfl rfl (by decide +kernel)))
    (vss_cons (vs_if (vt_not (vt_val (v_callU (c__law_same T 4) (hr.mono (by decide)) (takes_of rfl rfl rfl rfl) rfl (va_cons (v_lst (va_cons (v_callU (c__law_told T) (hr.mono (by decide)) (takes_of rfl rfl rfl rfl) rfl (va_cons (v_int) (va_cons (v_var 1) (va_cons (v_non) (va_cons (v_non) (va_cons (v_non) (va_nil))))))) (va_cons (v_callU (c__law_told T) (hr.mono (by decide)) (takes_of rfl rfl rfl rfl) rfl (va_cons (v_int) (va_cons (v_var 1) (va_cons (v_bty rc_lst call_lstA rfl T.b_list (va_cons (v_var 2) (va_nil))) (va_cons (v_non) (va_cons (v_non) (va_nil))))))) (va_nil)))) (va_cons (v_lst (va_cons (v_bl) (va_cons (v_tup (va_cons (v_var 9) (va_cons (v_var 10) (va_nil)))) (va_nil)))) (va_nil)))))) (vss_one (vs_ret (v_bl))) (vss_nil))
    (vss_cons (vs_if (vt_not (vt_val (v_callU (c__law_same T 4) (hr.mono (by decide)) (takes_of rfl rfl rfl rfl) rfl (va_cons (v_ofN (n_lc (own := [("k", 15)]) (c := tYes1) (f := f__law_is_lock_due_2) rfl S__law_is_lock_due.nd (vi_range1 rfl T.b_range (va_cons (v_ix rb_ix ix_seq (v_var 1) (v_int)) (va_nil))) rfl (fun _ _ _ _ _ => vg_name 15 S__law_is_lock_due.nd) (fun _ _ _ _ _ => vts_nil) (fun _ _ _ _ _ => v_callU (c__law_told T) (hr.mono (by decide)) takes0 rfl (va_cons (v_int) (va_cons (v_var 1) (va_cons (v_var 15) (va_cons (v_non) (va_cons (v_non) (va_nil))))))))) (va_cons (v_var 3) (va_nil)))))) (vss_one (vs_ret (v_bl))) (vss_nil))
    (vss_cons (vs_set 4 S__law_is_lock_due.nd (v_callBU 0 (c__law_take T) (hr.mono (by decide)) (takes_of rfl rfl rfl rfl) rfl (va_cons (v_int) (va_nil))))
    (vss_cons (vs_par 11 10 rfl S__law_is_lock_due.nd (vb_v (v_lst (va_nil)) (vb_v (v_tup (va_cons (v_int) (va_cons (v_int) (va_cons (v_bl) (va_nil))))) (vb_nil))))
    (vss_cons (vs_for (b := b__law_is_lock_due_1) (passes_of rfl) rfl (vi_range1 rfl T.b_range (va_cons (v_op rb_add op_addA (v_var 4) (v_int)) (va_nil))) (vg_name 5 S__law_is_lock_due.nd) (vss_one (vs_for (b := b__law_is_lock_due_0) (passes_of rfl) rfl (vi_range1 rfl T.b_range (va_cons (v_op rb_add op_addA (v_ix rb_ix ix_seq (v_var 1) (v_int)) (v_int)) (va_nil))) (vg_name 12 S__law_is_lock_due.nd) (vss_cons (vs_set 13 S__law_is_lock_due.nd (v_callU (c__law_try T) (hr.mono (by decide)) (takes_of rfl rfl rfl rfl) rfl (va_cons (v_var 1) (va_cons (v_var 10) (va_cons (v_var 5) (va_cons (v_bl) (va_nil)))))))
    (vss_cons (vs_set 11 S__law_is_lock_due.nd (v_op rb_add op_addA (v_var 11) (v_op rb_mul op_mulA (v_lst (va_cons (v_var 5) (va_nil))) (v_bty rc_int call_int1 rfl T.b_int (va_cons (v_ix rb_ix ix_seq (v_var 13) (v_int)) (va_nil))))))
    (vss_one (vs_set 10 S__law_is_lock_due.nd (v_ix rb_ix ix_seq (v_var 13) (v_int)))))))))
    (vss_cons (vs_if (vt_not (vt_val (v_callU (c__law_same T 4) (hr.mono (by decide)) (takes_of rfl rfl rfl rfl) rfl (va_cons (v_callU (c__law_told T) (hr.mono (by decide)) (takes_of rfl rfl rfl rfl) rfl (va_cons (v_int) (va_cons (v_var 1) (va_cons (v_var 4) (va_cons (v_non) (va_cons (v_non) (va_nil))))))) (va_cons (v_blt rc_len call_lenA rfl T.b_len (va_cons (v_var 11) (va_nil))) (va_nil)))))) (vss_one (vs_ret (v_bl))) (vss_nil))
    (vss_cons (vs_for (b := b__law_is_lock_due_2) (passes_of rfl) rfl (vi_range1 rfl T.b_range (va_cons (v_op rb_add op_addA (v_ix rb_ix ix_seq (v_var 1) (v_int)) (v_int)) (va_nil))) (vg_name 6 S__law_is_lock_due.nd) (vss_cons (vs_set 13 S__law_is_lock_due.nd (v_callU (c__law_told T) (hr.mono (by decide)) (takes_of rfl rfl rfl rfl) rfl (va_cons (v_int) (va_cons (v_var 1) (va_cons (v_var 6) (va_cons (v_non) (va_cons (v_non) (va_nil))))))))
    (vss_cons (vs_if (PW.pt (vw_or (PW.pt (vw_and (vt_cmp rb_le op_leA (nomark _) (v_var 6) (v_blt rc_len call_lenA rfl T.b_len (va_cons (v_var 11) (va_nil)))) (vw_and1 (vt_not (vt_val (v_callU (c__law_same T 4) (hr.mono (by decide)) (takes_of rfl rfl rfl rfl) rfl (va_cons (v_var 13) (va_cons (v_ix rb_ix ix_seq (v_op rb_add op_addA (v_lst (va_cons (v_int) (va_nil))) (v_var 11)) (v_var 6)) (va_nil))))))))) (vw_or1 (PW.pt (vw_and (vt_cmp rb_gtI op_gt (nomark _) (v_var 6) (v_ix rb_ix ix_seq (v_var 1) (v_int))) (vw_and1 (vt_cmp rb_notN op_notN (nomark _) (v_var 13) (v_non)))))))) (vss_one (vs_ret (v_bl))) (vss_nil))
    (vss_one (vs_if (PW.pt (vw_and (vt_chain rb_lt rb_le op_ltA op_leA (v_blt rc_len call_lenA rfl T.b_len (va_cons (v_var 11) (va_nil))) (v_var 6) (v_ix rb_ix ix_seq (v_var 1) (v_int))) (vw_and1 (PW.pt (vw_or (vt_not (vt_val (v_blt rc_is call_isi rfl T.b_isinstance (va_cons (v_var 13) (va_cons (v_ty rfl T.b_int) (va_nil)))))) (vw_or1 (vt_cmp rb_le op_leA (nomark _) (v_var 13) (v_var 4)))))))) (vss_one (vs_ret (v_bl))) (vss_nil))))))
    (vss_cons (vs_set 7 S__law_is_lock_due.nd (v_callBU 0 (c__law_take T) (hr.mono (by decide)) (takes_of rfl rfl rfl rfl) rfl (va_cons (v_op rb_add op_addA (v_ix rb_ix ix_seq (v_var 1) (v_int)) (v_int)) (va_nil))))
    (vss_cons (vs_set 8 S__law_is_lock_due.nd (v_tup (va_cons (v_var 7) (va_cons (v_callBU 0 (c__law_take T) (hr.mono (by decide)) (takes_of rfl rfl rfl rfl) rfl (va_cons (v_int) (va_nil))) (va_cons (v_cmp rb_eq (op_eqA hr.hu) (nomark _) (v_var 7) (v_ix rb_ix ix_seq (v_var 1) (v_int))) (va_nil))))))
    (vss_cons (vs_par 5 14 rfl S__law_is_lock_due.nd (vb_v (v_callBU 0 (c__law_take T) (hr.mono (by decide)) (takes_of rfl rfl rfl rfl) rfl (va_cons (v_int) (va_nil))) (vb_v (v_cmp rb_eq (op_eqA hr.hu) (nomark _) (v_callBU 0 (c__law_take T) (hr.mono (by decide)) (takes_of rfl rfl rfl rfl) rfl (va_cons (v_int) (va_nil))) (v_int)) (vb_nil))))
    (vss_one (vs_ret (v_callU (c__law_same T 4) (hr.mono (by decide)) (takes_of rfl rfl rfl rfl) rfl (va_cons (v_lst (va_cons (v_callU (c__law_told T) (hr.mono (by decide)) (takes_of rfl rfl rfl rfl) rfl (va_cons (v_int) (va_cons (v_var 1) (va_cons (v_var 8) (va_cons (v_non) (va_cons (v_non) (va_nil))))))) (va_cons (v_callU (c__law_told T) (hr.mono (by decide)) (takes_of rfl rfl rfl rfl) rfl (va_cons (v_int) (va_cons (v_var 1) (va_cons (v_var 8) (va_cons (v_var 5) (va_cons (v_var 14) (va_nil))))))) (va_nil)))) (va_cons (v_lst (va_cons (v_bl) (va_cons (v_callU (c__law_try T) (hr.mono (by decide)) (takes_of rfl rfl rfl rfl) rfl (va_cons (v_var 1) (va_cons (v_var 8) (va_cons (v_var 5) (va_cons (v_var 14) (va_nil)))))) (va_nil)))) (va_nil)))))))))))))))))))
  exact ⟨f, fd, _, h1, kp, b, g⟩
/-! ### _law_drops -/
theorem S__law_drops : FnScope ["bucket", "tries", "second", "t", "drops", "found", "one"] ["bucket", "tries", "second"] (defScope st__law_drops) := ⟨rfl, rfl, rfl, by decide +kernel, rfl, by decide +kernel, by decide +kernel⟩
def b__law_drops_0 : FS := sIf (tC1 (eB gEq (eV 6) (eV 3))) (sSeq (sApp 5 (eB gGtI (eV 4) (eC (.int 0))))
    (sSet 4 (eF fMax2 (aC (eC (.int 0)) (aC (eB gSub (eV 4) (eC (.int 1))) (aN)))))) (sNx)
def b__law_drops_1 : FS := sSeq (sIf (tAnd1 (tC1 (eB gGtI (eV 3) (eC (.int 0)))) (tC1 (eB gEq (eB gMod (eF fInt (aC (eV 3) (aN))) (eB gIx (eV 0) (eC (.int 1)))) (eC (.int 0))))) (sSet 4 (eF fMin2 (aC (eB gIx (eV 0) (eC (.int 0))) (aC (eB gAdd (eV 4) (eC (.int 1))) (aN))))) (sNx))
    (sFor (iL (eV 1)) (gN 6) b__law_drops_0)
def m__law_drops : FS := sSeq (sPar [4, 5] (bV (eB gIx (eV 0) (eC (.int 0))) (bL (nLst (aN)) (bN))))
    (sSeq (sFor (iR1 (aC (eB gAdd (eV 2) (eC (.int 1))) (aN))) (gN 3) b__law_drops_1)
    (sRet (eTup (aC (eV 5) (aC (eV 4) (aN))))))
@[irreducible] def F__law_drops : List D → R D := runA 7 false m__law_drops
theorem c__law_drops (T : Tx K mg) : CallA P w K mg base 1 "_law_drops" 3 false F__law_drops := by
  unfold F__law_drops
  obtain ⟨f, fd, F, g, kp, b⟩ := T.d__law_drops
  have h1 : FnOk P w K mg base (L2.CX P w) (0 + 1) f fd ["bucket", "tries", "second"] (spA K mg 3 false (runA 7 false m__law_drops)) := ok_A (n := 3) (N := ["bucket", "tries", "second", "t", "drops", "found", "one"]) (k := 0) (g := m__law_drops) false F S__law_drops rfl (by decide) (fun cdv A outer s H E hr => vss_cons (vs_par 4 5 rfl S__law_drops.nd (vb_v (v_ix rb_ix ix_seq (v_var 0) (v_int)) (vb_l (n_lst (va_nil)) (vb_nil))))
    (vss_cons (vs_for (b := b__law_drops_1) (passes_of rfl) rfl (vi_range1 rfl T.b_range (va_cons (v_op rb_add op_addA (v_var 2) (v_int)) (va_nil))) (vg_name 3 S__law_drops.nd) (vss_cons (vs_if (PW.pt (vw_and (vt_cmp rb_gtI op_gt (nomark _) (v_var 3) (v_int)) (vw_and1 (vt_cmp rb_eq (op_eqA hr.hu) (nomark _) (v_op rb_mod op_mod (v_bty rc_int call_int1 rfl T.b_int (va_cons (v_var 3) (va_nil))) (v_ix rb_ix ix_seq (v_var 0) (v_int))) (v_int))))) (vss_one (vs_set 4 S__law_drops.nd (v_blt rc_min2 (call_min2 rfl) rfl T.b_min (va_cons (v_ix rb_ix ix_seq (v_var 0) (v_int)) (va_cons (v_op rb_add op_addA (v_var 4) (v_int)) (va_nil)))))) (vss_nil))
    (vss_one (vs_for (b := b__law_drops_0) (passes_of rfl) rfl (vi_list (v_var 1)) (vg_name 6 S__law_drops.nd) (vss_one (vs_if (vt_cmp rb_eq (op_eqA hr.hu) (nomark _) (v_var 6) (v_var 3)) (vss_cons (vs_append 5 (v_cmp rb_gtI op_gt (nomark _) (v_var 4) (v_int)))
    (vss_one (vs_set 4 S__law_drops.nd (v_blt rc_max2 (call_max2 rfl) rfl T.b_max (va_cons (v_int) (va_cons (v_op rb_sub op_sub (v_var 4) (v_int)) (va_nil))))))) (vss_nil)))))))
    (vss_one (vs_ret (v_tup (va_cons (v_var 5) (va_cons (v_var 4) (va_nil))))))))
  exact ⟨f, fd, _, h1, kp, b, g⟩
/-! ### _law_is_bucket_due -/
theorem S__law_is_bucket_due : FnScope ["draws", "bucket", "tries", "second", "told", "asked", "t", "many", "found", "drops", "one"] ["draws", "bucket"] (defScope st__law_is_bucket_due) := ⟨rfl, rfl, rfl, by decide +kernel, rfl, by decide +kernel, by decide +kernel⟩
def t__law_is_bucket_due_0 : FT := tE (eV 10)
def f__law_is_bucket_due_1 : FE := eV 10
def b__law_is_bucket_due_0 : FS := sSet 5 (eB gAdd (eV 5) (eB gMul (eLst (aC (eV 6) (aN))) (eIf (tC1 (eB gEq (eV 6) (eC (.int 0)))) (eB gIx (eV 1) (eC (.int 0))) (eC (.int 1)))))
def m__law_is_bucket_due : FS := sSeq (sSet 2 (eCallB 3 0 F__law_seconds (aC (eC (.int 12)) (aC (eCallB 2 0 F__law_pick (aC (eLst (aC (eC (.int 1)) (aC (eC (.int 4)) (aC (eC (.int 20)) (aN))))) (aN))) (aN)))))
    (sSeq (sSet 3 (eB gAdd (eF fMax1 (aC (eB gAdd (eLst (aC (eC (.int 0)) (aN))) (eV 2)) (aN))) (eCallB 2 0 F__law_take (aC (eC (.int 40)) (aN)))))
    (sSeq (sAsg (gT 2 (gsC (gN 8) (gsC (gN 9) (gsN)))) (eCall 3 F__law_drops (aC (eV 1) (aC (eV 2) (aC (eV 3) (aN))))))
    (sSeq (sSet 4 (eLst (aC (eCall 5 F__law_told (aC (eC (.int 1)) (aC (eV 1) (aC (eC .non) (aC (eC .non) (aC (eC .non) (aN))))))) (aC (eCall 5 F__law_told (aC (eC (.int 7)) (aC (eV 1) (aC (eF fLst (aC (eV 2) (aN))) (aC (eC .non) (aC (eC .non) (aN))))))) (aC (eCall 5 F__law_told (aC (eC (.int 9)) (aC (eV 1) (aC (eF fLst (aC (eV 2) (aN))) (aC (eV 3) (aC (eC .non) (aN))))))) (aN))))))
    (sSeq (sIf (tNot1 (tE (eCall 2 (F__law_same 4) (aC (eV 4) (aC (eLst (aC (eC (.bl true)) (aC (eV 8) (aC (eV 9) (aN))))) (aN)))))) (sRet (eC (.bl false))) (sNx))
    (sSeq (sSet 5 (eLst (aN)))
    (sSeq (sFor (iR1 (aC (eB gAdd (eV 3) (eC (.int 1))) (aN))) (gN 6) b__law_is_bucket_due_0)
    (sSeq (sSet 7 (eF fLen (aC (eL (nLc (iL (eB gIx (eCall 3 F__law_drops (aC (eV 1) (aC (eV 5) (aC (eV 3) (aN))))) (eC (.int 0)))) [10] (gN 10) (t__law_is_bucket_due_0) (f__law_is_bucket_due_1))) (aN))))
    (sRet (eCall 2 (F__law_same 4) (aC (eCall 5 F__law_told (aC (eC (.int 8)) (aC (eV 1) (aC (eV 3) (aC (eC .non) (aC (eC .non) (aN))))))) (aC (eV 7) (aN))))))))))))
@[irreducible] def F__law_is_bucket_due : List Int → List D → R (D × List Int) := runB 11 m__law_is_bucket_due
theorem c__law_is_bucket_due (T : Tx K mg) : CallB P w K mg base 7 "_law_is_bucket_due" 2 F__law_is_bucket_due := by
  unfold F__law_is_bucket_due
  obtain ⟨f, fd, F, g, kp, b⟩ := T.d__law_is_bucket_due
  have h1 : FnOk P w K mg base (L2.CX P w) (6 + 1) f fd ["draws", "bucket"] (spB K 2 (runB 11 m__law_is_bucket_due)) := ok_B (n := 2) (N := ["draws", "bucket", "tries", "second", "told", "asked", "t", "many", "found", "drops", "one"]) (k := 6) (g := m__law_is_bucket_due) F S__law_is_bucket_due rfl (by decide) (fun cdv A outer s H E hr => vss_cons (vs_set 2 S__law_is_bucket_due.nd (v_callBU 0 (c__law_seconds T) (hr.mono (by decide)) (takes_of rfl rfl rfl rfl) rfl (va_cons (v_int) (va_cons (v_callBU 0 (c__law_pick T) (hr.mono (by decide)) (takes_of rfl rfl rfl rfl) rfl (va_cons (v_lst (va_cons (v_int) (va_cons (v_int) (va_cons (v_int) (va_nil))))) (va_nil))) (va_nil)))))
    (vss_cons (vs_set 3 S__law_is_bucket_due.nd (v_op rb_add op_addA (v_blt rc_max1 (cr_max rfl) rfl T.b_max (va_cons (v_op rb_add op_addA (v_lst (va_cons (v_int) (va_nil))) (v_var 2)) (va_nil))) (v_callBU 0 (c__law_take T) (hr.mono (by decide)) (takes_of rfl rfl rfl rfl) rfl (va_cons (v_int) (va_nil)))))
    (vss_cons (vs_asg (v_callU (c__law_drops T) (hr.mono (by decide)) (takes_of rfl rfl rfl rfl) rfl (va_cons (v_var 1) (va_cons (v_var 2) (va_cons (v_var 3) (va_nil))))) (vg_tup rfl (vgs_cons (vg_name 8 S__law_is_bucket_due.nd) (vgs_cons (vg_name 9 S__law_is_bucket_due.nd) (vgs_nil)))))
    (vss_cons (vs_set 4 S__law_is_bucket_due.nd (v_lst (va_cons (v_callU (c__law_told T) (hr.mono (by decide)) (takes_of rfl rfl rfl rfl) rfl (va_cons (v_int) (va_cons (v_var 1) (va_cons (v_non) (va_cons (v_non) (va_cons (v_non) (va_nil))))))) (va_cons (v_callU (c__law_told T) (hr.mono (by decide)) (takes_of rfl rfl rfl rfl) rfl (va_cons (v_int) (va_cons (v_var 1) (va_cons (v_bty rc_lst call_lstA rfl T.b_list (va_cons (v_var 2) (va_nil))) (va_cons (v_non) (va_cons (v_non) (va_nil))))))) (va_cons (v_callU (c__law_told T) (hr.mono (by decide)) (takes_of rfl rfl rfl rfl) rfl (va_cons (v_int) (va_cons (v_var 1) (va_cons (v_bty rc_lst call_lstA rfl T.b_list (va_cons (v_var 2) (va_nil))) (va_cons (v_var 3) (va_cons (v_non) (va_nil))))))) (va_nil))))))
    (vss_cons (vs_if (vt_not (vt_val (v_callU (c__law_same T 4) (hr.mono (by decide)) (takes_of rfl rfl rfl rfl) rfl (va_cons (v_var 4) (va_cons (v_lst (va_cons (v_bl) (va_cons (v_var 8) (va_cons (v_var 9) (va_nil))))) (va_nil)))))) (vss_one (vs_ret (v_bl))) (vss_nil))
    (vss_cons (vs_set 5 S__law_is_bucket_due.nd (v_lst (va_nil)))
    (vss_cons (vs_for (b := b__law_is_bucket_due_0) (passes_of rfl) rfl (vi_range1 rfl T.b_range (va_cons (v_op rb_add op_addA (v_var 3) (v_int)) (va_nil))) (vg_name 6 S__law_is_bucket_due.nd) (vss_one (vs_set 5 S__law_is_bucket_due.nd (v_op rb_add op_addA (v_var 5) (v_op rb_mul op_mulA (v_lst (va_cons (v_var 6) (va_nil))) (v_if (vt_cmp rb_eq (op_eqA hr.hu) (nomark _) (v_var 6) (v_int)) (v_ix rb_ix ix_seq (v_var 1) (v_int)) (v_int)))))))
    (vss_cons (vs_set 7 S__law_is_bucket_due.nd (v_blt rc_len call_lenA rfl T.b_len (va_cons (v_ofN (n_lc (own := [("one", 10)]) (c := t__law_is_bucket_due_0) (f := f__law_is_bucket_due_1) rfl S__law_is_bucket_due.nd (vi_list (v_ix rb_ix ix_seq (v_callU (c__law_drops T) (hr.mono (by decide)) (takes_of rfl rfl rfl rfl) rfl (va_cons (v_var 1) (va_cons (v_var 5) (va_cons (v_var 3) (va_nil))))) (v_int))) rfl (fun _ _ _ _ _ => vg_name 10 S__law_is_bucket_due.nd) (fun _ _ _ _ _ => vts_one (vt_val (v_var 10))) (fun _ _ _ _ _ => v_var 10))) (va_nil))))
    (vss_one (vs_ret (v_callU (c__law_same T 4) (hr.mono (by decide)) (takes_of rfl rfl rfl rfl) rfl (va_cons (v_callU (c__law_told T) (hr.mono (by decide)) (takes_of rfl rfl rfl rfl) rfl (va_cons (v_int) (va_cons (v_var 1) (va_cons (v_var 3) (va_cons (v_non) (va_cons (v_non) (va_nil))))))) (va_cons (v_var 7) (va_nil))))))))))))))
  exact ⟨f, fd, _, h1, kp, b, g⟩
/-! ### law -/
theorem S_law : FnScope ["script", "draws", "turn", "locks", "buckets", "told", "lock", "bucket", "states", "wrong", "second", "rows", "bad", "which", "two", "k", "one"] ["script"] (defScope st_law) := ⟨rfl, rfl, rfl, by decide +kernel, rfl, by decide +kernel, by decide +kernel⟩
def f_law_0 : FE := eCall 5 F__law_told (aC (eC (.int 3)) (aC (eV 6) (aC (eV 15) (aC (eC .non) (aC (eC .non) (aN))))))
def f_law_1 : FE := eCall 5 F__law_told (aC (eV 13) (aC (eV 6) (aC (eV 10) (aC (eC .non) (aC (eC .non) (aN))))))
def f_law_2 : FE := eCall 5 F__law_told (aC (eC (.int 0)) (aC (eV 16) (aC (eC .non) (aC (eC .non) (aC (eC .non) (aN))))))
def f_law_3 : FE := eCall 5 F__law_told (aC (eC (.int 1)) (aC (eV 16) (aC (eC .non) (aC (eC .non) (aC (eC .non) (aN))))))
def f_law_4 : FE := eCall 5 F__law_told (aC (eV 13) (aC (eV 6) (aC (eV 14) (aC (eC .non) (aC (eC .non) (aN))))))
def b_law_0 : FS := sSeq (sSet 6 (eCallB 1 1 F__law_lock (aN)))
    (sSeq (sSet 7 (eTup (aC (eB gAdd (eC (.int 1)) (eCallB 2 1 F__law_take (aC (eC (.int 4)) (aN)))) (aC (eB gAdd (eC (.int 1)) (eCallB 2 1 F__law_take (aC (eC (.int 12)) (aN)))) (aN)))))
    (sSeq (sIf (tOr1 (tNot1 (tE (eCallB 2 1 F__law_is_lock_due (aC (eV 6) (aN))))) (tNot1 (tE (eCallB 2 1 F__law_is_bucket_due (aC (eV 7) (aN)))))) (sRet (eC (.bl false))) (sNx))
    (sSeq (sSet 8 (eLst (aC (eC .non) (aC (eLst (aC (eC (.int 0)) (aC (eC (.int 0)) (aC (eC (.bl false)) (aN))))) (aC (eTup (aC (eC (.int 0)) (aC (eC (.int 0)) (aN)))) (aC (eTup (aC (eU gNeg (eC (.int 1))) (aC (eC (.int 0)) (aC (eC (.bl false)) (aN))))) (aC (eTup (aC (eB gAdd (eB gIx (eV 6) (eC (.int 2))) (eC (.int 1))) (aC (eC (.int 0)) (aC (eC (.bl true)) (aN))))) (aC (eTup (aC (eC (.int 0)) (aC (eU gNeg (eC (.int 1))) (aC (eC (.bl false)) (aN))))) (aC (eTup (aC (eC (.int 0)) (aC (eC (.int 0)) (aC (eC (.bl true)) (aN))))) (aN))))))))))
    (sSeq (sSet 8 (eB gAdd (eV 8) (eLst (aC (eTup (aC (eB gIx (eV 6) (eC (.int 2))) (aC (eC (.int 0)) (aC (eC (.bl false)) (aN))))) (aC (eTup (aC (eC (.int 0)) (aC (eC (.int 0)) (aC (eC (.int 0)) (aN))))) (aC (eTup (aC (eC (.bl true)) (aC (eC (.int 0)) (aC (eC (.bl false)) (aN))))) (aN)))))))
    (sSeq (sSet 9 (eCallB 2 1 F__law_pick (aC (eV 8) (aN))))
    (sSeq (sSet 10 (eCallB 2 1 F__law_pick (aC (eLst (aC (eU gNeg (eC (.int 1))) (aC (eC .non) (aC (eC (.bl true)) (aC (eC (.str "1")) (aN)))))) (aN))))
    (sSeq (sNew 5 (nLst (aC (eCall 5 F__law_told (aC (eC (.int 10)) (aC (eV 6) (aC (eV 9) (aC (eC (.int 0)) (aC (eC (.bl true)) (aN))))))) (aC (eCall 5 F__law_told (aC (eC (.int 10)) (aC (eV 6) (aC (eTup (aC (eC (.int 0)) (aC (eC (.int 0)) (aC (eC (.bl false)) (aN))))) (aC (eV 10) (aC (eC (.bl true)) (aN))))))) (aN)))))
    (sSeq (sNew 5 (nB gCat (eB gAdd (eV 5) (eL (nLc (iL (eLst (aC (eU gNeg (eC (.int 1))) (aC (eB gIx (eV 6) (eC (.int 2))) (aC (eC .non) (aN)))))) [15] (gN 15) (tYes1) (f_law_0)))) (eL (nLc (iL (eLst (aC (eC (.int 5)) (aC (eC (.int 6)) (aN))))) [13] (gN 13) (tYes1) (f_law_1)))))
    (sSeq (sSet 11 (eLst (aC (eC .non) (aC (eTup (aC (eTup (aC (eC (.int 0)) (aC (eC (.bl true)) (aN)))) (aN))) (aC (eLst (aC (eTup (aC (eC (.int 0)) (aN))) (aN))) (aC (eLst (aC (eTup (aC (eC (.int 5)) (aC (eC (.bl true)) (aN)))) (aC (eTup (aC (eC (.int 4)) (aC (eC (.bl true)) (aN)))) (aN)))) (aC (eLst (aC (eTup (aC (eU gNeg (eC (.int 1))) (aC (eC (.bl true)) (aN)))) (aN))) (aC (eLst (aC (eTup (aC (eC (.int 0)) (aC (eC (.int 1)) (aN)))) (aN))) (aC (eLst (aC (eLst (aC (eC (.int 0)) (aC (eC (.bl true)) (aN)))) (aN))) (aN))))))))))
    (sSeq (sApp 5 (eCall 5 F__law_told (aC (eC (.int 4)) (aC (eV 6) (aC (eCallB 2 1 F__law_pick (aC (eV 11) (aN))) (aC (eC .non) (aC (eC .non) (aN))))))))
    (sSeq (sSet 11 (eLst (aC (eC .non) (aC (eTup (aC (eC (.int 0)) (aN))) (aC (eLst (aC (eC (.int 1)) (aC (eC (.int 0)) (aN)))) (aC (eLst (aC (eU gNeg (eC (.int 1))) (aN))) (aC (eLst (aC (eC (.bl true)) (aN))) (aC (eLst (aC (eC (.str "0")) (aN))) (aN)))))))))
    (sSeq (sSet 12 (eCallB 2 1 F__law_pick (aC (eV 11) (aN))))
    (sSeq (sNew 5 (nB gCat (eV 5) (eLst (aC (eCall 5 F__law_told (aC (eC (.int 7)) (aC (eV 7) (aC (eV 12) (aC (eC .non) (aC (eC .non) (aN))))))) (aC (eCall 5 F__law_told (aC (eC (.int 9)) (aC (eV 7) (aC (eV 12) (aC (eC (.int 99)) (aC (eC .non) (aN))))))) (aN))))))
    (sSeq (sNew 5 (nB gCat (eV 5) (eLst (aC (eCall 5 F__law_told (aC (eC (.int 9)) (aC (eV 7) (aC (eLst (aC (eC (.int 5)) (aN))) (aC (eC (.int 4)) (aC (eC .non) (aN))))))) (aC (eCall 5 F__law_told (aC (eC (.int 9)) (aC (eV 7) (aC (eLst (aN)) (aC (eV 10) (aC (eC .non) (aN))))))) (aN))))))
    (sSeq (sApp 5 (eCall 5 F__law_told (aC (eC (.int 8)) (aC (eV 7) (aC (eV 10) (aC (eC .non) (aC (eC .non) (aN))))))))
    (sIf (tOr1 (tC1 (eB gNe (eV 5) (eB gMul (eLst (aC (eC (.str "not right")) (aN))) (eC (.int 13))))) (tC1 (eB gNotB (eCall 5 F__law_told (aC (eC (.int 2)) (aC (eV 6) (aC (eV 9) (aC (eC .non) (aC (eC .non) (aN))))))) (eC (.bl false))))) (sRet (eC (.bl false))) (sNx)))))))))))))))))
def m_law : FS := sSeq (sNew 1 (nCall 1 F__law_draws (aC (eV 0) (aN))))
    (sSeq (sFor (iR1 (aC (eC (.int 4)) (aN))) (gN 2) b_law_0)
    (sSeq (sSet 3 (eLst (aC (eC .non) (aC (eTup (aN)) (aC (eLst (aC (eC (.int 2)) (aC (eC (.int 10)) (aC (eC (.int 6)) (aC (eC (.int 60)) (aN)))))) (aC (eTup (aC (eC (.int 2)) (aC (eC (.int 10)) (aC (eC (.int 6)) (aN))))) (aC (eTup (aC (eU gNeg (eC (.int 1))) (aC (eC (.int 10)) (aC (eC (.int 6)) (aC (eC (.int 60)) (aN)))))) (aC (eTup (aC (eC (.int 21)) (aC (eC (.int 10)) (aC (eC (.int 30)) (aC (eC (.int 60)) (aN)))))) (aC (eTup (aC (eC (.int 2)) (aC (eC (.int 0)) (aC (eC (.int 6)) (aC (eC (.int 60)) (aN)))))) (aC (eTup (aC (eC (.int 2)) (aC (eC (.int 1001)) (aC (eC (.int 6)) (aC (eC (.int 9999)) (aN)))))) (aN)))))))))))
    (sSeq (sSet 3 (eB gAdd (eV 3) (eLst (aC (eTup (aC (eC (.int 2)) (aC (eC (.int 10)) (aC (eC (.int 2)) (aC (eC (.int 60)) (aN)))))) (aC (eTup (aC (eC (.int 2)) (aC (eC (.int 10)) (aC (eC (.int 201)) (aC (eC (.int 60)) (aN)))))) (aC (eTup (aC (eC (.int 2)) (aC (eC (.int 10)) (aC (eC (.int 6)) (aC (eC (.int 9)) (aN)))))) (aN)))))))
    (sSeq (sSet 3 (eB gAdd (eV 3) (eLst (aC (eTup (aC (eC (.int 2)) (aC (eC (.int 10)) (aC (eC (.int 6)) (aC (eC (.int 1000001)) (aN)))))) (aC (eTup (aC (eC (.bl true)) (aC (eC (.int 10)) (aC (eC (.int 6)) (aC (eC (.int 60)) (aN)))))) (aN))))))
    (sSeq (sSet 4 (eLst (aC (eC .non) (aC (eTup (aC (eC (.int 2)) (aN))) (aC (eLst (aC (eC (.int 2)) (aC (eC (.int 10)) (aN)))) (aC (eTup (aC (eC (.int 0)) (aC (eC (.int 10)) (aN)))) (aC (eTup (aC (eC (.int 1001)) (aC (eC (.int 10)) (aN)))) (aC (eTup (aC (eC (.int 2)) (aC (eC (.int 0)) (aN)))) (aC (eTup (aC (eC (.int 2)) (aC (eC (.int 100001)) (aN)))) (aC (eTup (aC (eC (.bl true)) (aC (eC (.int 10)) (aN)))) (aN)))))))))))
    (sSeq (sIf (tNot1 (tE (eCall 2 (F__law_same 4) (aC (eB gAdd (eL (nLc (iL (eV 3)) [16] (gN 16) (tYes1) (f_law_2))) (eL (nLc (iL (eV 4)) [16] (gN 16) (tYes1) (f_law_3)))) (aC (eB gMul (eLst (aC (eC (.bl false)) (aN))) (eC (.int 21))) (aN)))))) (sRet (eC (.bl false))) (sNx))
    (sSeq (sAsg (gT 2 (gsC (gN 6) (gsC (gN 7) (gsN)))) (eTup (aC (eCallB 2 1 F__law_pick (aC (eV 3) (aN))) (aC (eCallB 2 1 F__law_pick (aC (eV 4) (aN))) (aN)))))
    (sSeq (sNew 5 (nLc (iL (eLst (aC (eTup (aC (eC (.int 2)) (aC (eTup (aC (eC (.int 0)) (aC (eC (.int 0)) (aC (eC (.bl false)) (aN))))) (aN)))) (aC (eTup (aC (eC (.int 3)) (aC (eC (.int 0)) (aN)))) (aC (eTup (aC (eC (.int 4)) (aC (eLst (aN)) (aN)))) (aC (eTup (aC (eC (.int 5)) (aC (eC (.int 0)) (aN)))) (aC (eTup (aC (eC (.int 6)) (aC (eC (.int 0)) (aN)))) (aN)))))))) [13, 14] (gT 2 (gsC (gN 13) (gsC (gN 14) (gsN)))) (tYes1) (f_law_4)))
    (sSeq (sApp 5 (eCall 5 F__law_told (aC (eC (.int 10)) (aC (eV 6) (aC (eTup (aC (eC (.int 0)) (aC (eC (.int 0)) (aC (eC (.bl false)) (aN))))) (aC (eC (.int 0)) (aC (eC (.bl true)) (aN))))))))
    (sRet (eB gEq (eB gAdd (eV 5) (eLst (aC (eCall 5 F__law_told (aC (eC (.int 7)) (aC (eV 7) (aC (eLst (aN)) (aC (eC .non) (aC (eC .non) (aN))))))) (aC (eCall 5 F__law_told (aC (eC (.int 8)) (aC (eV 7) (aC (eC (.int 0)) (aC (eC .non) (aC (eC .non) (aN))))))) (aC (eCall 5 F__law_told (aC (eC (.int 9)) (aC (eV 7) (aC (eLst (aN)) (aC (eC (.int 0)) (aC (eC .non) (aN))))))) (aN)))))) (eB gMul (eLst (aC (eC (.str "not right")) (aN))) (eC (.int 9))))))))))))))
@[irreducible] def F_law : List D → R D := runA 17 false m_law
theorem law_at (T : Tx K mg) {f : Addr} {fd : FuncData} (F : Fun K "law" "law" st_law f fd) : FnOk P w K mg base (L2.CX P w) 8 f fd ["script"] (spA K mg 1 false F_law) := by
  unfold F_law
  exact ok_A (n := 1) (N := ["script", "draws", "turn", "locks", "buckets", "told", "lock", "bucket", "states", "wrong", "second", "rows", "bad", "which", "two", "k", "one"]) (k := 7) (g := m_law) false F S_law rfl (by decide) (fun cdv A outer s H E hr => vss_cons (vs_new 1 S_law.nd (n_callU (c__law_draws T) (hr.mono (by decide)) (takes_of rfl rfl rfl rfl) rfl (va_cons (v_var 0) (va_nil))))
    (vss_cons (vs_for (b := b_law_0) (passes_of rfl) rfl (vi_range1 rfl T.b_range (va_cons (v_int) (va_nil))) (vg_name 2 S_law.nd) (vss_cons (vs_set 6 S_law.nd (v_callBU 1 (c__law_lock T) (hr.mono (by decide)) (takes_of rfl rfl rfl rfl) rfl (va_nil)))
    (vss_cons (vs_set 7 S_law.nd (v_tup (va_cons (v_op rb_add op_addA (v_int) (v_callBU 1 (c__law_take T) (hr.mono (by decide)) (takes_of rfl rfl rfl rfl) rfl (va_cons (v_int) (va_nil)))) (va_cons (v_op rb_add op_addA (v_int) (v_callBU 1 (c__law_take T) (hr.mono (by decide)) (takes_of rfl rfl rfl rfl) rfl (va_cons (v_int) (va_nil)))) (va_nil)))))
    (vss_cons (vs_if (PW.pt (vw_or (vt_not (vt_val (v_callBU 1 (c__law_is_lock_due T) (hr.mono (by decide)) (takes_of rfl rfl rfl rfl) rfl (va_cons (v_var 6) (va_nil))))) (vw_or1 (vt_not (vt_val (v_callBU 1 (c__law_is_bucket_due T) (hr.mono (by decide)) (takes_of rfl rfl rfl rfl) rfl (va_cons (v_var 7) (va_nil)))))))) (vss_one (vs_ret (v_bl))) (vss_nil))
    (vss_cons (vs_set 8 S_law.nd (v_lst (va_cons (v_non) (va_cons (v_lst (va_cons (v_int) (va_cons (v_int) (va_cons (v_bl) (va_nil))))) (va_cons (v_tup (va_cons (v_int) (va_cons (v_int) (va_nil)))) (va_cons (v_tup (va_cons (v_un ru_neg un_neg (v_int)) (va_cons (v_int) (va_cons (v_bl) (va_nil))))) (va_cons (v_tup (va_cons (v_op rb_add op_addA (v_ix rb_ix ix_seq (v_var 6) (v_int)) (v_int)) (va_cons (v_int) (va_cons (v_bl) (va_nil))))) (va_cons (v_tup (va_cons (v_int) (va_cons (v_un ru_neg un_neg (v_int)) (va_cons (v_bl) (va_nil))))) (va_cons (v_tup (va_cons (v_int) (va_cons (v_int) (va_cons (v_bl) (va_nil))))) (va_nil))))))))))
    (vss_cons (vs_set 8 S_law.nd (v_op rb_add op_addA (v_var 8) (v_lst (va_cons (v_tup (va_cons (v_ix rb_ix ix_seq (v_var 6) (v_int)) (va_cons (v_int) (va_cons (v_bl) (va_nil))))) (va_cons (v_tup (va_cons (v_int) (va_cons (v_int) (va_cons (v_int) (va_nil))))) (va_cons (v_tup (va_cons (v_bl) (va_cons (v_int) (va_cons (v_bl) (va_nil))))) (va_nil)))))))
    (vss_cons (vs_set 9 S_law.nd (v_callBU 1 (c__law_pick T) (hr.mono (by decide)) (takes_of rfl rfl rfl rfl) rfl (va_cons (v_var 8) (va_nil))))
    (vss_cons (vs_set 10 S_law.nd (v_callBU 1 (c__law_pick T) (hr.mono (by decide)) (takes_of rfl rfl rfl rfl) rfl (va_cons (v_lst (va_cons (v_un ru_neg un_neg (v_int)) (va_cons (v_non) (va_cons (v_bl) (va_cons (v_str) (va_nil)))))) (va_nil))))
    (vss_cons (vs_new 5 S_law.nd (n_lst (va_cons (v_callU (c__law_told T) (hr.mono (by decide)) (takes_of rfl rfl rfl rfl) rfl (va_cons (v_int) (va_cons (v_var 6) (va_cons (v_var 9) (va_cons (v_int) (va_cons (v_bl) (va_nil))))))) (va_cons (v_callU (c__law_told T) (hr.mono (by decide)) (takes_of rfl rfl rfl rfl) rfl (va_cons (v_int) (va_cons (v_var 6) (va_cons (v_tup (va_cons (v_int) (va_cons (v_int) (va_cons (v_bl) (va_nil))))) (va_cons (v_var 10) (va_cons (v_bl) (va_nil))))))) (va_nil)))))
    (vss_cons (vs_new 5 S_law.nd (n_op rbn_cat op_cat (v_op rb_add op_addA (v_var 5) (v_ofN (n_lc (own := [("k", 15)]) (c := tYes1) (f := f_law_0) rfl S_law.nd (vi_list (v_lst (va_cons (v_un ru_neg un_neg (v_int)) (va_cons (v_ix rb_ix ix_seq (v_var 6) (v_int)) (va_cons (v_non) (va_nil)))))) rfl (fun _ _ _ _ _ => vg_name 15 S_law.nd) (fun _ _ _ _ _ => vts_nil) (fun _ _ _ _ _ => v_callU (c__law_told T) (hr.mono (by decide)) takes0 rfl (va_cons (v_int) (va_cons (v_var 6) (va_cons (v_var 15) (va_cons (v_non) (va_cons (v_non) (va_nil)))))))))) (v_ofN (n_lc (own := [("which", 13)]) (c := tYes1) (f := f_law_1) rfl S_law.nd (vi_list (v_lst (va_cons (v_int) (va_cons (v_int) (va_nil))))) rfl (fun _ _ _ _ _ => vg_name 13 S_law.nd) (fun _ _ _ _ _ => vts_nil) (fun _ _ _ _ _ => v_callU (c__law_told T) (hr.mono (by decide)) takes0 rfl (va_cons (v_var 13) (va_cons (v_var 6) (va_cons (v_var 10) (va_cons (v_non) (va_cons (v_non) (va_nil)))))))))))
    (vss_cons (vs_set 11 S_law.nd (v_lst (va_cons (v_non) (va_cons (v_tup (va_cons (v_tup (va_cons (v_int) (va_cons (v_bl) (va_nil)))) (va_nil))) (va_cons (v_lst (va_cons (v_tup (va_cons (v_int) (va_nil))) (va_nil))) (va_cons (v_lst (va_cons (v_tup (va_cons (v_int) (va_cons (v_bl) (va_nil)))) (va_cons (v_tup (va_cons (v_int) (va_cons (v_bl) (va_nil)))) (va_nil)))) (va_cons (v_lst (va_cons (v_tup (va_cons (v_un ru_neg un_neg (v_int)) (va_cons (v_bl) (va_nil)))) (va_nil))) (va_cons (v_lst (va_cons (v_tup (va_cons (v_int) (va_cons (v_int) (va_nil)))) (va_nil))) (va_cons (v_lst (va_cons (v_lst (va_cons (v_int) (va_cons (v_bl) (va_nil)))) (va_nil))) (va_nil))))))))))
    (vss_cons (vs_append 5 (v_callU (c__law_told T) (hr.mono (by decide)) (takes_of rfl rfl rfl rfl) rfl (va_cons (v_int) (va_cons (v_var 6) (va_cons (v_callBU 1 (c__law_pick T) (hr.mono (by decide)) (takes_of rfl rfl rfl rfl) rfl (va_cons (v_var 11) (va_nil))) (va_cons (v_non) (va_cons (v_non) (va_nil))))))))
    (vss_cons (vs_set 11 S_law.nd (v_lst (va_cons (v_non) (va_cons (v_tup (va_cons (v_int) (va_nil))) (va_cons (v_lst (va_cons (v_int) (va_cons (v_int) (va_nil)))) (va_cons (v_lst (va_cons (v_un ru_neg un_neg (v_int)) (va_nil))) (va_cons (v_lst (va_cons (v_bl) (va_nil))) (va_cons (v_lst (va_cons (v_str) (va_nil))) (va_nil)))))))))
    (vss_cons (vs_set 12 S_law.nd (v_callBU 1 (c__law_pick T) (hr.mono (by decide)) (takes_of rfl rfl rfl rfl) rfl (va_cons (v_var 11) (va_nil))))
    (vss_cons (vs_new 5 S_law.nd (n_op rbn_cat op_cat (v_var 5) (v_lst (va_cons (v_callU (c__law_told T) (hr.mono (by decide)) (takes_of rfl rfl rfl rfl) rfl (va_cons (v_int) (va_cons (v_var 7) (va_cons (v_var 12) (va_cons (v_non) (va_cons (v_non) (va_nil))))))) (va_cons (v_callU (c__law_told T) (hr.mono (by decide)) (takes_of rfl rfl rfl rfl) rfl (va_cons (v_int) (va_cons (v_var 7) (va_cons (v_var 12) (va_cons (v_int) (va_cons (v_non) (va_nil))))))) (va_nil))))))
    (vss_cons (vs_new 5 S_law.nd (n_op rbn_cat op_cat (v_var 5) (v_lst (va_cons (v_callU (c__law_told T) (hr.mono (by decide)) (takes_of rfl rfl rfl rfl) rfl (va_cons (v_int) (va_cons (v_var 7) (va_cons (v_lst (va_cons (v_int) (va_nil))) (va_cons (v_int) (va_cons (v_non) (va_nil))))))) (va_cons (v_callU (c__law_told T) (hr.mono (by decide)) (takes_of rfl rfl rfl rfl) rfl (va_cons (v_int) (va_cons (v_var 7) (va_cons (v_lst (va_nil)) (va_cons (v_var 10) (va_cons (v_non) (va_nil))))))) (va_nil))))))
    (vss_cons (vs_append 5 (v_callU (c__law_told T) (hr.mono (by decide)) (takes_of rfl rfl rfl rfl) rfl (va_cons (v_int) (va_cons (v_var 7) (va_cons (v_var 10) (va_cons (v_non) (va_cons (v_non) (va_nil))))))))
    (vss_one (vs_if (PW.pt (vw_or (vt_cmp rb_ne (op_neA hr.hu) (nomark _) (v_var 5) (v_op rb_mul op_mulA (v_lst (va_cons (v_str) (va_nil))) (v_int))) (vw_or1 (vt_cmp rb_notB op_isnot_bl (nomark _) (v_callU (c__law_told T) (hr.mono (by decide)) (takes_of rfl rfl rfl rfl) rfl (va_cons (v_int) (va_cons (v_var 6) (va_cons (v_var 9) (va_cons (v_non) (va_cons (v_non) (va_nil))))))) (v_bl))))) (vss_one (vs_ret (v_bl))) (vss_nil))))))))))))))))))))
    (vss_cons (vs_set 3 S_law.nd (v_lst (va_cons (v_non) (va_cons (v_tup (va_nil)) (va_cons (v_lst (va_cons (v_int) (va_cons (v_int) (va_cons (v_int) (va_cons (v_int) (va_nil)))))) (va_cons (v_tup (va_cons (v_int) (va_cons (v_int) (va_cons (v_int) (va_nil))))) (va_cons (v_tup (va_cons (v_un ru_neg un_neg (v_int)) (va_cons (v_int) (va_cons (v_int) (va_cons (v_int) (va_nil)))))) (va_cons (v_tup (va_cons (v_int) (va_cons (v_int) (va_cons (v_int) (va_cons (v_int) (va_nil)))))) (va_cons (v_tup (va_cons (v_int) (va_cons (v_int) (va_cons (v_int) (va_cons (v_int) (va_nil)))))) (va_cons (v_tup (va_cons (v_int) (va_cons (v_int) (va_cons (v_int) (va_cons (v_int) (va_nil)))))) (va_nil)))))))))))
    (vss_cons (vs_set 3 S_law.nd (v_op rb_add op_addA (v_var 3) (v_lst (va_cons (v_tup (va_cons (v_int) (va_cons (v_int) (va_cons (v_int) (va_cons (v_int) (va_nil)))))) (va_cons (v_tup (va_cons (v_int) (va_cons (v_int) (va_cons (v_int) (va_cons (v_int) (va_nil)))))) (va_cons (v_tup (va_cons (v_int) (va_cons (v_int) (va_cons (v_int) (va_cons (v_int) (va_nil)))))) (va_nil)))))))
    (vss_cons (vs_set 3 S_law.nd (v_op rb_add op_addA (v_var 3) (v_lst (va_cons (v_tup (va_cons (v_int) (va_cons (v_int) (va_cons (v_int) (va_cons (v_int) (va_nil)))))) (va_cons (v_tup (va_cons (v_bl) (va_cons (v_int) (va_cons (v_int) (va_cons (v_int) (va_nil)))))) (va_nil))))))
    (vss_cons (vs_set 4 S_law.nd (v_lst (va_cons (v_non) (va_cons (v_tup (va_cons (v_int) (va_nil))) (va_cons (v_lst (va_cons (v_int) (va_cons (v_int) (va_nil)))) (va_cons (v_tup (va_cons (v_int) (va_cons (v_int) (va_nil)))) (va_cons (v_tup (va_cons (v_int) (va_cons (v_int) (va_nil)))) (va_cons (v_tup (va_cons (v_int) (va_cons (v_int) (va_nil)))) (va_cons (v_tup (va_cons (v_int) (va_cons (v_int) (va_nil)))) (va_cons (v_tup (va_cons (v_bl) (va_cons (v_int) (va_nil)))) (va_nil)))))))))))
    (vss_cons (vs_if (vt_not (vt_val (v_callU (c__law_same T 4) (hr.mono (by decide)) (takes_of rfl rfl rfl rfl) rfl (va_cons (v_op rb_add op_addA (v_ofN (n_lc (own := [("one", 16)]) (c := tYes1) (f := f_law_2) rfl S_law.nd (vi_list (v_var 3)) rfl (fun _ _ _ _ _ => vg_name 16 S_law.nd) (fun _ _ _ _ _ => vts_nil) (fun _ _ _ _ _ => v_callU (c__law_told T) (hr.mono (by decide)) takes0 rfl (va_cons (v_int) (va_cons (v_var 16) (va_cons (v_non) (va_cons (v_non) (va_cons (v_non) (va_nil))))))))) (v_ofN (n_lc (own := [("one", 16)]) (c := tYes1) (f := f_law_3) rfl S_law.nd (vi_list (v_var 4)) rfl (fun _ _ _ _ _ => vg_name 16 S_law.nd) (fun _ _ _ _ _ => vts_nil) (fun _ _ _ _ _ => v_callU (c__law_told T) (hr.mono (by decide)) takes0 rfl (va_cons (v_int) (va_cons (v_var 16) (va_cons (v_non) (va_cons (v_non) (va_cons (v_non) (va_nil)))))))))) (va_cons (v_op rb_mul op_mulA (v_lst (va_cons (v_bl) (va_nil))) (v_int)) (va_nil)))))) (vss_one (vs_ret (v_bl))) (vss_nil))
    (vss_cons (vs_asg (v_tup (va_cons (v_callBU 1 (c__law_pick T) (hr.mono (by decide)) (takes_of rfl rfl rfl rfl) rfl (va_cons (v_var 3) (va_nil))) (va_cons (v_callBU 1 (c__law_pick T) (hr.mono (by decide)) (takes_of rfl rfl rfl rfl) rfl (va_cons (v_var 4) (va_nil))) (va_nil)))) (vg_tup rfl (vgs_cons (vg_name 6 S_law.nd) (vgs_cons (vg_name 7 S_law.nd) (vgs_nil)))))
    (vss_cons (vs_newLc (own := [("which", 13), ("two", 14)]) (c := tYes1) (f := f_law_4) 5 rfl S_law.nd (vi_list (v_lst (va_cons (v_tup (va_cons (v_int) (va_cons (v_tup (va_cons (v_int) (va_cons (v_int) (va_cons (v_bl) (va_nil))))) (va_nil)))) (va_cons (v_tup (va_cons (v_int) (va_cons (v_int) (va_nil)))) (va_cons (v_tup (va_cons (v_int) (va_cons (v_lst (va_nil)) (va_nil)))) (va_cons (v_tup (va_cons (v_int) (va_cons (v_int) (va_nil)))) (va_cons (v_tup (va_cons (v_int) (va_cons (v_int) (va_nil)))) (va_nil)))))))) rfl (fun _ _ _ _ _ => vg_tup rfl (vgs_cons (vg_name 13 S_law.nd) (vgs_cons (vg_name 14 S_law.nd) (vgs_nil)))) (fun _ _ _ _ _ => vts_nil) (fun _ _ _ _ _ => v_callU (c__law_told T) (hr.mono (by decide)) takes0 rfl (va_cons (v_var 13) (va_cons (v_var 6) (va_cons (v_var 14) (va_cons (v_non) (va_cons (v_non) (va_nil))))))) (sw_true rfl rfl rfl (by decide +kernel)))
    (vss_cons (vs_append 5 (v_callU (c__law_told T) (hr.mono (by decide)) (takes_of rfl rfl rfl rfl) rfl (va_cons (v_int) (va_cons (v_var 6) (va_cons (v_tup (va_cons (v_int) (va_cons (v_int) (va_cons (v_bl) (va_nil))))) (va_cons (v_int) (va_cons (v_bl) (va_nil))))))))
    (vss_one (vs_ret (v_cmp rb_eq (op_eqA hr.hu) (nomark _) (v_op rb_add op_addA (v_var 5) (v_lst (va_cons (v_callU (c__law_told T) (hr.mono (by decide)) (takes_of rfl rfl rfl rfl) rfl (va_cons (v_int) (va_cons (v_var 7) (va_cons (v_lst (va_nil)) (va_cons (v_non) (va_cons (v_non) (va_nil))))))) (va_cons (v_callU (c__law_told T) (hr.mono (by decide)) (takes_of rfl rfl rfl rfl) rfl (va_cons (v_int) (va_cons (v_var 7) (va_cons (v_int) (va_cons (v_non) (va_cons (v_non) (va_nil))))))) (va_cons (v_callU (c__law_told T) (hr.mono (by decide)) (takes_of rfl rfl rfl rfl) rfl (va_cons (v_int) (va_cons (v_var 7) (va_cons (v_lst (va_nil)) (va_cons (v_int) (va_cons (v_non) (va_nil))))))) (va_nil)))))) (v_op rb_mul op_mulA (v_lst (va_cons (v_str) (va_nil))) (v_int)))))))))))))))
end
/-! ### the head -/
def dd__law_draws : He.DefD := ⟨("_law_draws", none), "_law_draws", "_law_draws", defArgs st__law_draws, defBody st__law_draws, defScope st__law_draws, [], []⟩
def dd__law_take : He.DefD := ⟨("_law_take", none), "_law_take", "_law_take", defArgs st__law_take, defBody st__law_take, defScope st__law_take, [], []⟩
def dd__law_pick : He.DefD := ⟨("_law_pick", none), "_law_pick", "_law_pick", defArgs st__law_pick, defBody st__law_pick, defScope st__law_pick, [], []⟩
def dd__law_same : He.DefD := ⟨("_law_same", none), "_law_same", "_law_same", defArgs st__law_same, defBody st__law_same, defScope st__law_same, [], []⟩
def dd__law_lock : He.DefD := ⟨("_law_lock", none), "_law_lock", "_law_lock", defArgs st__law_lock, defBody st__law_lock, defScope st__law_lock, [], []⟩
def dd_is_integer : He.DefD := ⟨("is_integer", none), "is_integer", "is_integer", defArgs st_is_integer, defBody st_is_integer, defScope st_is_integer, [], []⟩
def dd_is_within : He.DefD := ⟨("is_within", none), "is_within", "is_within", defArgs st_is_within, defBody st_is_within, defScope st_is_within, [], []⟩
def dd_is_lock : He.DefD := ⟨("is_lock", none), "is_lock", "is_lock", defArgs st_is_lock, defBody st_is_lock, defScope st_is_lock, [], []⟩
def dd_is_bucket : He.DefD := ⟨("is_bucket", none), "is_bucket", "is_bucket", defArgs st_is_bucket, defBody st_is_bucket, defScope st_is_bucket, [], []⟩
def dd_check : He.DefD := ⟨("check", none), "check", "check", defArgs st_check, defBody st_check, defScope st_check, [], []⟩
def dd_check_lock : He.DefD := ⟨("check_lock", none), "check_lock", "check_lock", defArgs st_check_lock, defBody st_check_lock, defScope st_check_lock, [], []⟩
def dd_is_count : He.DefD := ⟨("is_count", none), "is_count", "is_count", defArgs st_is_count, defBody st_is_count, defScope st_is_count, [], []⟩
def dd_is_state_by : He.DefD := ⟨("is_state_by", none), "is_state_by", "is_state_by", defArgs st_is_state_by, defBody st_is_state_by, defScope st_is_state_by, [], []⟩
def dd_is_state : He.DefD := ⟨("is_state", none), "is_state", "is_state", defArgs st_is_state, defBody st_is_state, defScope st_is_state, [], []⟩
def dd_power : He.DefD := ⟨("power", none), "power", "power", defArgs st_power, defBody st_power, defScope st_power, [], []⟩
def dd_wait_by : He.DefD := ⟨("wait_by", none), "wait_by", "wait_by", defArgs st_wait_by, defBody st_wait_by, defScope st_wait_by, [], []⟩
def dd_wait_of : He.DefD := ⟨("wait_of", none), "wait_of", "wait_of", defArgs st_wait_of, defBody st_wait_of, defScope st_wait_of, [], []⟩
def dd_tried_by : He.DefD := ⟨("tried_by", none), "tried_by", "tried_by", defArgs st_tried_by, defBody st_tried_by, defScope st_tried_by, [], []⟩
def dd_tried : He.DefD := ⟨("tried", none), "tried", "tried", defArgs st_tried, defBody st_tried, defScope st_tried, [], []⟩
def dd_is_sorted : He.DefD := ⟨("is_sorted", none), "is_sorted", "is_sorted", defArgs st_is_sorted, defBody st_is_sorted, defScope st_is_sorted, [], []⟩
def dd_is_try : He.DefD := ⟨("is_try", none), "is_try", "is_try", defArgs st_is_try, defBody st_is_try, defScope st_is_try, [], []⟩
def dd_heard : He.DefD := ⟨("heard", none), "heard", "heard", defArgs st_heard, defBody st_heard, defScope st_heard, [], []⟩
def dd_times_by : He.DefD := ⟨("times_by", none), "times_by", "times_by", defArgs st_times_by, defBody st_times_by, defScope st_times_by, [], []⟩
def dd_most_tries : He.DefD := ⟨("most_tries", none), "most_tries", "most_tries", defArgs st_most_tries, defBody st_most_tries, defScope st_most_tries, [], []⟩
def dd_time_for : He.DefD := ⟨("time_for", none), "time_for", "time_for", defArgs st_time_for, defBody st_time_for, defScope st_time_for, [], []⟩
def dd_check_bucket : He.DefD := ⟨("check_bucket", none), "check_bucket", "check_bucket", defArgs st_check_bucket, defBody st_check_bucket, defScope st_check_bucket, [], []⟩
def dd_gone_through : He.DefD := ⟨("gone_through", none), "gone_through", "gone_through", defArgs st_gone_through, defBody st_gone_through, defScope st_gone_through, [], []⟩
def dd_check_tries : He.DefD := ⟨("check_tries", none), "check_tries", "check_tries", defArgs st_check_tries, defBody st_check_tries, defScope st_check_tries, [], []⟩
def dd_drops_at : He.DefD := ⟨("drops_at", none), "drops_at", "drops_at", defArgs st_drops_at, defBody st_drops_at, defScope st_drops_at, [], []⟩
def dd_bucket_heard : He.DefD := ⟨("bucket_heard", none), "bucket_heard", "bucket_heard", defArgs st_bucket_heard, defBody st_bucket_heard, defScope st_bucket_heard, [], []⟩
def dd_most_from : He.DefD := ⟨("most_from", none), "most_from", "most_from", defArgs st_most_from, defBody st_most_from, defScope st_most_from, [], []⟩
def dd__law_told : He.DefD := ⟨("_law_told", none), "_law_told", "_law_told", defArgs st__law_told, defBody st__law_told, defScope st__law_told, [], []⟩
def dd__law_wait : He.DefD := ⟨("_law_wait", none), "_law_wait", "_law_wait", defArgs st__law_wait, defBody st__law_wait, defScope st__law_wait, [], []⟩
def dd__law_try : He.DefD := ⟨("_law_try", none), "_law_try", "_law_try", defArgs st__law_try, defBody st__law_try, defScope st__law_try, [], []⟩
def dd__law_heard : He.DefD := ⟨("_law_heard", none), "_law_heard", "_law_heard", defArgs st__law_heard, defBody st__law_heard, defScope st__law_heard, [], []⟩
def dd__law_seconds : He.DefD := ⟨("_law_seconds", none), "_law_seconds", "_law_seconds", defArgs st__law_seconds, defBody st__law_seconds, defScope st__law_seconds, [], []⟩
def dd__law_is_lock_due : He.DefD := ⟨("_law_is_lock_due", none), "_law_is_lock_due", "_law_is_lock_due", defArgs st__law_is_lock_due, defBody st__law_is_lock_due, defScope st__law_is_lock_due, [], []⟩
def dd__law_drops : He.DefD := ⟨("_law_drops", none), "_law_drops", "_law_drops", defArgs st__law_drops, defBody st__law_drops, defScope st__law_drops, [], []⟩
def dd__law_is_bucket_due : He.DefD := ⟨("_law_is_bucket_due", none), "_law_is_bucket_due", "_law_is_bucket_due", defArgs st__law_is_bucket_due, defBody st__law_is_bucket_due, defScope st__law_is_bucket_due, [], []⟩
def dd_law : He.DefD := ⟨("law", none), "law", "law", defArgs st_law, defBody st_law, defScope st_law, [], []⟩
def fnL : List He.DefD := [dd__law_draws, dd__law_take, dd__law_pick, dd__law_same, dd__law_lock, dd_is_integer, dd_is_within, dd_is_lock, dd_is_bucket, dd_check, dd_check_lock, dd_is_count, dd_is_state_by, dd_is_state, dd_power, dd_wait_by, dd_wait_of, dd_tried_by, dd_tried, dd_is_sorted, dd_is_try, dd_heard, dd_times_by, dd_most_tries, dd_time_for, dd_check_bucket, dd_gone_through, dd_check_tries, dd_drops_at, dd_bucket_heard, dd_most_from, dd__law_told, dd__law_wait, dd__law_try, dd__law_heard, dd__law_seconds, dd__law_is_lock_due, dd__law_drops, dd__law_is_bucket_due, dd_law]
def ckL : List (PySem.W.Frag → Bool) := [ckKit "NotRight" "NotRight" true, ckExc "NotRight"]
def faL : List He.Fa := [.glo "_law_draws", .glo "_law_take", .glo "_law_pick", .glo "_law_same", .glo "_law_lock", .glo "is_integer", .glo "is_within", .glo "is_lock", .glo "is_bucket", .glo "check", .glo "check_lock", .glo "is_count", .glo "is_state_by", .glo "is_state", .glo "power", .glo "wait_by", .glo "wait_of", .glo "tried_by", .glo "tried", .glo "is_sorted", .glo "is_try", .glo "heard", .glo "times_by", .glo "most_tries", .glo "time_for", .glo "check_bucket", .glo "gone_through", .glo "check_tries", .glo "drops_at", .glo "bucket_heard", .glo "most_from", .glo "_law_told", .glo "_law_wait", .glo "_law_try", .glo "_law_heard", .glo "_law_seconds", .glo "_law_is_lock_due", .glo "_law_drops", .glo "_law_is_bucket_due", .glo "law", .free "abs", .free "all", .free "bool", .free "dict", .free "int", .free "isinstance", .free "len", .free "list", .free "max", .free "min", .free "range", .free "reversed", .free "str", .free "tuple", .free "zip", .int "LONGEST" 1000000, .int "MOST_DROPS" 1000, .int "MOST_EACH" 100000, .int "MOST_FIRST" 1000, .int "MOST_FREE" 20, .int "MOST_WRONG" 200, .exc "NotRight", .glo "NotRight", .glo "CodeError", .glo "NotRight", .exm "NotRight" "CodeError" true]
theorem tx_of {K : PySem.W.Frag} {h : Heap} {mg : Str → Option Value} (X : K.In h) (G : h.Ns mainGlobals mg) (c : He.SaysD faL fnL K) (ck : ckAll ckL K = true) : Tx K mg :=
  {
    d__law_draws := by
      obtain ⟨fd, F⟩ := c.def_ 0 (d := dd__law_draws) rfl
      exact ⟨_, fd, He5.fun_of (st := st__law_draws) F, He.glo_ok X G (c.fact 0 (f := .glo "_law_draws") rfl), F.kp, FunD.bindsN F fun _ _ _ _ _ _ us hl => match us, hl with | [_], _ => rfl⟩
    d__law_take := by
      obtain ⟨fd, F⟩ := c.def_ 1 (d := dd__law_take) rfl
      exact ⟨_, fd, He5.fun_of (st := st__law_take) F, He.glo_ok X G (c.fact 1 (f := .glo "_law_take") rfl), F.kp, FunD.bindsN F fun _ _ _ _ _ _ us hl => match us, hl with | [_, _], _ => rfl⟩
    d__law_pick := by
      obtain ⟨fd, F⟩ := c.def_ 2 (d := dd__law_pick) rfl
      exact ⟨_, fd, He5.fun_of (st := st__law_pick) F, He.glo_ok X G (c.fact 2 (f := .glo "_law_pick") rfl), F.kp, FunD.bindsN F fun _ _ _ _ _ _ us hl => match us, hl with | [_, _], _ => rfl⟩
    d__law_same := by
      obtain ⟨fd, F⟩ := c.def_ 3 (d := dd__law_same) rfl
      exact ⟨_, fd, He5.fun_of (st := st__law_same) F, He.glo_ok X G (c.fact 3 (f := .glo "_law_same") rfl), F.kp, FunD.bindsN F fun _ _ _ _ _ _ us hl => match us, hl with | [_, _], _ => rfl⟩
    d__law_lock := by
      obtain ⟨fd, F⟩ := c.def_ 4 (d := dd__law_lock) rfl
      exact ⟨_, fd, He5.fun_of (st := st__law_lock) F, He.glo_ok X G (c.fact 4 (f := .glo "_law_lock") rfl), F.kp, FunD.bindsN F fun _ _ _ _ _ _ us hl => match us, hl with | [_], _ => rfl⟩
    d_is_integer := by
      obtain ⟨fd, F⟩ := c.def_ 5 (d := dd_is_integer) rfl
      exact ⟨_, fd, He5.fun_of (st := st_is_integer) F, He.glo_ok X G (c.fact 5 (f := .glo "is_integer") rfl), F.kp, FunD.bindsN F fun _ _ _ _ _ _ us hl => match us, hl with | [_], _ => rfl⟩
    d_is_within := by
      obtain ⟨fd, F⟩ := c.def_ 6 (d := dd_is_within) rfl
      exact ⟨_, fd, He5.fun_of (st := st_is_within) F, He.glo_ok X G (c.fact 6 (f := .glo "is_within") rfl), F.kp, FunD.bindsN F fun _ _ _ _ _ _ us hl => match us, hl with | [_, _, _], _ => rfl⟩
    d_is_lock := by
      obtain ⟨fd, F⟩ := c.def_ 7 (d := dd_is_lock) rfl
      exact ⟨_, fd, He5.fun_of (st := st_is_lock) F, He.glo_ok X G (c.fact 7 (f := .glo "is_lock") rfl), F.kp, FunD.bindsN F fun _ _ _ _ _ _ us hl => match us, hl with | [_], _ => rfl⟩
    d_is_bucket := by
      obtain ⟨fd, F⟩ := c.def_ 8 (d := dd_is_bucket) rfl
      exact ⟨_, fd, He5.fun_of (st := st_is_bucket) F, He.glo_ok X G (c.fact 8 (f := .glo "is_bucket") rfl), F.kp, FunD.bindsN F fun _ _ _ _ _ _ us hl => match us, hl with | [_], _ => rfl⟩
    d_check := by
      obtain ⟨fd, F⟩ := c.def_ 9 (d := dd_check) rfl
      exact ⟨_, fd, He5.fun_of (st := st_check) F, He.glo_ok X G (c.fact 9 (f := .glo "check") rfl), F.kp, FunD.bindsN F fun _ _ _ _ _ _ us hl => match us, hl with | [_], _ => rfl⟩
    d_check_lock := by
      obtain ⟨fd, F⟩ := c.def_ 10 (d := dd_check_lock) rfl
      exact ⟨_, fd, He5.fun_of (st := st_check_lock) F, He.glo_ok X G (c.fact 10 (f := .glo "check_lock") rfl), F.kp, FunD.bindsN F fun _ _ _ _ _ _ us hl => match us, hl with | [_], _ => rfl⟩
    d_is_count := by
      obtain ⟨fd, F⟩ := c.def_ 11 (d := dd_is_count) rfl
      exact ⟨_, fd, He5.fun_of (st := st_is_count) F, He.glo_ok X G (c.fact 11 (f := .glo "is_count") rfl), F.kp, FunD.bindsN F fun _ _ _ _ _ _ us hl => match us, hl with | [_], _ => rfl⟩
    d_is_state_by := by
      obtain ⟨fd, F⟩ := c.def_ 12 (d := dd_is_state_by) rfl
      exact ⟨_, fd, He5.fun_of (st := st_is_state_by) F, He.glo_ok X G (c.fact 12 (f := .glo "is_state_by") rfl), F.kp, FunD.bindsN F fun _ _ _ _ _ _ us hl => match us, hl with | [_, _], _ => rfl⟩
    d_is_state := by
      obtain ⟨fd, F⟩ := c.def_ 13 (d := dd_is_state) rfl
      exact ⟨_, fd, He5.fun_of (st := st_is_state) F, He.glo_ok X G (c.fact 13 (f := .glo "is_state") rfl), F.kp, FunD.bindsN F fun _ _ _ _ _ _ us hl => match us, hl with | [_, _], _ => rfl⟩
    d_power := by
      obtain ⟨fd, F⟩ := c.def_ 14 (d := dd_power) rfl
      exact ⟨_, fd, He5.fun_of (st := st_power) F, He.glo_ok X G (c.fact 14 (f := .glo "power") rfl), F.kp, FunD.bindsN F fun _ _ _ _ _ _ us hl => match us, hl with | [_, _], _ => rfl⟩
    d_wait_by := by
      obtain ⟨fd, F⟩ := c.def_ 15 (d := dd_wait_by) rfl
      exact ⟨_, fd, He5.fun_of (st := st_wait_by) F, He.glo_ok X G (c.fact 15 (f := .glo "wait_by") rfl), F.kp, FunD.bindsN F fun _ _ _ _ _ _ us hl => match us, hl with | [_, _], _ => rfl⟩
    d_wait_of := by
      obtain ⟨fd, F⟩ := c.def_ 16 (d := dd_wait_of) rfl
      exact ⟨_, fd, He5.fun_of (st := st_wait_of) F, He.glo_ok X G (c.fact 16 (f := .glo "wait_of") rfl), F.kp, FunD.bindsN F fun _ _ _ _ _ _ us hl => match us, hl with | [_, _], _ => rfl⟩
    d_tried_by := by
      obtain ⟨fd, F⟩ := c.def_ 17 (d := dd_tried_by) rfl
      exact ⟨_, fd, He5.fun_of (st := st_tried_by) F, He.glo_ok X G (c.fact 17 (f := .glo "tried_by") rfl), F.kp, FunD.bindsN F fun _ _ _ _ _ _ us hl => match us, hl with | [_, _, _, _], _ => rfl⟩
    d_tried := by
      obtain ⟨fd, F⟩ := c.def_ 18 (d := dd_tried) rfl
      exact ⟨_, fd, He5.fun_of (st := st_tried) F, He.glo_ok X G (c.fact 18 (f := .glo "tried") rfl), F.kp, FunD.bindsN F fun _ _ _ _ _ _ us hl => match us, hl with | [_, _, _, _], _ => rfl⟩
    d_is_sorted := by
      obtain ⟨fd, F⟩ := c.def_ 19 (d := dd_is_sorted) rfl
      exact ⟨_, fd, He5.fun_of (st := st_is_sorted) F, He.glo_ok X G (c.fact 19 (f := .glo "is_sorted") rfl), F.kp, FunD.bindsN F fun _ _ _ _ _ _ us hl => match us, hl with | [_], _ => rfl⟩
    d_is_try := by
      obtain ⟨fd, F⟩ := c.def_ 20 (d := dd_is_try) rfl
      exact ⟨_, fd, He5.fun_of (st := st_is_try) F, He.glo_ok X G (c.fact 20 (f := .glo "is_try") rfl), F.kp, FunD.bindsN F fun _ _ _ _ _ _ us hl => match us, hl with | [_], _ => rfl⟩
    d_heard := by
      obtain ⟨fd, F⟩ := c.def_ 21 (d := dd_heard) rfl
      exact ⟨_, fd, He5.fun_of (st := st_heard) F, He.glo_ok X G (c.fact 21 (f := .glo "heard") rfl), F.kp, FunD.bindsN F fun _ _ _ _ _ _ us hl => match us, hl with | [_, _], _ => rfl⟩
    d_times_by := by
      obtain ⟨fd, F⟩ := c.def_ 22 (d := dd_times_by) rfl
      exact ⟨_, fd, He5.fun_of (st := st_times_by) F, He.glo_ok X G (c.fact 22 (f := .glo "times_by") rfl), F.kp, FunD.bindsN F fun _ _ _ _ _ _ us hl => match us, hl with | [_], _ => rfl⟩
    d_most_tries := by
      obtain ⟨fd, F⟩ := c.def_ 23 (d := dd_most_tries) rfl
      exact ⟨_, fd, He5.fun_of (st := st_most_tries) F, He.glo_ok X G (c.fact 23 (f := .glo "most_tries") rfl), F.kp, FunD.bindsN F fun _ _ _ _ _ _ us hl => match us, hl with | [_, _], _ => rfl⟩
    d_time_for := by
      obtain ⟨fd, F⟩ := c.def_ 24 (d := dd_time_for) rfl
      exact ⟨_, fd, He5.fun_of (st := st_time_for) F, He.glo_ok X G (c.fact 24 (f := .glo "time_for") rfl), F.kp, FunD.bindsN F fun _ _ _ _ _ _ us hl => match us, hl with | [_, _], _ => rfl⟩
    d_check_bucket := by
      obtain ⟨fd, F⟩ := c.def_ 25 (d := dd_check_bucket) rfl
      exact ⟨_, fd, He5.fun_of (st := st_check_bucket) F, He.glo_ok X G (c.fact 25 (f := .glo "check_bucket") rfl), F.kp, FunD.bindsN F fun _ _ _ _ _ _ us hl => match us, hl with | [_], _ => rfl⟩
    d_gone_through := by
      obtain ⟨fd, F⟩ := c.def_ 26 (d := dd_gone_through) rfl
      exact ⟨_, fd, He5.fun_of (st := st_gone_through) F, He.glo_ok X G (c.fact 26 (f := .glo "gone_through") rfl), F.kp, FunD.bindsN F fun _ _ _ _ _ _ us hl => match us, hl with | [_, _], _ => rfl⟩
    d_check_tries := by
      obtain ⟨fd, F⟩ := c.def_ 27 (d := dd_check_tries) rfl
      exact ⟨_, fd, He5.fun_of (st := st_check_tries) F, He.glo_ok X G (c.fact 27 (f := .glo "check_tries") rfl), F.kp, FunD.bindsN F fun _ _ _ _ _ _ us hl => match us, hl with | [_], _ => rfl⟩
    d_drops_at := by
      obtain ⟨fd, F⟩ := c.def_ 28 (d := dd_drops_at) rfl
      exact ⟨_, fd, He5.fun_of (st := st_drops_at) F, He.glo_ok X G (c.fact 28 (f := .glo "drops_at") rfl), F.kp, FunD.bindsN F fun _ _ _ _ _ _ us hl => match us, hl with | [_, _, _], _ => rfl⟩
    d_bucket_heard := by
      obtain ⟨fd, F⟩ := c.def_ 29 (d := dd_bucket_heard) rfl
      exact ⟨_, fd, He5.fun_of (st := st_bucket_heard) F, He.glo_ok X G (c.fact 29 (f := .glo "bucket_heard") rfl), F.kp, FunD.bindsN F fun _ _ _ _ _ _ us hl => match us, hl with | [_, _], _ => rfl⟩
    d_most_from := by
      obtain ⟨fd, F⟩ := c.def_ 30 (d := dd_most_from) rfl
      exact ⟨_, fd, He5.fun_of (st := st_most_from) F, He.glo_ok X G (c.fact 30 (f := .glo "most_from") rfl), F.kp, FunD.bindsN F fun _ _ _ _ _ _ us hl => match us, hl with | [_, _], _ => rfl⟩
    d__law_told := by
      obtain ⟨fd, F⟩ := c.def_ 31 (d := dd__law_told) rfl
      exact ⟨_, fd, He5.fun_of (st := st__law_told) F, He.glo_ok X G (c.fact 31 (f := .glo "_law_told") rfl), F.kp, FunD.bindsN F fun _ _ _ _ _ _ us hl => match us, hl with | [_, _, _, _, _], _ => rfl⟩
    d__law_wait := by
      obtain ⟨fd, F⟩ := c.def_ 32 (d := dd__law_wait) rfl
      exact ⟨_, fd, He5.fun_of (st := st__law_wait) F, He.glo_ok X G (c.fact 32 (f := .glo "_law_wait") rfl), F.kp, FunD.bindsN F fun _ _ _ _ _ _ us hl => match us, hl with | [_, _], _ => rfl⟩
    d__law_try := by
      obtain ⟨fd, F⟩ := c.def_ 33 (d := dd__law_try) rfl
      exact ⟨_, fd, He5.fun_of (st := st__law_try) F, He.glo_ok X G (c.fact 33 (f := .glo "_law_try") rfl), F.kp, FunD.bindsN F fun _ _ _ _ _ _ us hl => match us, hl with | [_, _, _, _], _ => rfl⟩
    d__law_heard := by
      obtain ⟨fd, F⟩ := c.def_ 34 (d := dd__law_heard) rfl
      exact ⟨_, fd, He5.fun_of (st := st__law_heard) F, He.glo_ok X G (c.fact 34 (f := .glo "_law_heard") rfl), F.kp, FunD.bindsN F fun _ _ _ _ _ _ us hl => match us, hl with | [_, _], _ => rfl⟩
    d__law_seconds := by
      obtain ⟨fd, F⟩ := c.def_ 35 (d := dd__law_seconds) rfl
      exact ⟨_, fd, He5.fun_of (st := st__law_seconds) F, He.glo_ok X G (c.fact 35 (f := .glo "_law_seconds") rfl), F.kp, FunD.bindsN F fun _ _ _ _ _ _ us hl => match us, hl with | [_, _, _], _ => rfl⟩
    d__law_is_lock_due := by
      obtain ⟨fd, F⟩ := c.def_ 36 (d := dd__law_is_lock_due) rfl
      exact ⟨_, fd, He5.fun_of (st := st__law_is_lock_due) F, He.glo_ok X G (c.fact 36 (f := .glo "_law_is_lock_due") rfl), F.kp, FunD.bindsN F fun _ _ _ _ _ _ us hl => match us, hl with | [_, _], _ => rfl⟩
    d__law_drops := by
      obtain ⟨fd, F⟩ := c.def_ 37 (d := dd__law_drops) rfl
      exact ⟨_, fd, He5.fun_of (st := st__law_drops) F, He.glo_ok X G (c.fact 37 (f := .glo "_law_drops") rfl), F.kp, FunD.bindsN F fun _ _ _ _ _ _ us hl => match us, hl with | [_, _, _], _ => rfl⟩
    d__law_is_bucket_due := by
      obtain ⟨fd, F⟩ := c.def_ 38 (d := dd__law_is_bucket_due) rfl
      exact ⟨_, fd, He5.fun_of (st := st__law_is_bucket_due) F, He.glo_ok X G (c.fact 38 (f := .glo "_law_is_bucket_due") rfl), F.kp, FunD.bindsN F fun _ _ _ _ _ _ us hl => match us, hl with | [_, _], _ => rfl⟩
    d_law := by
      obtain ⟨fd, F⟩ := c.def_ 39 (d := dd_law) rfl
      exact ⟨_, fd, He5.fun_of (st := st_law) F, He.glo_ok X G (c.fact 39 (f := .glo "law") rfl), F.kp, FunD.bindsN F fun _ _ _ _ _ _ us hl => match us, hl with | [_], _ => rfl⟩
    b_abs := He.free_ok X G (c.fact 40 (f := .free "abs") rfl)
    b_all := He.free_ok X G (c.fact 41 (f := .free "all") rfl)
    b_bool := He.free_ok X G (c.fact 42 (f := .free "bool") rfl)
    b_dict := He.free_ok X G (c.fact 43 (f := .free "dict") rfl)
    b_int := He.free_ok X G (c.fact 44 (f := .free "int") rfl)
    b_isinstance := He.free_ok X G (c.fact 45 (f := .free "isinstance") rfl)
    b_len := He.free_ok X G (c.fact 46 (f := .free "len") rfl)
    b_list := He.free_ok X G (c.fact 47 (f := .free "list") rfl)
    b_max := He.free_ok X G (c.fact 48 (f := .free "max") rfl)
    b_min := He.free_ok X G (c.fact 49 (f := .free "min") rfl)
    b_range := He.free_ok X G (c.fact 50 (f := .free "range") rfl)
    b_reversed := He.free_ok X G (c.fact 51 (f := .free "reversed") rfl)
    b_str := He.free_ok X G (c.fact 52 (f := .free "str") rfl)
    b_tuple := He.free_ok X G (c.fact 53 (f := .free "tuple") rfl)
    b_zip := He.free_ok X G (c.fact 54 (f := .free "zip") rfl)
    i_LONGEST := He.int_ok X G (c.fact 55 (f := .int "LONGEST" 1000000) rfl)
    i_MOST_DROPS := He.int_ok X G (c.fact 56 (f := .int "MOST_DROPS" 1000) rfl)
    i_MOST_EACH := He.int_ok X G (c.fact 57 (f := .int "MOST_EACH" 100000) rfl)
    i_MOST_FIRST := He.int_ok X G (c.fact 58 (f := .int "MOST_FIRST" 1000) rfl)
    i_MOST_FREE := He.int_ok X G (c.fact 59 (f := .int "MOST_FREE" 20) rfl)
    i_MOST_WRONG := He.int_ok X G (c.fact 60 (f := .int "MOST_WRONG" 200) rfl)
    e_NotRight := by
      obtain ⟨h1, h2, h3, h4⟩ := He.exc_ok (c.fact 61 (f := .exc "NotRight") rfl)
      exact ⟨_, He.glo_ok X G (c.fact 62 (f := .glo "NotRight") rfl), h1, h2, h3, h4⟩
    h_CodeError := ⟨_, He.glo_ok X G (c.fact 63 (f := .glo "CodeError") rfl)⟩
    p_NotRight_CodeError := ⟨_, _, (He.glo_ok X G (c.fact 62 (f := .glo "NotRight") rfl)), (He.glo_ok X G (c.fact 63 (f := .glo "CodeError") rfl)), He.exm_ok (c.fact 65 (f := .exm "NotRight" "CodeError" true) rfl)⟩
    k_NotRight_NotRight := ⟨_, _, (He.glo_ok X G (c.fact 62 (f := .glo "NotRight") rfl)), (He.glo_ok X G (c.fact 62 (f := .glo "NotRight") rfl)), of_decide_eq_true (ckAll_get ck 0 (c := ckKit "NotRight" "NotRight" true) rfl)⟩
    a_NotRight := ⟨_, (He.glo_ok X G (c.fact 62 (f := .glo "NotRight") rfl)), ckExc_ok (ckAll_get ck 1 (c := ckExc "NotRight") rfl)⟩
  }
end Lw
set_option maxHeartbeats 1000000
namespace Lw
open Mi
/-! ### sizes -/
def Bd (x : Int) (n : Nat) : Prop := x.natAbs ≤ 2 ^ n
theorem Bd.log {x : Int} {n : Nat} (h : Bd x n) : x.natAbs.log2 ≤ n := by
  by_cases c : x.natAbs = 0
  · rw [c]; exact Nat.zero_le _
  · have h1 : x.natAbs < 2 ^ (n + 1) := Nat.lt_of_le_of_lt h (Nat.pow_lt_pow_right (by omega) (by omega))
    have := (Nat.log2_lt c).2 h1
    omega
theorem Bd.mul {x y : Int} {a b : Nat} (h : Bd x a) (k : Bd y b) : Bd (x * y) (a + b) := by
  unfold Bd
  rw [Int.natAbs_mul, Nat.pow_add]
  exact Nat.mul_le_mul h k
theorem Bd.mono {x : Int} {a b : Nat} (h : Bd x a) (k : a ≤ b) : Bd x b := Nat.le_trans h (Nat.pow_le_pow_right (by omega) k)
theorem Bd.pow {x : Int} {a : Nat} (h : Bd x a) : ∀ n : Nat, Bd (x ^ n) (a * n)
  | 0 => by unfold Bd; simp
  | n + 1 => by
    rw [Int.pow_succ, Nat.mul_succ]
    exact (Bd.pow h n).mul h
theorem Bd.le {x y : Int} {a : Nat} (h : Bd y a) (h0 : 0 ≤ x) (h1 : x ≤ y) : Bd x a := by
  unfold Bd at *
  omega
theorem Bd.sub {x y : Int} {a : Nat} (h : Bd x a) (k : Bd y a) : Bd (x - y) (a + 1) := by
  unfold Bd at *
  rw [Nat.pow_succ]
  omega
theorem Bd.add {x y : Int} {a : Nat} (h : Bd x a) (k : Bd y a) : Bd (x + y) (a + 1) := by
  unfold Bd at *
  rw [Nat.pow_succ]
  omega
theorem mul_ok {x y : Int} {a b : Nat} (h : Bd x a) (k : Bd y b) (l : a + b < 100000000) : mulOk x y = true := by
  have := h.log
  have := k.log
  unfold mulOk
  exact decide_eq_true (by omega)
theorem div_ok {x y : Int} (h0 : 0 < y) (h : Bd y 8999 ∨ Bd x 13499) : divXOk x y = true := by
  rw [divXOk_iff]
  refine ⟨h0, h.imp (fun h => ?_) fun h => ?_⟩
  · have := h.log; omega
  · have := h.log; omega
theorem mod_ok {x y : Int} (h0 : 0 < y) : modOk x y = true := decide_eq_true h0
theorem r62_of {x : Int} (h0 : 0 ≤ x) (h : x ≤ 1000000) : r62 x = true := by
  exact r62_iff.2 ⟨by omega, by omega⟩
theorem Bd.small {x : Int} (h0 : 0 ≤ x) (h : x ≤ 1000000000000) : Bd x 40 := by
  unfold Bd
  have : (2 : Nat) ^ 40 = 1099511627776 := by decide
  omega
theorem rangeD_succ (lo : Int) (n : Nat) : rangeD lo (n + 1) = .int lo :: rangeD (lo + 1) n := by
  unfold rangeD
  rw [List.range_succ_eq_map, List.map_cons, List.map_map]
  congr 1
  · rw [show lo + ((0 : Nat) : Int) = lo by omega]
  · refine List.map_congr_left fun a _ => ?_
    show D.int (lo + ((a + 1 : Nat) : Int)) = D.int (lo + 1 + (a : Int))
    rw [show lo + ((a + 1 : Nat) : Int) = lo + 1 + (a : Int) by omega]
/-- a for that returns the first that fits -/
theorem for_first {b : FS} {mk : Sl → En} {i : Nat} {T : Nat → Bool} {lo hi : Nat} (hG : ∀ s d, gN i d (mk s) = some (mk (.val d))) (hb : ∀ j : Nat, lo ≤ j → j < hi → b (mk (.val (.int j))) = if T j = true then .ok (.rt (.int j) (mk (.val (.int j)))) else .ok (.nx (mk (.val (.int j))))) :
    ∀ (n k : Nat) (s : Sl), lo ≤ k → k + n = hi →
      (∃ j, k ≤ j ∧ j < hi ∧ T j = true ∧ (∀ x, k ≤ x → x < j → T x = false) ∧ ∃ e, forF (gN i) b (rangeD k n) (mk s) = .ok (.rt (.int j) e)) ∨
      ((∀ x, k ≤ x → x < hi → T x = false) ∧ ∃ s', forF (gN i) b (rangeD k n) (mk s) = .ok (.nx (mk s')))
  | 0, k, s, hk, hn => .inr ⟨fun x h1 h2 => by omega, s, rfl⟩
  | n + 1, k, s, hk, hn => by
    have hbk := hb k hk (by omega)
    by_cases c : T k = true
    · refine .inl ⟨k, Nat.le_refl _, by omega, c, fun x h1 h2 => by omega, mk (.val (.int k)), ?_⟩
      rw [if_pos c] at hbk
      rw [rangeD_succ, forF]
      simp only [hG, hbk]
    · rw [if_neg c] at hbk
      have step : forF (gN i) b (rangeD k (n + 1)) (mk s) = forF (gN i) b (rangeD ((k + 1 : Nat) : Int) n) (mk (.val (.int k))) := by
        rw [rangeD_succ, forF]
        simp only [hG, hbk]
        rfl
      have c' : T k = false := by simpa using c
      rcases for_first hG hb n (k + 1) (.val (.int k)) (by omega) (by omega) with ⟨j, q1, q2, q3, q4, e, q5⟩ | ⟨q1, s', q2⟩
      · refine .inl ⟨j, by omega, q2, q3, fun x h1 h2 => ?_, e, by rw [step]; exact q5⟩
        by_cases x0 : x = k
        · subst x0; exact c'
        · exact q4 x (by omega) h2
      · refine .inr ⟨fun x h1 h2 => ?_, s', by rw [step]; exact q2⟩
        by_cases x0 : x = k
        · subst x0; exact c'
        · exact q1 x (by omega) h2
end Lw
namespace Lw
open Mi
theorem take_ok (ns : List Int) {b : Int} (hb : 0 < b) : ∃ r ms, F__law_take ns [.int b] = .ok (.int r, ms) ∧ 0 ≤ r ∧ r < b := by
  rcases List.eq_nil_or_concat ns with rfl | ⟨l, x, rfl⟩
  · refine ⟨0, [], ?_, by omega, hb⟩
    unfold F__law_take
    rfl
  · refine ⟨x % b, l, ?_, Int.emod_nonneg _ (by omega), Int.emod_lt_of_pos _ hb⟩
    have e1 : (l ++ [x]).map D.int = l.map D.int ++ [D.int x] := by simp
    have e2 : (l.map D.int ++ [D.int x]).getLast? = some (.int x) := by simp
    have e3 : (l.map D.int ++ [D.int x]).dropLast = l.map D.int := by simp
    have e4 : decide ((((l.map D.int ++ [D.int x]).length : Nat) : Int) = 0) = false := decide_eq_false (by simp; omega)
    have e5 := intsOf_map l
    have m := mod_ok (x := x) hb
    unfold F__law_take
    simp only [runB, m__law_take, List.concat_eq_append, e1]
    generalize l.map D.int ++ [D.int x] = ll at *
    generalize l.map D.int = l2 at *
    as_aux_lemma =>
      simp only [seq_ap, Mi.mi0, Mi.mi1, Mi.mi2, Mi.mi3, Mi.mi4, Mi.mi5, Mi.mo0, Mi.mo1, Mi.mo2, Mi.mo3, Mi.mo8, Bool.false_eq_true, Mi.mo9, Nat.reduceAdd, Nat.reduceSub, Nat.reduceLeDiff, Nat.reduceLT, Nat.reduceEqDiff, Mi.mt0, List.getElem?_cons_zero, List.getElem?_cons_succ, List.set_cons_zero, List.set_cons_succ, List.map_cons, List.map_nil, List.length_cons, List.length_nil, List.nil_append, List.cons_append, List.append_nil, List.replicate_succ, List.replicate_zero, lim_v, reduceIte, decide_true, decide_false, Bool.not_true, Bool.not_false, Option.bind_some, Mi.lst_no, Mi.par2, Mi.par3, eq_self, and_self, Mi.mi6, Mi.mi7, Mi.mi8, Mi.mi9, Option.map_some, ePop, e2, e3, e4, e5, m, Sl.turn]
theorem pick_ok (ns : List Int) {ds : List D} (hd : ds ≠ []) : ∃ d ms, F__law_pick ns [.lst ds] = .ok (d, ms) ∧ d ∈ ds := by
  have hl : 0 < ds.length := List.length_pos_iff.2 hd
  obtain ⟨r, ms, h1, h2, h3⟩ := take_ok ns (b := (ds.length : Int)) (by omega)
  obtain ⟨k, rfl⟩ : ∃ k : Nat, r = (k : Int) := ⟨r.toNat, by omega⟩
  have hk : k < ds.length := by omega
  have g := L2.atI_nat (xs := ds) (j := k) (v := ds[k]) (List.getElem?_eq_getElem hk)
  refine ⟨ds[k], ms, ?_, List.getElem_mem hk⟩
  have e1 := intsOf_map ns
  have e2 := intsOf_map ms
  unfold F__law_pick
  simp only [runB, m__law_pick]

  generalize ds[k] = d at *
  generalize F__law_take = q0 at *
  as_aux_lemma =>
    simp only [seq_ap, Mi.mi0, Mi.mi1, Mi.mi2, Mi.mi3, Mi.mi4, Mi.mi5, Mi.mo0, Mi.mo1, Mi.mo2, Mi.mo3, Mi.mo8, Bool.false_eq_true, Mi.mo9, Nat.reduceAdd, Nat.reduceSub, Nat.reduceLeDiff, Nat.reduceLT, Nat.reduceEqDiff, Mi.mt0, List.getElem?_cons_zero, List.getElem?_cons_succ, List.set_cons_zero, List.set_cons_succ, List.map_cons, List.map_nil, List.length_cons, List.length_nil, List.nil_append, List.cons_append, List.append_nil, List.replicate_succ, List.replicate_zero, lim_v, reduceIte, decide_true, decide_false, Bool.not_true, Bool.not_false, Option.bind_some, Mi.lst_no, Mi.par2, Mi.par3, eq_self, and_self, Mi.mi6, Mi.mi7, Mi.mi8, Mi.mi9, Option.map_some, eCallB, e1, e2, h1, g, Sl.turn]
end Lw
namespace Lw
open Mi
theorem app_map (ms : List Int) (x : Int) : ms.map D.int ++ [D.int x] = (ms ++ [x]).map D.int := by simp
theorem draws_b0 {s c sd k f : Sl} {ms : List Int} {x : Int} (hx : 0 ≤ x) (hl : ms.length < 16777216) :
    ∃ (ms' : List Int) (x' : Int), b__law_draws_0 [s, .own (ms.map D.int), c, sd, k, .val (.int x), f] = .ok (.nx [s, .own (ms'.map D.int), c, sd, k, .val (.int x'), f]) ∧ 0 ≤ x' ∧ ms'.length ≤ ms.length + 1 := by
  by_cases h : 0 < x
  · refine ⟨ms ++ [x % 997], x / 997, ?_, Int.ediv_nonneg hx (by omega), by simp⟩
    have c1 := decide_eq_true h
    have m := mod_ok (x := x) (show (0 : Int) < 997 by omega)
    have dv : divXOk x 997 = true := divXOk_iff.2 ⟨by omega, .inl (by decide)⟩
    have l2 : (ms.map D.int).length < 16777216 := by simpa using hl
    rw [← app_map]
    generalize ms.map D.int = l at *
    unfold b__law_draws_0
    as_aux_lemma =>
      simp only [seq_ap, Mi.mi0, Mi.mi1, Mi.mi2, Mi.mi3, Mi.mi4, Mi.mi5, Mi.mo0, Mi.mo1, Mi.mo2, Mi.mo3, Mi.mo8, Bool.false_eq_true, Mi.mo9, Nat.reduceAdd, Nat.reduceSub, Nat.reduceLeDiff, Nat.reduceLT, Nat.reduceEqDiff, Mi.mt0, List.getElem?_cons_zero, List.getElem?_cons_succ, List.set_cons_zero, List.set_cons_succ, List.map_cons, List.map_nil, List.length_cons, List.length_nil, List.nil_append, List.cons_append, List.append_nil, List.replicate_succ, List.replicate_zero, lim_v, reduceIte, decide_true, decide_false, Bool.not_true, Bool.not_false, Option.bind_some, Mi.lst_no, Mi.par2, Mi.par3, eq_self, and_self, Mi.mi6, Mi.mi7, Mi.mi8, Mi.mi9, Option.map_some, c1, m, dv, l2]
  · refine ⟨ms, x, ?_, hx, by omega⟩
    have c1 := decide_eq_false h
    unfold b__law_draws_0
    as_aux_lemma =>
      simp only [seq_ap, Mi.mi0, Mi.mi1, Mi.mi2, Mi.mi3, Mi.mi4, Mi.mi5, Mi.mo0, Mi.mo1, Mi.mo2, Mi.mo3, Mi.mo8, Bool.false_eq_true, Mi.mo9, Nat.reduceAdd, Nat.reduceSub, Nat.reduceLeDiff, Nat.reduceLT, Nat.reduceEqDiff, Mi.mt0, List.getElem?_cons_zero, List.getElem?_cons_succ, List.set_cons_zero, List.set_cons_succ, List.map_cons, List.map_nil, List.length_cons, List.length_nil, List.nil_append, List.cons_append, List.append_nil, List.replicate_succ, List.replicate_zero, lim_v, reduceIte, decide_true, decide_false, Bool.not_true, Bool.not_false, Option.bind_some, Mi.lst_no, Mi.par2, Mi.par3, eq_self, and_self, Mi.mi6, Mi.mi7, Mi.mi8, Mi.mi9, Option.map_some, c1]
theorem draws_in {s c sd k f : Sl} {ms : List Int} {x : Int} (hx : 0 ≤ x) (hl : ms.length < 16000000) :
    ∃ (ms' : List Int) (x' : Int) (k' : Sl), forF (gN 4) b__law_draws_0 (rangeD 0 60) [s, .own (ms.map D.int), c, sd, k, .val (.int x), f] = .ok (.nx [s, .own (ms'.map D.int), c, sd, k', .val (.int x'), f]) ∧ ms'.length ≤ ms.length + 60 := by
  obtain ⟨e', h1, ms', x', k', rfl, _, h3⟩ := for_rng (G := gN 4) (b := b__law_draws_0) (lo := 0) (n := 60) (fun j e => ∃ (ms' : List Int) (x' : Int) (k' : Sl), e = [s, .own (ms'.map D.int), c, sd, k', .val (.int x'), f] ∧ 0 ≤ x' ∧ ms'.length ≤ ms.length + j)
    ⟨ms, x, k, rfl, hx, by omega⟩ fun j e hj ⟨m1, x1, k1, he, q1, q2⟩ => by
      subst he
      obtain ⟨m2, x2, w1, w2, w3⟩ := draws_b0 (s := s) (c := c) (sd := sd) (k := .val (.int (0 + j))) (f := f) (ms := m1) q1 (by omega)
      exact ⟨_, _, rfl, w1, m2, x2, _, rfl, w2, by omega⟩
  exact ⟨ms', x', k', h1, h3⟩
theorem Bd.sm {x : Int} {n : Nat} (h0 : 0 ≤ x) (h : x < 2 ^ n) : Bd x n := by
  unfold Bd
  have e : ((2 ^ n : Nat) : Int) = 2 ^ n := by rw [Int.natCast_pow]; rfl
  omega
theorem draws_b1 {s sd k f nm : Sl} {ms : List Int} {n : Int} (hl : ms.length < 15000000) :
    ∃ (ms' : List Int) (k' f' nm' : Sl), b__law_draws_1 [s, .own (ms.map D.int), .val (.int n), sd, k, nm, f] = .ok (.nx [s, .own (ms'.map D.int), .val (.int n), sd, k', nm', f']) ∧ ms'.length ≤ ms.length + 62 := by
  have x0 : (if n < 0 then -n else n) = (n.natAbs : Int) := by split <;> omega
  generalize hx : (n.natAbs : Int) = x at *
  have px : 0 ≤ x := by omega
  by_cases c : x < 10 ^ 18
  · have c0 : decide (x < (10 : Int) ^ (18 : Int).toNat) = true := decide_eq_true c
    have hp : powOk 10 18 = true := by decide
    have bx : Bd x 60 := Bd.sm px (by
      have : (10 : Int) ^ 18 = 1000000000000000000 := by decide
      have : (2 : Int) ^ 60 = 1152921504606846976 := by decide
      omega)
    have m1 := mul_ok bx (Bd.small (x := 48271) (by omega) (by omega)) (by omega)
    have d1 := mod_ok (x := x * 48271 + 11) (show (0 : Int) < 2147483647 by omega)
    have f0 := Int.emod_nonneg (x * 48271 + 11) (show (2147483647 : Int) ≠ 0 by omega)
    have f1 := Int.emod_lt_of_pos (x * 48271 + 11) (show (0 : Int) < 2147483647 by omega)
    obtain ⟨y, hy⟩ : ∃ y, (x * 48271 + 11) % 2147483647 = y := ⟨_, rfl⟩
    rw [hy] at f0 f1
    have m2 := mul_ok (Bd.small (x := y) f0 (by omega)) (Bd.small (x := 69621) (by omega) (by omega)) (by omega)
    have d2 := mod_ok (x := y * 69621 + x) (show (0 : Int) < 2147483629 by omega)
    have d3 : divXOk x 7 = true := divXOk_iff.2 ⟨by omega, .inl (by decide)⟩
    have d4 := mod_ok (x := y + x / 7) (show (0 : Int) < 1000003 by omega)
    obtain ⟨m, x', k', l, q⟩ := draws_in (s := s) (c := .val (.int n)) (sd := sd) (k := k) (f := .val (.int y)) (ms := ms ++ [(y * 69621 + x) % 2147483629] ++ [(y + x / 7) % 1000003]) (x := 0) (by omega) (by simp; omega)
    refine ⟨m, k', .val (.int y), .val (.int x'), ?_, by simp at q; omega⟩
    have l2 : (ms.map D.int).length < 16777216 := by simp; omega
    have l3 : (ms.map D.int ++ [D.int ((y * 69621 + x) % 2147483629)]).length < 16777216 := by simp; omega
    have e60 : rangeD 0 (60 : Int).toNat = rangeD 0 60 := rfl
    have r60 : r62 60 = true := by decide
    rw [← app_map, ← app_map] at l
    unfold b__law_draws_1
    generalize ms.map D.int = ll at *
    generalize m.map D.int = l9 at *
    generalize b__law_draws_0 = bb at *
    as_aux_lemma =>
      simp only [seq_ap, Mi.mi0, Mi.mi1, Mi.mi2, Mi.mi3, Mi.mi4, Mi.mi5, Mi.mo0, Mi.mo1, Mi.mo2, Mi.mo3, Mi.mo8, Bool.false_eq_true, Mi.mo9, Nat.reduceAdd, Nat.reduceSub, Nat.reduceLeDiff, Nat.reduceLT, Nat.reduceEqDiff, Mi.mt0, List.getElem?_cons_zero, List.getElem?_cons_succ, List.set_cons_zero, List.set_cons_succ, List.map_cons, List.map_nil, List.length_cons, List.length_nil, List.nil_append, List.cons_append, List.append_nil, List.replicate_succ, List.replicate_zero, lim_v, reduceIte, decide_true, decide_false, Bool.not_true, Bool.not_false, Option.bind_some, Mi.lst_no, Mi.par2, Mi.par3, eq_self, and_self, Mi.mi6, Mi.mi7, Mi.mi8, Mi.mi9, Option.map_some, x0, c0, hp, m1, d1, hy, m2, d2, d3, d4, l2, l3, e60, r60, l]
  · have c0 : decide (x < (10 : Int) ^ (18 : Int).toNat) = false := decide_eq_false c
    have hp : powOk 10 18 = true := by decide
    obtain ⟨m, x', k', l, q⟩ := draws_in (s := s) (c := .val (.int n)) (sd := sd) (k := k) (f := f) (ms := ms) (x := x) px (by omega)
    refine ⟨m, k', f, .val (.int x'), ?_, by omega⟩
    have e60 : rangeD 0 (60 : Int).toNat = rangeD 0 60 := rfl
    have r60 : r62 60 = true := by decide
    unfold b__law_draws_1
    generalize ms.map D.int = ll at *
    generalize m.map D.int = l9 at *
    generalize b__law_draws_0 = bb at *
    as_aux_lemma =>
      simp only [seq_ap, Mi.mi0, Mi.mi1, Mi.mi2, Mi.mi3, Mi.mi4, Mi.mi5, Mi.mo0, Mi.mo1, Mi.mo2, Mi.mo3, Mi.mo8, Bool.false_eq_true, Mi.mo9, Nat.reduceAdd, Nat.reduceSub, Nat.reduceLeDiff, Nat.reduceLT, Nat.reduceEqDiff, Mi.mt0, List.getElem?_cons_zero, List.getElem?_cons_succ, List.set_cons_zero, List.set_cons_succ, List.map_cons, List.map_nil, List.length_cons, List.length_nil, List.nil_append, List.cons_append, List.append_nil, List.replicate_succ, List.replicate_zero, lim_v, reduceIte, decide_true, decide_false, Bool.not_true, Bool.not_false, Option.bind_some, Mi.lst_no, Mi.par2, Mi.par3, eq_self, and_self, Mi.mi6, Mi.mi7, Mi.mi8, Mi.mi9, Option.map_some, x0, c0, hp, e60, r60, l]
theorem draws_out {s sd k f nm c : Sl} {ns : List Int} (hn : ns.length ≤ 63) :
    ∃ (ms' : List Int) (c' k' f' nm' : Sl), forF (gN 2) b__law_draws_1 (ns.map D.int) [s, .own [], c, sd, k, nm, f] = .ok (.nx [s, .own (ms'.map D.int), c', sd, k', nm', f']) ∧ ms'.length ≤ 62 * ns.length := by
  obtain ⟨e', h1, ms', c', k', f', nm', rfl, h3⟩ := for_inv (G := gN 2) (b := b__law_draws_1) (fun j e => ∃ (ms' : List Int) (c' k' f' nm' : Sl), e = [s, .own (ms'.map D.int), c', sd, k', nm', f'] ∧ ms'.length ≤ 62 * j) (ns.map D.int) 0 [s, .own [], c, sd, k, nm, f]
    ⟨[], c, k, f, nm, rfl, by simp⟩ fun j d e hd ⟨m1, c1, k1, f1, n1, he, q⟩ => by
      subst he
      rw [List.getElem?_map] at hd
      obtain ⟨z, hz, rfl⟩ := Option.map_eq_some_iff.1 hd
      have hj : j < ns.length := (List.getElem?_eq_some_iff.1 hz).1
      obtain ⟨m2, k2, f2, n2, w1, w2⟩ := draws_b1 (s := s) (sd := sd) (k := k1) (f := f1) (nm := n1) (ms := m1) (n := z) (by omega)
      exact ⟨_, _, rfl, w1, m2, .val (.int z), k2, f2, n2, rfl, by omega⟩
  rw [List.length_map, Nat.zero_add] at h3
  exact ⟨ms', c', k', f', nm', h1, h3⟩
theorem draws_b2 {s c k f nm : Sl} {ms : List Int} {n : Int} (hl : ms.length < 15000000) (hn : Bd n 2000000) :
    ∃ (ms' : List Int) (n' : Int), b__law_draws_2 [s, .own (ms.map D.int), c, .val (.int n), k, nm, f] = .ok (.nx [s, .own (ms'.map D.int), c, .val (.int n'), k, nm, f]) ∧ ms'.length ≤ ms.length + 1 ∧ Bd n' 2000000 := by
  have m1 := mul_ok hn (Bd.small (x := 48271) (by omega) (by omega)) (by omega)
  have d1 := mod_ok (x := n * 48271 + 69621) (show (0 : Int) < 2147483647 by omega)
  have f0 := Int.emod_nonneg (n * 48271 + 69621) (show (2147483647 : Int) ≠ 0 by omega)
  have f1 := Int.emod_lt_of_pos (n * 48271 + 69621) (show (0 : Int) < 2147483647 by omega)
  obtain ⟨y, hy⟩ : ∃ y, (n * 48271 + 69621) % 2147483647 = y := ⟨_, rfl⟩
  rw [hy] at f0 f1
  refine ⟨ms ++ [y / 5], y, ?_, by simp, (Bd.small f0 (by omega)).mono (by omega)⟩
  have d3 : divXOk y 5 = true := divXOk_iff.2 ⟨by omega, .inl (by decide)⟩
  have l2 : (ms.map D.int).length < 16777216 := by simp; omega
  rw [← app_map]
  generalize ms.map D.int = l at *
  unfold b__law_draws_2
  as_aux_lemma =>
    simp only [seq_ap, Mi.mi0, Mi.mi1, Mi.mi2, Mi.mi3, Mi.mi4, Mi.mi5, Mi.mo0, Mi.mo1, Mi.mo2, Mi.mo3, Mi.mo8, Bool.false_eq_true, Mi.mo9, Nat.reduceAdd, Nat.reduceSub, Nat.reduceLeDiff, Nat.reduceLT, Nat.reduceEqDiff, Mi.mt0, List.getElem?_cons_zero, List.getElem?_cons_succ, List.set_cons_zero, List.set_cons_succ, List.map_cons, List.map_nil, List.length_cons, List.length_nil, List.nil_append, List.cons_append, List.append_nil, List.replicate_succ, List.replicate_zero, lim_v, reduceIte, decide_true, decide_false, Bool.not_true, Bool.not_false, Option.bind_some, Mi.lst_no, Mi.par2, Mi.par3, eq_self, and_self, Mi.mi6, Mi.mi7, Mi.mi8, Mi.mi9, Option.map_some, m1, d1, hy, d3, l2]
theorem draws_nine {s c k f nm : Sl} {ms : List Int} {n : Int} (hl : ms.length < 10000) (hn : Bd n 2000000) :
    ∃ (ms' : List Int) (n' : Int) (k' : Sl), forF (gN 4) b__law_draws_2 (rangeD 0 2000) [s, .own (ms.map D.int), c, .val (.int n), k, nm, f] = .ok (.nx [s, .own (ms'.map D.int), c, .val (.int n'), k', nm, f]) := by
  obtain ⟨e', h1, ms', n', k', rfl, _, _⟩ := for_rng (G := gN 4) (b := b__law_draws_2) (lo := 0) (n := 2000) (fun j e => ∃ (ms' : List Int) (n' : Int) (k' : Sl), e = [s, .own (ms'.map D.int), c, .val (.int n'), k', nm, f] ∧ Bd n' 2000000 ∧ ms'.length ≤ 10000 + j)
    ⟨ms, n, k, rfl, hn, by omega⟩ fun j e hj ⟨m1, n1, k1, he, q1, q2⟩ => by
      subst he
      obtain ⟨m2, n2, w1, w2, w3⟩ := draws_b2 (s := s) (c := c) (k := .val (.int (0 + j))) (f := f) (nm := nm) (ms := m1) (by omega) q1
      exact ⟨_, _, rfl, w1, m2, n2, _, rfl, w3, by omega⟩
  exact ⟨ms', n', k', h1⟩
theorem bits_bd {z : Int} (h : PySem.Builtin.Int.intBits z ≤ 1048576) : Bd (1 + (if z < 0 then -z else z)) 2000000 := by
  have h1 : Bd z 1048577 := by
    unfold Bd
    unfold PySem.Builtin.Int.intBits at h
    by_cases c : z = 0
    · subst c
      exact Nat.zero_le _
    · have c1 : (z == 0) = false := by simpa using c
      rw [c1] at h
      have h2 : z.natAbs.log2 + 1 ≤ 1048576 := h
      exact Nat.le_of_lt (Nat.lt_of_lt_of_le Nat.lt_log2_self (Nat.pow_le_pow_right (by omega) (by omega)))
  have h3 : Bd (if z < 0 then -z else z) 1048577 := by
    unfold Bd at *
    split <;> omega
  have one : Bd 1 1048577 := by
    unfold Bd
    exact Nat.one_le_two_pow
  exact (Bd.add one h3).mono (by omega)
theorem draws_eq {ns : List Int} (hn : ns.length ≤ 63) (hz : ∀ z ∈ ns, PySem.Builtin.Int.intBits z ≤ 1048576) : ∃ ms : List Int, F__law_draws [.rls (ns.map D.int)] = .ok (.lst (ms.map D.int)) := by
  obtain ⟨m1, c1, k1, f1, n1, l1, q1⟩ := draws_out (s := .val (.rls (ns.map D.int))) (sd := .un) (k := .un) (f := .un) (nm := .un) (c := .un) hn
  have q2 : m1.length < 10000 := by omega
  cases ns with
  | nil =>
    obtain ⟨m2, n2, k2, l2⟩ := draws_nine (s := .val (.rls [])) (c := c1) (k := k1) (f := f1) (nm := n1) (ms := m1) (n := 1) q2 (Bd.small (x := 1) (by omega) (by omega) |>.mono (by omega))
    refine ⟨m2.reverse, ?_⟩
    have r1 : r62 2000 = true := by decide
    have e1 : rangeD 0 (2000 : Int).toNat = rangeD 0 2000 := rfl
    have e2 : (m2.map D.int).reverse = m2.reverse.map D.int := by simp
    rw [List.map_nil] at *
    rw [← e2]
    unfold F__law_draws m__law_draws
    generalize b__law_draws_1 = b1 at *
    generalize b__law_draws_2 = b2 at *
    generalize m2.map D.int = l at *
    generalize m1.map D.int = l' at *
    have c0 : decide ((0 : Int) < 0) = false := by decide
    as_aux_lemma =>
      simp only [runA, seq_ap, Mi.mi0, Mi.mi1, Mi.mi2, Mi.mi3, Mi.mi4, Mi.mi5, Mi.mo0, Mi.mo1, Mi.mo2, Mi.mo3, Mi.mo8, Bool.false_eq_true, Mi.mo9, Nat.reduceAdd, Nat.reduceSub, Nat.reduceLeDiff, Nat.reduceLT, Nat.reduceEqDiff, Mi.mt0, List.getElem?_cons_zero, List.getElem?_cons_succ, List.set_cons_zero, List.set_cons_succ, List.map_cons, List.map_nil, List.length_cons, List.length_nil, List.nil_append, List.cons_append, List.append_nil, List.replicate_succ, List.replicate_zero, lim_v, reduceIte, decide_true, decide_false, Bool.not_true, Bool.not_false, Option.bind_some, Mi.lst_no, Mi.par2, Mi.par3, eq_self, and_self, Mi.mi6, Mi.mi7, Mi.mi8, Mi.mi9, Option.map_some, l1, l2, r1, e1, c0]
  | cons z r =>
    obtain ⟨m2, n2, k2, l2⟩ := draws_nine (s := .val (.rls ((z :: r).map D.int))) (c := c1) (k := k1) (f := f1) (nm := n1) (ms := m1) (n := 1 + (if z < 0 then -z else z)) q2 (bits_bd (hz z (by simp)))
    refine ⟨m2.reverse, ?_⟩
    have r1 : r62 2000 = true := by decide
    have e1 : rangeD 0 (2000 : Int).toNat = rangeD 0 2000 := rfl
    have e2 : (m2.map D.int).reverse = m2.reverse.map D.int := by simp
    rw [List.map_cons] at *
    rw [← e2]
    have c0 : decide ((0 : Int) < (((D.int z :: r.map D.int).length : Nat) : Int)) = true := decide_eq_true (by simp)
    have x0 : L2.atI (D.int z :: r.map D.int) 0 = some (D.int z) := Mi.mo9.1 _ _
    unfold F__law_draws m__law_draws
    generalize b__law_draws_1 = b1 at *
    generalize b__law_draws_2 = b2 at *
    generalize m2.map D.int = l at *
    generalize m1.map D.int = l' at *
    generalize D.int z :: r.map D.int = ll at *
    as_aux_lemma =>
      simp only [runA, seq_ap, Mi.mi0, Mi.mi1, Mi.mi2, Mi.mi3, Mi.mi4, Mi.mi5, Mi.mo0, Mi.mo1, Mi.mo2, Mi.mo3, Mi.mo8, Bool.false_eq_true, Mi.mo9, Nat.reduceAdd, Nat.reduceSub, Nat.reduceLeDiff, Nat.reduceLT, Nat.reduceEqDiff, Mi.mt0, List.getElem?_cons_zero, List.getElem?_cons_succ, List.set_cons_zero, List.set_cons_succ, List.map_cons, List.map_nil, List.length_cons, List.length_nil, List.nil_append, List.cons_append, List.append_nil, List.replicate_succ, List.replicate_zero, lim_v, reduceIte, decide_true, decide_false, Bool.not_true, Bool.not_false, Option.bind_some, Mi.lst_no, Mi.par2, Mi.par3, eq_self, and_self, Mi.mi6, Mi.mi7, Mi.mi8, Mi.mi9, Option.map_some, l1, l2, r1, e1, c0, x0]
end Lw
namespace Lw
open Mi
/-! ### small functions -/
theorem is_integer_int (i : Int) : F_is_integer [.int i] = .ok (.bl true) := by
  unfold F_is_integer
  rfl
theorem check_true : F_check [.bl true] = .ok .non := by
  unfold F_check
  rfl
theorem within_ok {v lo hi : Int} (h1 : lo ≤ v) (h2 : v ≤ hi) : F_is_within [.int v, .int lo, .int hi] = .ok (.bl true) := by
  simp only [F_is_within, runA, m_is_within, seq_ap, Mi.mi0, Mi.mi1, Mi.mi2, Mi.mi3, Mi.mi4, Mi.mi5, Mi.mo0, Mi.mo1, Mi.mo2, Mi.mo3, Mi.mo8, Bool.false_eq_true, Mi.mo9, Nat.reduceAdd, Nat.reduceSub, Nat.reduceLeDiff, Nat.reduceLT, Nat.reduceEqDiff, Mi.mt0, List.getElem?_cons_zero, List.getElem?_cons_succ, List.set_cons_zero, List.set_cons_succ, List.map_cons, List.map_nil, List.length_cons, List.length_nil, List.nil_append, List.cons_append, List.append_nil, List.replicate_succ, List.replicate_zero, lim_v, reduceIte, decide_true, decide_false, Bool.not_true, Bool.not_false, Option.bind_some, Mi.lst_no, Mi.par2, Mi.par3, eq_self, and_self, Mi.mi6, Mi.mi7, Mi.mi8, Mi.mi9, Option.map_some, is_integer_int, h1, h2]
theorem check_false : F_check [.bl false] = .exc "NotRight" [] := by
  unfold F_check
  rfl
theorem is_count_nat (i : Nat) : F_is_count [.int i] = .ok (.bl true) := by
  have h := is_integer_int (i : Int)
  have c : decide ((0 : Int) ≤ (i : Int)) = true := decide_eq_true (Int.natCast_nonneg i)
  unfold F_is_count m_is_count
  generalize F_is_integer = q0 at *
  as_aux_lemma =>
    simp only [runA, seq_ap, Mi.mi0, Mi.mi1, Mi.mi2, Mi.mi3, Mi.mi4, Mi.mi5, Mi.mo0, Mi.mo1, Mi.mo2, Mi.mo3, Mi.mo8, Bool.false_eq_true, Mi.mo9, Nat.reduceAdd, Nat.reduceSub, Nat.reduceLeDiff, Nat.reduceLT, Nat.reduceEqDiff, Mi.mt0, List.getElem?_cons_zero, List.getElem?_cons_succ, List.set_cons_zero, List.set_cons_succ, List.map_cons, List.map_nil, List.length_cons, List.length_nil, List.nil_append, List.cons_append, List.append_nil, List.replicate_succ, List.replicate_zero, lim_v, reduceIte, decide_true, decide_false, Bool.not_true, Bool.not_false, Option.bind_some, Mi.lst_no, Mi.par2, Mi.par3, eq_self, and_self, Mi.mi6, Mi.mi7, Mi.mi8, Mi.mi9, Option.map_some, h, c]
end Lw
namespace Lw
open Mi
/-! ### powers -/
theorem pow_loop {x n : Int} {a N : Nat} (hx : Bd x a) (h : a * N < 90000000) (ha : a < 1000000) (s : Sl) : ∃ s', forF (gN 3) b_power_0 (rangeD 0 N) [.val (.int x), .val (.int n), .val (.int 1), s] = .ok (.nx [.val (.int x), .val (.int n), .val (.int (x ^ N)), s']) := by
  obtain ⟨e', h1, s', rfl⟩ := for_rng (G := gN 3) (b := b_power_0) (lo := 0) (n := N) (fun k e => ∃ s, e = [.val (.int x), .val (.int n), .val (.int (x ^ k)), s]) ⟨s, rfl⟩ fun j e hj ⟨s, he⟩ => by
    subst he
    have hb : Bd (x ^ j) (a * N) := (hx.pow j).mono (Nat.mul_le_mul_left _ (by omega))
    refine ⟨_, _, rfl, ?_, .val (.int (0 + j)), rfl⟩
    have hm := mul_ok hb hx (by omega)
    simp only [b_power_0, Mi.mi0, Mi.mi1, Mi.mi2, Mi.mi3, Mi.mi4, Mi.mi5, Mi.mo0, Mi.mo1, Mi.mo2, Mi.mo3, Mi.mo8, Bool.false_eq_true, Mi.mo9, Nat.reduceAdd, Nat.reduceSub, Nat.reduceLeDiff, Nat.reduceLT, Nat.reduceEqDiff, Mi.mt0, List.getElem?_cons_zero, List.getElem?_cons_succ, List.set_cons_zero, List.set_cons_succ, List.map_cons, List.map_nil, List.length_cons, List.length_nil, List.nil_append, List.cons_append, List.append_nil, List.replicate_succ, List.replicate_zero, lim_v, reduceIte, decide_true, decide_false, Bool.not_true, Bool.not_false, Option.bind_some, Mi.lst_no, Mi.par2, Mi.par3, eq_self, and_self, Mi.mi6, Mi.mi7, Mi.mi8, Mi.mi9, Option.map_some, hm]
    rw [Int.pow_succ]
  rw [show x ^ 0 = (1 : Int) from Int.pow_zero x] at h1
  exact ⟨s', h1⟩
theorem power_eq {x n : Int} {a : Nat} (hx : Bd x a) (h0 : 0 ≤ n) (hn : n ≤ 1000000) (h : a * n.toNat < 90000000) (ha : a < 1000000) : F_power [.int x, .int n] = .ok (.int (x ^ n.toNat)) := by
  obtain ⟨s, hl⟩ := pow_loop (n := n) (N := n.toNat) hx h ha .un
  simp only [F_power, runA, m_power, seq_ap, Mi.mi0, Mi.mi1, Mi.mi2, Mi.mi3, Mi.mi4, Mi.mi5, Mi.mo0, Mi.mo1, Mi.mo2, Mi.mo3, Mi.mo8, Bool.false_eq_true, Mi.mo9, Nat.reduceAdd, Nat.reduceSub, Nat.reduceLeDiff, Nat.reduceLT, Nat.reduceEqDiff, Mi.mt0, List.getElem?_cons_zero, List.getElem?_cons_succ, List.set_cons_zero, List.set_cons_succ, List.map_cons, List.map_nil, List.length_cons, List.length_nil, List.nil_append, List.cons_append, List.append_nil, List.replicate_succ, List.replicate_zero, lim_v, reduceIte, decide_true, decide_false, Bool.not_true, Bool.not_false, Option.bind_some, Mi.lst_no, Mi.par2, Mi.par3, eq_self, and_self, Mi.mi6, Mi.mi7, Mi.mi8, Mi.mi9, Option.map_some, r62_of h0 hn, hl]
end Lw
namespace Lw
open Mi
/-! ### lists -/
theorem lcF_list {α : Type} {vs : List Nat} {G : TD} {c : FT} {f : FE} {e0 : En} (enc : α → D) (p : α → Bool) (g : α → D) : ∀ xs : List α, (∀ x ∈ xs, ∃ e1, G (enc x) e0 = some e1 ∧ c e1 = .ok (p x, e1) ∧ (p x = true → f e1 = .ok (g x, e1)) ∧ wipeE e1 vs = e0) → lcF vs G c f (xs.map enc) e0 = .ok ((xs.filter p).map g, e0)
  | [], _ => rfl
  | x :: xs, h => by
    obtain ⟨e1, h1, h2, h3, h4⟩ := h x (List.mem_cons_self ..)
    have ih := lcF_list enc p g xs fun d hd => h d (List.mem_cons_of_mem _ hd)
    rw [List.map_cons]
    unfold lcF
    cases k : p x with
    | true =>
      rw [List.filter_cons_of_pos k]
      simp only [h1, h2, k, h3 k, h4, ih, List.map_cons]
    | false =>
      rw [List.filter_cons_of_neg (by simp [k])]
      simp only [h1, h2, k, h4, ih]
theorem lcF_all {α : Type} {vs : List Nat} {G : TD} {f : FE} {e0 : En} (enc : α → D) (g : α → D) (xs : List α) (h : ∀ x ∈ xs, ∃ e1, G (enc x) e0 = some e1 ∧ f e1 = .ok (g x, e1) ∧ wipeE e1 vs = e0) : lcF vs G tYes1 f (xs.map enc) e0 = .ok (xs.map g, e0) := by
  have := lcF_list (vs := vs) (G := G) (c := tYes1) (f := f) (e0 := e0) enc (fun _ => true) g xs fun x hx => by
    obtain ⟨e1, h1, h2, h3⟩ := h x hx
    exact ⟨e1, h1, rfl, fun _ => h2, h3⟩
  rw [List.filter_eq_self.2 (fun _ _ => rfl)] at this
  exact this
theorem rangeD_map (lo : Int) (n : Nat) : rangeD lo n = (List.range n).map fun i : Nat => D.int (lo + (i : Int)) := rfl
theorem zipD_map {α β : Type} (a : α → D) (b : β → D) : ∀ (xs : List α) (ys : List β), zipD (xs.map a) (ys.map b) = (xs.zip ys).map fun p => D.tup [a p.1, b p.2]
  | [], _ => by simp [zipD]
  | _ :: _, [] => by simp [zipD]
  | x :: xs, y :: ys => by
    rw [List.map_cons, List.map_cons, zipD, zipD_map a b xs ys]
    rfl
theorem for_fold {α σ τ : Type} {G : TD} {b : FS} (enc : α → D) (mk : σ → τ → En) (step : σ → α → σ) (P : Nat → σ → Prop) : ∀ (xs : List α) (k : Nat) (s : σ) (t : τ), P k s → (∀ j x s t, xs[j]? = some x → P (k + j) s → ∃ e1 t', G (enc x) (mk s t) = some e1 ∧ b e1 = .ok (.nx (mk (step s x) t')) ∧ P (k + j + 1) (step s x)) → ∃ t', forF G b (xs.map enc) (mk s t) = .ok (.nx (mk (xs.foldl step s) t')) ∧ P (k + xs.length) (xs.foldl step s)
  | [], k, s, t, h, _ => ⟨t, rfl, h⟩
  | x :: xs, k, s, t, h, st => by
    obtain ⟨e1, t1, h1, h2, h3⟩ := st 0 x s t rfl h
    obtain ⟨t', h4, h5⟩ := for_fold enc mk step P xs (k + 1) (step s x) t1 h3 fun j y s t hy hp => by
      have := st (j + 1) y s t (by simpa using hy) (by rw [show k + (j + 1) = k + 1 + j by omega]; exact hp)
      rw [show k + (j + 1) + 1 = k + 1 + j + 1 by omega] at this
      exact this
    refine ⟨t', ?_, by rw [List.length_cons, show k + (xs.length + 1) = k + 1 + xs.length by omega]; exact h5⟩
    rw [List.map_cons, forF, h1]
    simp only [h2]
    exact h4
theorem bls_map {α : Type} (xs : List α) (p : α → Bool) : bls (xs.map fun x => D.bl (p x)) = some (xs.map p) := by
  induction xs with
  | nil => rfl
  | cons x xs ih => simp only [List.map_cons, bls, ih, Option.map_some]
theorem fAll_map {α : Type} (xs : List α) (p : α → Bool) : fAll [.lst (xs.map fun x => D.bl (p x))] = some (.bl (xs.all p)) := by
  simp only [fAll, bls_map, Option.map_some, List.all_map]
  rfl
theorem fAll_true {α : Type} (xs : List α) : fAll [.lst (xs.map fun _ => D.bl true)] = some (.bl true) := by
  rw [fAll_map xs (fun _ => true), List.all_eq_true.2 (fun _ _ => rfl)]
theorem atI_map {α : Type} (enc : α → D) (xs : List α) (i : Nat) (h : i < xs.length) : L2.atI (xs.map enc) (i : Int) = some (enc xs[i]) := L2.atI_nat (by rw [List.getElem?_map, List.getElem?_eq_getElem h]; rfl)
theorem atI_of {ds : List D} {i : Nat} {d : D} (h : ds[i]? = some d) : L2.atI ds (i : Int) = some d := L2.atI_nat h
/-! ### the same -/
def flat : D → Prop
  | .int _ => True
  | .bl _ => True
  | .non => True
  | .str _ => True
  | _ => False
def Pl : Nat → D → Prop
  | n + 1, .tup ds => ds.length ≤ 1000000 ∧ ∀ d ∈ ds, Pl n d
  | n + 1, .lst ds => ds.length ≤ 1000000 ∧ ∀ d ∈ ds, Pl n d
  | _, d => flat d
theorem same_flat {n : Nat} {d : D} (h : flat d) : F__law_same (n + 1) [d, d] = .ok (.bl true) := by
  rw [F__law_same_s]
  generalize F__law_same n = r
  unfold m__law_same
  cases d with
  | int i =>
    as_aux_lemma =>
      simp only [runA, seq_ap, Mi.mi0, Mi.mi1, Mi.mi2, Mi.mi3, Mi.mi4, Mi.mi5, Mi.mo0, Mi.mo1, Mi.mo2, Mi.mo3, Mi.mo8, Bool.false_eq_true, Mi.mo9, Nat.reduceAdd, Nat.reduceSub, Nat.reduceLeDiff, Nat.reduceLT, Nat.reduceEqDiff, Mi.mt0, List.getElem?_cons_zero, List.getElem?_cons_succ, List.set_cons_zero, List.set_cons_succ, List.map_cons, List.map_nil, List.length_cons, List.length_nil, List.nil_append, List.cons_append, List.append_nil, List.replicate_succ, List.replicate_zero, lim_v, reduceIte, decide_true, decide_false, Bool.not_true, Bool.not_false, Option.bind_some, Mi.lst_no, Mi.par2, Mi.par3, eq_self, and_self, Mi.mi6, Mi.mi7, Mi.mi8, Mi.mi9, Option.map_some, Bool.not_true, Bool.not_false]
  | bl i =>
    as_aux_lemma =>
      simp only [runA, seq_ap, Mi.mi0, Mi.mi1, Mi.mi2, Mi.mi3, Mi.mi4, Mi.mi5, Mi.mo0, Mi.mo1, Mi.mo2, Mi.mo3, Mi.mo8, Bool.false_eq_true, Mi.mo9, Nat.reduceAdd, Nat.reduceSub, Nat.reduceLeDiff, Nat.reduceLT, Nat.reduceEqDiff, Mi.mt0, List.getElem?_cons_zero, List.getElem?_cons_succ, List.set_cons_zero, List.set_cons_succ, List.map_cons, List.map_nil, List.length_cons, List.length_nil, List.nil_append, List.cons_append, List.append_nil, List.replicate_succ, List.replicate_zero, lim_v, reduceIte, decide_true, decide_false, Bool.not_true, Bool.not_false, Option.bind_some, Mi.lst_no, Mi.par2, Mi.par3, eq_self, and_self, Mi.mi6, Mi.mi7, Mi.mi8, Mi.mi9, Option.map_some, Bool.not_true, Bool.not_false]
  | non =>
    as_aux_lemma =>
      simp only [runA, seq_ap, Mi.mi0, Mi.mi1, Mi.mi2, Mi.mi3, Mi.mi4, Mi.mi5, Mi.mo0, Mi.mo1, Mi.mo2, Mi.mo3, Mi.mo8, Bool.false_eq_true, Mi.mo9, Nat.reduceAdd, Nat.reduceSub, Nat.reduceLeDiff, Nat.reduceLT, Nat.reduceEqDiff, Mi.mt0, List.getElem?_cons_zero, List.getElem?_cons_succ, List.set_cons_zero, List.set_cons_succ, List.map_cons, List.map_nil, List.length_cons, List.length_nil, List.nil_append, List.cons_append, List.append_nil, List.replicate_succ, List.replicate_zero, lim_v, reduceIte, decide_true, decide_false, Bool.not_true, Bool.not_false, Option.bind_some, Mi.lst_no, Mi.par2, Mi.par3, eq_self, and_self, Mi.mi6, Mi.mi7, Mi.mi8, Mi.mi9, Option.map_some, Bool.not_true, Bool.not_false]
  | str i =>
    as_aux_lemma =>
      simp only [runA, seq_ap, Mi.mi0, Mi.mi1, Mi.mi2, Mi.mi3, Mi.mi4, Mi.mi5, Mi.mo0, Mi.mo1, Mi.mo2, Mi.mo3, Mi.mo8, Bool.false_eq_true, Mi.mo9, Nat.reduceAdd, Nat.reduceSub, Nat.reduceLeDiff, Nat.reduceLT, Nat.reduceEqDiff, Mi.mt0, List.getElem?_cons_zero, List.getElem?_cons_succ, List.set_cons_zero, List.set_cons_succ, List.map_cons, List.map_nil, List.length_cons, List.length_nil, List.nil_append, List.cons_append, List.append_nil, List.replicate_succ, List.replicate_zero, lim_v, reduceIte, decide_true, decide_false, Bool.not_true, Bool.not_false, Option.bind_some, Mi.lst_no, Mi.par2, Mi.par3, eq_self, and_self, Mi.mi6, Mi.mi7, Mi.mi8, Mi.mi9, Option.map_some, Bool.not_true, Bool.not_false]
  | _ => exact h.elim
theorem same_lc {r : List D → R D} {ds : List D} {s2 : Sl} {d : D} (hd : (∃ x, d = .tup x ∧ x = ds) ∨ (∃ x, d = .lst x ∧ x = ds)) (h : ∀ d ∈ ds, r [d, d] = .ok (.bl true)) :
    lcF [3] (gN 3) tYes1 (f__law_same_0 r) (rangeD 0 ds.length) [.val d, .val d, s2, .un] = .ok ((List.range ds.length).map fun _ => D.bl true, [.val d, .val d, s2, .un]) := by
  rw [rangeD_map]
  refine lcF_all _ (fun _ => D.bl true) _ fun i hi => ⟨[.val d, .val d, s2, .val (.int (0 + (i : Int)))], rfl, ?_, rfl⟩
  have hi := List.mem_range.1 hi
  have g := atI_of (List.getElem?_eq_getElem hi)
  have hr := h ds[i] (List.getElem_mem hi)
  rcases hd with ⟨x, rfl, rfl⟩ | ⟨x, rfl, rfl⟩
  · unfold f__law_same_0
    as_aux_lemma =>
      simp only [seq_ap, Mi.mi0, Mi.mi1, Mi.mi2, Mi.mi3, Mi.mi4, Mi.mi5, Mi.mo0, Mi.mo1, Mi.mo2, Mi.mo3, Mi.mo8, Bool.false_eq_true, Mi.mo9, Nat.reduceAdd, Nat.reduceSub, Nat.reduceLeDiff, Nat.reduceLT, Nat.reduceEqDiff, Mi.mt0, List.getElem?_cons_zero, List.getElem?_cons_succ, List.set_cons_zero, List.set_cons_succ, List.map_cons, List.map_nil, List.length_cons, List.length_nil, List.nil_append, List.cons_append, List.append_nil, List.replicate_succ, List.replicate_zero, lim_v, reduceIte, decide_true, decide_false, Bool.not_true, Bool.not_false, Option.bind_some, Mi.lst_no, Mi.par2, Mi.par3, eq_self, and_self, Mi.mi6, Mi.mi7, Mi.mi8, Mi.mi9, Option.map_some, Int.zero_add, g, hr]
  · unfold f__law_same_0
    as_aux_lemma =>
      simp only [seq_ap, Mi.mi0, Mi.mi1, Mi.mi2, Mi.mi3, Mi.mi4, Mi.mi5, Mi.mo0, Mi.mo1, Mi.mo2, Mi.mo3, Mi.mo8, Bool.false_eq_true, Mi.mo9, Nat.reduceAdd, Nat.reduceSub, Nat.reduceLeDiff, Nat.reduceLT, Nat.reduceEqDiff, Mi.mt0, List.getElem?_cons_zero, List.getElem?_cons_succ, List.set_cons_zero, List.set_cons_succ, List.map_cons, List.map_nil, List.length_cons, List.length_nil, List.nil_append, List.cons_append, List.append_nil, List.replicate_succ, List.replicate_zero, lim_v, reduceIte, decide_true, decide_false, Bool.not_true, Bool.not_false, Option.bind_some, Mi.lst_no, Mi.par2, Mi.par3, eq_self, and_self, Mi.mi6, Mi.mi7, Mi.mi8, Mi.mi9, Option.map_some, Int.zero_add, g, hr]
theorem same_self : ∀ (n : Nat) (d : D), Pl n d → F__law_same (n + 1) [d, d] = .ok (.bl true)
  | 0, d, h => same_flat (by cases d <;> exact h)
  | n + 1, .tup ds, h => by
    have ih := fun d hd => same_self n d (h.2 d hd)
    have l := same_lc (s2 := .un) (.inl ⟨ds, rfl, rfl⟩) ih
    rw [F__law_same_s]
    generalize F__law_same (n + 1) = r at *
    have hl := h.1
    have r6 := r62_of (show (0 : Int) ≤ (ds.length : Int) by omega) (by omega)
    have a := fAll_true (List.range ds.length)
    have le : ((List.range ds.length).map fun _ => D.bl true).length ≤ 16777216 := by
      rw [List.length_map, List.length_range]
      omega
    unfold m__law_same
    generalize f__law_same_0 r = q at *
    generalize ((List.range ds.length).map fun _ => D.bl true) = q2 at *
    as_aux_lemma =>
      simp only [runA, seq_ap, Mi.mi0, Mi.mi1, Mi.mi2, Mi.mi3, Mi.mi4, Mi.mi5, Mi.mo0, Mi.mo1, Mi.mo2, Mi.mo3, Mi.mo8, Bool.false_eq_true, Mi.mo9, Nat.reduceAdd, Nat.reduceSub, Nat.reduceLeDiff, Nat.reduceLT, Nat.reduceEqDiff, Mi.mt0, List.getElem?_cons_zero, List.getElem?_cons_succ, List.set_cons_zero, List.set_cons_succ, List.map_cons, List.map_nil, List.length_cons, List.length_nil, List.nil_append, List.cons_append, List.append_nil, List.replicate_succ, List.replicate_zero, lim_v, reduceIte, decide_true, decide_false, Bool.not_true, Bool.not_false, Option.bind_some, Mi.lst_no, Mi.par2, Mi.par3, eq_self, and_self, Mi.mi6, Mi.mi7, Mi.mi8, Mi.mi9, Option.map_some, nLc, wipeE, okW, resE, r6, Int.toNat_natCast, l, a, le, List.all_cons, List.all_nil, Bool.and_true, Option.getD_some, Option.getD_none, and_self, Bool.not_true, Bool.not_false]
  | n + 1, .lst ds, h => by
    have ih := fun d hd => same_self n d (h.2 d hd)
    have l := same_lc (s2 := .un) (.inr ⟨ds, rfl, rfl⟩) ih
    rw [F__law_same_s]
    generalize F__law_same (n + 1) = r at *
    have hl := h.1
    have r6 := r62_of (show (0 : Int) ≤ (ds.length : Int) by omega) (by omega)
    have a := fAll_true (List.range ds.length)
    have le : ((List.range ds.length).map fun _ => D.bl true).length ≤ 16777216 := by
      rw [List.length_map, List.length_range]
      omega
    unfold m__law_same
    generalize f__law_same_0 r = q at *
    generalize ((List.range ds.length).map fun _ => D.bl true) = q2 at *
    as_aux_lemma =>
      simp only [runA, seq_ap, Mi.mi0, Mi.mi1, Mi.mi2, Mi.mi3, Mi.mi4, Mi.mi5, Mi.mo0, Mi.mo1, Mi.mo2, Mi.mo3, Mi.mo8, Bool.false_eq_true, Mi.mo9, Nat.reduceAdd, Nat.reduceSub, Nat.reduceLeDiff, Nat.reduceLT, Nat.reduceEqDiff, Mi.mt0, List.getElem?_cons_zero, List.getElem?_cons_succ, List.set_cons_zero, List.set_cons_succ, List.map_cons, List.map_nil, List.length_cons, List.length_nil, List.nil_append, List.cons_append, List.append_nil, List.replicate_succ, List.replicate_zero, lim_v, reduceIte, decide_true, decide_false, Bool.not_true, Bool.not_false, Option.bind_some, Mi.lst_no, Mi.par2, Mi.par3, eq_self, and_self, Mi.mi6, Mi.mi7, Mi.mi8, Mi.mi9, Option.map_some, nLc, wipeE, okW, resE, r6, Int.toNat_natCast, l, a, le, List.all_cons, List.all_nil, Bool.and_true, Option.getD_some, Option.getD_none, and_self, Bool.not_true, Bool.not_false]
  | n + 1, .int i, h => same_flat trivial
  | n + 1, .bl i, h => same_flat trivial
  | n + 1, .non, h => same_flat trivial
  | n + 1, .str i, h => same_flat trivial
  | n + 1, .rls i, h => h.elim
  | n + 1, .dct i j, h => h.elim
  | n + 1, .ty i, h => h.elim
end Lw
namespace Lw
open Mi PySem
/-! ### == of plain data with itself -/
def flatq : D → Prop
  | .int _ => True
  | .bl _ => True
  | .non => True
  | .str x => PyData.strOk x = true
  | _ => False
def Pq : Nat → D → Prop
  | n + 1, .tup ds => ∀ d ∈ ds, Pq n d
  | n + 1, .lst ds => ∀ d ∈ ds, Pq n d
  | _, d => flatq d
def Nice (n : Nat) (x : PyData) : Prop := x.canLay0 = true ∧ x.depth ≤ n ∧ PyData.eqv x x = true
theorem Nice.mono {n m : Nat} {x : PyData} (h : Nice n x) (k : n ≤ m) : Nice m x := ⟨h.1, Nat.le_trans h.2.1 k, h.2.2⟩
theorem flatq_pd {d : D} (h : flatq d) : ∃ x, pd d = some x ∧ Nice 1 x := by
  cases d with
  | int i => exact ⟨_, rfl, rfl, Nat.zero_le _, by simp [PyData.eqv]⟩
  | bl i => exact ⟨_, rfl, rfl, Nat.zero_le _, by simp [PyData.eqv]⟩
  | non => exact ⟨_, rfl, rfl, Nat.zero_le _, rfl⟩
  | str i => exact ⟨_, rfl, h, Nat.zero_le _, by simp [PyData.eqv]⟩
  | _ => exact h.elim
theorem pdL_nice {n : Nat} : ∀ ds : List D, (∀ d ∈ ds, ∃ x, pd d = some x ∧ Nice n x) → ∃ xs, pdL ds = some xs ∧ PyData.canLayAll0 xs = true ∧ PyData.depthAll xs ≤ n ∧ PyData.eqvAll xs xs = true
  | [], _ => ⟨[], rfl, rfl, Nat.zero_le _, rfl⟩
  | d :: ds, h => by
    obtain ⟨x, h1, h2, h3, h4⟩ := h d (List.mem_cons_self ..)
    obtain ⟨xs, k1, k2, k3, k4⟩ := pdL_nice ds fun d hd => h d (List.mem_cons_of_mem _ hd)
    refine ⟨x :: xs, ?_, ?_, ?_, ?_⟩
    · simp only [pdL, h1, k1, Option.bind_some, Option.map_some]
    · simp only [PyData.canLayAll0, h2, k2, Bool.and_self]
    · simp only [PyData.depthAll]
      omega
    · simp only [PyData.eqvAll, h4, k4, Bool.and_self]
theorem pq_pd : ∀ (n : Nat) (d : D), Pq n d → ∃ x, pd d = some x ∧ Nice (n + 1) x
  | 0, d, h => (flatq_pd (by cases d <;> exact h))
  | n + 1, .tup ds, h => by
    obtain ⟨xs, h1, h2, h3, h4⟩ := pdL_nice ds fun d hd => pq_pd n d (h d hd)
    refine ⟨.tuple xs, by simp only [pd, h1, Option.map_some], h2, ?_, h4⟩
    simp only [PyData.depth]
    omega
  | n + 1, .lst ds, h => by
    obtain ⟨xs, h1, h2, h3, h4⟩ := pdL_nice ds fun d hd => pq_pd n d (h d hd)
    refine ⟨.list xs, by simp only [pd, h1, Option.map_some], h2, ?_, h4⟩
    simp only [PyData.depth]
    omega
  | n + 1, .int i, h => (flatq_pd h).imp fun _ ⟨a, b⟩ => ⟨a, b.mono (by omega)⟩
  | n + 1, .bl i, h => (flatq_pd h).imp fun _ ⟨a, b⟩ => ⟨a, b.mono (by omega)⟩
  | n + 1, .non, h => (flatq_pd h).imp fun _ ⟨a, b⟩ => ⟨a, b.mono (by omega)⟩
  | n + 1, .str i, h => (flatq_pd h).imp fun _ ⟨a, b⟩ => ⟨a, b.mono (by omega)⟩
  | n + 1, .rls i, h => h.elim
  | n + 1, .dct i j, h => h.elim
  | n + 1, .ty i, h => h.elim
theorem eqB_self {n : Nat} {d : D} (h : Pq n d) (hn : n ≤ 60) : eqB d d = some true := by
  obtain ⟨x, h1, h2, h3, h4⟩ := pq_pd n d h
  have e : eqDeep d d = some true := by
    have s : SeqAt.shaped x = true := by
      unfold SeqAt.shaped
      rw [h2, decide_eq_true (by omega : x.depth ≤ 64)]
      rfl
    unfold eqDeep
    rw [h1]
    simp only [Option.bind_some]
    rw [if_pos ⟨s, s⟩, h4]
  cases d with
  | int i => show some (decide (i = i)) = _; rw [decide_eq_true rfl]
  | bl i => show some (decide (i = i)) = _; rw [decide_eq_true rfl]
  | str i => show some (decide (i = i)) = _; rw [decide_eq_true rfl]
  | non => rfl
  | tup ds => exact e
  | lst ds => exact e
  | rls ds => exact e
  | dct a b => exact e
  | ty a => exact e
theorem eq_self {n : Nat} {d : D} (h : Pq n d) (hn : n ≤ 60) : gEq d d = some (.bl true) := by
  show (eqB d d).map _ = _
  rw [eqB_self h hn]
  rfl
theorem ne_self {n : Nat} {d : D} (h : Pq n d) (hn : n ≤ 60) : gNe d d = some (.bl false) := by
  show (eqB d d).map _ = _
  rw [eqB_self h hn]
  rfl
end Lw
namespace Lw
open Mi
/-- a slot that no list is held in -/
def nh : Sl → Prop
  | .un => True
  | .val _ => True
  | _ => False
theorem okW_one {e : En} {v : Nat} {s : Sl} (h : e[v]? = some s) (n : nh s) : okW e [v] = true := by
  unfold okW
  rw [List.all_cons, h]
  cases s <;> first | rfl | exact n.elim
theorem for_each {G : TD} {b : FS} (I : En → Prop) : ∀ (ds : List D) (e : En), I e → (∀ d ∈ ds, ∀ e, I e → ∃ e1, G d e = some e1 ∧ Go b e1 I) → ∃ e', forF G b ds e = .ok (.nx e') ∧ I e'
  | [], e, h, _ => ⟨e, rfl, h⟩
  | d :: ds, e, h, st => by
    obtain ⟨e1, g, e2, h2, i2⟩ := st d (List.mem_cons_self ..) e h
    obtain ⟨e', h3, i3⟩ := for_each I ds e2 i2 fun d hd => st d (List.mem_cons_of_mem _ hd)
    refine ⟨e', ?_, i3⟩
    rw [forF, g]
    simp only [h2]
    exact h3
theorem for_two {G : TD} {bd : FS} {a b : D} {e e1 : En} {Q1 Q2 : En → Prop} (g : G a e = some e1) (h : Go bd e1 Q1) (h2 : ∀ e2, Q1 e2 → ∃ e3, G b e2 = some e3 ∧ Go bd e3 Q2) : ∃ e', forF G bd [a, b] e = .ok (.nx e') ∧ Q2 e' := by
  obtain ⟨e2, h, q⟩ := h
  obtain ⟨e3, g3, e4, h4, q4⟩ := h2 e2 q
  refine ⟨e4, ?_, q4⟩
  rw [forF, g]
  simp only [h]
  rw [forF, g3]
  simp only [h4]
  rfl
/-- a def that draws: it returns d, and Q of the slots -/
def RtB (S : FS) (e : En) (d : D) (Q : En → Prop) : Prop := ∃ e', S e = .ok (.rt d e') ∧ Q e'
theorem RtB.seq {S U : FS} {e : En} {d : D} {Q : En → Prop} (h : Go S e fun e1 => RtB U e1 d Q) : RtB (sSeq S U) e d Q := by
  obtain ⟨e1, h1, e2, h2, q⟩ := h
  exact ⟨e2, by rw [seq_ap, h1]; exact h2, q⟩
theorem RtB.of {S : FS} {e e' : En} {d : D} {Q : En → Prop} (h : S e = .ok (.rt d e')) (q : Q e') : RtB S e d Q := ⟨e', h, q⟩
theorem runB_of {n : Nat} {S : FS} {ns : List Int} {ds : List D} {d : D} (h : RtB S (.brw (ns.map D.int) :: ds.map Sl.val ++ List.replicate (n - (ds.length + 1)) .un) d fun e' => ∃ ms : List Int, e'[0]? = some (.brw (ms.map D.int))) : ∃ ms, runB n S ns ds = .ok (d, ms) := by
  obtain ⟨e', h1, ms, h2⟩ := h
  refine ⟨ms, ?_⟩
  unfold runB
  rw [h1]
  simp only [h2, intsOf_map]
end Lw
namespace Lw
open Mi
/-! ### locks -/
abbrev nI (n : Nat) : D := .int (n : Int)
def lk (a b c d : Nat) : D := .tup [nI a, nI b, nI c, nI d]
structure LkOk (a b c d : Nat) : Prop where
  a0 : a ≤ 20
  b0 : 1 ≤ b
  b1 : b ≤ 1000
  c0 : a + 1 ≤ c
  c1 : c ≤ 200
  d0 : b ≤ d
  d1 : d ≤ 1000000
def wt (a b d j : Nat) : Nat := if a < j then min (b * 2 ^ (j - a - 1)) d else 0
theorem is_lock_eq {a b c d : Nat} (h : LkOk a b c d) : F_is_lock [lk a b c d] = .ok (.bl true) := by
  obtain ⟨h1, h2, h3, h4, h5, h6, h7⟩ := h
  have w1 := within_ok (v := (a : Int)) (lo := 0) (hi := 20) (by omega) (by omega)
  have w2 := within_ok (v := (b : Int)) (lo := 1) (hi := 1000) (by omega) (by omega)
  have w3 := within_ok (v := (c : Int)) (lo := (a : Int) + 1) (hi := 200) (by omega) (by omega)
  have w4 := within_ok (v := (d : Int)) (lo := (b : Int)) (hi := 1000000) (by omega) (by omega)
  unfold F_is_lock m_is_lock lk
  generalize F_is_within = q0 at *
  as_aux_lemma =>
    simp only [runA, seq_ap, Mi.mi0, Mi.mi1, Mi.mi2, Mi.mi3, Mi.mi4, Mi.mi5, Mi.mo0, Mi.mo1, Mi.mo2, Mi.mo3, Mi.mo8, Bool.false_eq_true, Mi.mo9, Nat.reduceAdd, Nat.reduceSub, Nat.reduceLeDiff, Nat.reduceLT, Nat.reduceEqDiff, Mi.mt0, List.getElem?_cons_zero, List.getElem?_cons_succ, List.set_cons_zero, List.set_cons_succ, List.map_cons, List.map_nil, List.length_cons, List.length_nil, List.nil_append, List.cons_append, List.append_nil, List.replicate_succ, List.replicate_zero, lim_v, reduceIte, decide_true, decide_false, Bool.not_true, Bool.not_false, Option.bind_some, Mi.lst_no, Mi.par2, Mi.par3, eq_self, and_self, Mi.mi6, Mi.mi7, Mi.mi8, Mi.mi9, Option.map_some, w1, w2, w3, w4]
theorem check_lock_eq {a b c d : Nat} (h : LkOk a b c d) : F_check_lock [lk a b c d] = .ok .non := by
  have w1 := is_lock_eq h
  have w2 := check_true
  unfold F_check_lock m_check_lock
  generalize lk a b c d = l at *
  generalize F_is_lock = q0 at *
  generalize F_check = q1 at *
  as_aux_lemma =>
    simp only [runA, seq_ap, Mi.mi0, Mi.mi1, Mi.mi2, Mi.mi3, Mi.mi4, Mi.mi5, Mi.mo0, Mi.mo1, Mi.mo2, Mi.mo3, Mi.mo8, Bool.false_eq_true, Mi.mo9, Nat.reduceAdd, Nat.reduceSub, Nat.reduceLeDiff, Nat.reduceLT, Nat.reduceEqDiff, Mi.mt0, List.getElem?_cons_zero, List.getElem?_cons_succ, List.set_cons_zero, List.set_cons_succ, List.map_cons, List.map_nil, List.length_cons, List.length_nil, List.nil_append, List.cons_append, List.append_nil, List.replicate_succ, List.replicate_zero, lim_v, reduceIte, decide_true, decide_false, Bool.not_true, Bool.not_false, Option.bind_some, Mi.lst_no, Mi.par2, Mi.par3, eq_self, and_self, Mi.mi6, Mi.mi7, Mi.mi8, Mi.mi9, Option.map_some, w1, w2]
theorem two_bd : Bd 2 1 := by unfold Bd; decide
theorem wait_by_eq {a b c d j : Nat} (h : LkOk a b c d) (hj : j ≤ 200) : F_wait_by [lk a b c d, nI j] = .ok (nI (wt a b d j)) := by
  obtain ⟨h1, h2, h3, h4, h5, h6, h7⟩ := h
  unfold F_wait_by m_wait_by lk wt
  by_cases c1 : a < j
  · rw [if_pos c1]
    have p := power_eq (x := 2) (n := (j : Int) - (a : Int) - 1) two_bd (by omega) (by omega) (by omega) (by omega)
    have e1 : ((j : Int) - (a : Int) - 1).toNat = j - a - 1 := by omega
    rw [e1] at p
    have k1 : decide ((a : Int) < (j : Int)) = true := decide_eq_true (by omega)
    have b2 : Bd ((2 : Int) ^ (j - a - 1)) 200 := (two_bd.pow (j - a - 1)).mono (by omega)
    have m := mul_ok (Bd.small (x := (b : Int)) (by omega) (by omega)) b2 (by omega)
    have e2 : (b : Int) * 2 ^ (j - a - 1) = ((b * 2 ^ (j - a - 1) : Nat) : Int) := by
      rw [Int.natCast_mul, Int.natCast_pow]
      rfl
    have e3 : (if (d : Int) < (b : Int) * 2 ^ (j - a - 1) then (d : Int) else (b : Int) * 2 ^ (j - a - 1)) = ((min (b * 2 ^ (j - a - 1)) d : Nat) : Int) := by
      rw [e2]
      split <;> omega
    generalize (2 : Int) ^ (j - a - 1) = P at *
    generalize min (b * 2 ^ (j - a - 1)) d = M at *
    generalize F_power = q0 at *
    as_aux_lemma =>
      simp only [runA, seq_ap, Mi.mi0, Mi.mi1, Mi.mi2, Mi.mi3, Mi.mi4, Mi.mi5, Mi.mo0, Mi.mo1, Mi.mo2, Mi.mo3, Mi.mo8, Bool.false_eq_true, Mi.mo9, Nat.reduceAdd, Nat.reduceSub, Nat.reduceLeDiff, Nat.reduceLT, Nat.reduceEqDiff, Mi.mt0, List.getElem?_cons_zero, List.getElem?_cons_succ, List.set_cons_zero, List.set_cons_succ, List.map_cons, List.map_nil, List.length_cons, List.length_nil, List.nil_append, List.cons_append, List.append_nil, List.replicate_succ, List.replicate_zero, lim_v, reduceIte, decide_true, decide_false, Bool.not_true, Bool.not_false, Option.bind_some, Mi.lst_no, Mi.par2, Mi.par3, eq_self, and_self, Mi.mi6, Mi.mi7, Mi.mi8, Mi.mi9, Option.map_some, p, k1, m, e3]
  · rw [if_neg c1]
    have k1 : decide ((a : Int) < (j : Int)) = false := decide_eq_false (by omega)
    change _ = R.ok (D.int 0)
    generalize F_power = q0 at *
    as_aux_lemma =>
      simp only [runA, seq_ap, Mi.mi0, Mi.mi1, Mi.mi2, Mi.mi3, Mi.mi4, Mi.mi5, Mi.mo0, Mi.mo1, Mi.mo2, Mi.mo3, Mi.mo8, Bool.false_eq_true, Mi.mo9, Nat.reduceAdd, Nat.reduceSub, Nat.reduceLeDiff, Nat.reduceLT, Nat.reduceEqDiff, Mi.mt0, List.getElem?_cons_zero, List.getElem?_cons_succ, List.set_cons_zero, List.set_cons_succ, List.map_cons, List.map_nil, List.length_cons, List.length_nil, List.nil_append, List.cons_append, List.append_nil, List.replicate_succ, List.replicate_zero, lim_v, reduceIte, decide_true, decide_false, Bool.not_true, Bool.not_false, Option.bind_some, Mi.lst_no, Mi.par2, Mi.par3, eq_self, and_self, Mi.mi6, Mi.mi7, Mi.mi8, Mi.mi9, Option.map_some, k1]
theorem wait_of_eq {a b c d j : Nat} (h : LkOk a b c d) (hj : j < c) : F_wait_of [lk a b c d, nI j] = .ok (nI (wt a b d j)) := by
  have w0 := check_lock_eq h
  have w1 := wait_by_eq (j := j) h (by have := h.c1; omega)
  have w2 := within_ok (v := (j : Int)) (lo := 0) (hi := (c : Int) - 1) (by omega) (by omega)
  have w3 := check_true
  have e : L2.atI [nI a, nI b, nI c, nI d] 2 = some (nI c) := Mi.mo9.2.2.1 _ _ _ _
  unfold F_wait_of m_wait_of
  unfold lk at *
  generalize F_check_lock = q0 at *
  generalize F_wait_by = q1 at *
  generalize F_is_within = q2 at *
  generalize F_check = q3 at *
  as_aux_lemma =>
    simp only [runA, seq_ap, Mi.mi0, Mi.mi1, Mi.mi2, Mi.mi3, Mi.mi4, Mi.mi5, Mi.mo0, Mi.mo1, Mi.mo2, Mi.mo3, Mi.mo8, Bool.false_eq_true, Mi.mo9, Nat.reduceAdd, Nat.reduceSub, Nat.reduceLeDiff, Nat.reduceLT, Nat.reduceEqDiff, Mi.mt0, List.getElem?_cons_zero, List.getElem?_cons_succ, List.set_cons_zero, List.set_cons_succ, List.map_cons, List.map_nil, List.length_cons, List.length_nil, List.nil_append, List.cons_append, List.append_nil, List.replicate_succ, List.replicate_zero, lim_v, reduceIte, decide_true, decide_false, Bool.not_true, Bool.not_false, Option.bind_some, Mi.lst_no, Mi.par2, Mi.par3, eq_self, and_self, Mi.mi6, Mi.mi7, Mi.mi8, Mi.mi9, Option.map_some, w0, w1, w2, w3]
/-! ### states and tries -/
def stD (c : Nat) (s : Nat × Nat) : D := .tup [nI s.1, nI s.2, .bl (decide (s.1 = c))]
theorem is_state_eq {a b c d : Nat} {s : Nat × Nat} (hs : s.1 ≤ c) : F_is_state_by [lk a b c d, stD c s] = .ok (.bl true) := by
  have w1 := within_ok (v := (s.1 : Int)) (lo := 0) (hi := (c : Int)) (by omega) (by omega)
  have w2 := is_count_nat s.2
  have w3 : decide ((s.1 : Int) = (c : Int)) = decide (s.1 = c) := decide_eq_decide.2 Int.ofNat_inj
  unfold F_is_state_by m_is_state_by lk stD
  generalize F_is_within = q0 at *
  generalize F_is_count = q1 at *
  generalize decide (s.1 = c) = k at *
  as_aux_lemma =>
    simp only [runA, seq_ap, Mi.mi0, Mi.mi1, Mi.mi2, Mi.mi3, Mi.mi4, Mi.mi5, Mi.mo0, Mi.mo1, Mi.mo2, Mi.mo3, Mi.mo8, Bool.false_eq_true, Mi.mo9, Nat.reduceAdd, Nat.reduceSub, Nat.reduceLeDiff, Nat.reduceLT, Nat.reduceEqDiff, Mi.mt0, List.getElem?_cons_zero, List.getElem?_cons_succ, List.set_cons_zero, List.set_cons_succ, List.map_cons, List.map_nil, List.length_cons, List.length_nil, List.nil_append, List.cons_append, List.append_nil, List.replicate_succ, List.replicate_zero, lim_v, reduceIte, decide_true, decide_false, Bool.not_true, Bool.not_false, Option.bind_some, Mi.lst_no, Mi.par2, Mi.par3, eq_self, and_self, Mi.mi6, Mi.mi7, Mi.mi8, Mi.mi9, Option.map_some, w1, w2, w3]
def tstep (a b c d : Nat) (s : Nat × Nat) (x : Nat × Bool) : Bool × (Nat × Nat) :=
  if s.1 = c ∨ x.1 < s.2 + wt a b d s.1 then (false, s) else if x.2 = true then (true, (0, x.1)) else (true, (s.1 + 1, x.1))
theorem tstep_le {a b c d : Nat} {s : Nat × Nat} {x : Nat × Bool} (h : s.1 ≤ c) : (tstep a b c d s x).2.1 ≤ c := by
  unfold tstep
  split
  · exact h
  · split
    · exact Nat.zero_le _
    · show s.1 + 1 ≤ c
      omega
theorem tried_by_eq {a b c d : Nat} (h : LkOk a b c d) {s : Nat × Nat} {x : Nat × Bool} (hs : s.1 ≤ c) :
    F_tried_by [lk a b c d, stD c s, nI x.1, .bl x.2] = .ok (.tup [.bl (tstep a b c d s x).1, stD c (tstep a b c d s x).2]) := by
  obtain ⟨w, t⟩ := s
  obtain ⟨n, r⟩ := x
  have w1 := wait_by_eq (j := w) h (by have := h.c1; have : w ≤ c := hs; omega)
  have c0 := h.c0
  unfold F_tried_by m_tried_by tstep stD
  unfold lk at *
  simp only at hs ⊢
  by_cases c1 : w = c
  · rw [if_pos (.inl c1)]
    have k1 : decide (w = c) = true := decide_eq_true c1
    generalize F_wait_by = q0 at *
    as_aux_lemma =>
      simp only [runA, seq_ap, Mi.mi0, Mi.mi1, Mi.mi2, Mi.mi3, Mi.mi4, Mi.mi5, Mi.mo0, Mi.mo1, Mi.mo2, Mi.mo3, Mi.mo8, Bool.false_eq_true, Mi.mo9, Nat.reduceAdd, Nat.reduceSub, Nat.reduceLeDiff, Nat.reduceLT, Nat.reduceEqDiff, Mi.mt0, List.getElem?_cons_zero, List.getElem?_cons_succ, List.set_cons_zero, List.set_cons_succ, List.map_cons, List.map_nil, List.length_cons, List.length_nil, List.nil_append, List.cons_append, List.append_nil, List.replicate_succ, List.replicate_zero, lim_v, reduceIte, decide_true, decide_false, Bool.not_true, Bool.not_false, Option.bind_some, Mi.lst_no, Mi.par2, Mi.par3, eq_self, and_self, Mi.mi6, Mi.mi7, Mi.mi8, Mi.mi9, Option.map_some, k1]
  · have k1 : decide (w = c) = false := decide_eq_false c1
    by_cases c2 : n < t + wt a b d w
    · rw [if_pos (.inr c2)]
      have k2 : decide ((n : Int) < (t : Int) + (wt a b d w : Int)) = true := decide_eq_true (by omega)
      generalize wt a b d w = v at *
      generalize F_wait_by = q0 at *
      as_aux_lemma =>
        simp only [runA, seq_ap, Mi.mi0, Mi.mi1, Mi.mi2, Mi.mi3, Mi.mi4, Mi.mi5, Mi.mo0, Mi.mo1, Mi.mo2, Mi.mo3, Mi.mo8, Bool.false_eq_true, Mi.mo9, Nat.reduceAdd, Nat.reduceSub, Nat.reduceLeDiff, Nat.reduceLT, Nat.reduceEqDiff, Mi.mt0, List.getElem?_cons_zero, List.getElem?_cons_succ, List.set_cons_zero, List.set_cons_succ, List.map_cons, List.map_nil, List.length_cons, List.length_nil, List.nil_append, List.cons_append, List.append_nil, List.replicate_succ, List.replicate_zero, lim_v, reduceIte, decide_true, decide_false, Bool.not_true, Bool.not_false, Option.bind_some, Mi.lst_no, Mi.par2, Mi.par3, eq_self, and_self, Mi.mi6, Mi.mi7, Mi.mi8, Mi.mi9, Option.map_some, k1, k2, w1]
    · rw [if_neg (by rintro (h | h); exact c1 h; exact c2 h)]
      have k2 : decide ((n : Int) < (t : Int) + (wt a b d w : Int)) = false := decide_eq_false (by omega)
      have k3 : decide ((w : Int) + 1 = (c : Int)) = decide (w + 1 = c) := decide_eq_decide.2 (by omega)
      have k4 : decide (0 = c) = false := decide_eq_false (by omega)
      have k5 : ((w + 1 : Nat) : Int) = (w : Int) + 1 := rfl
      generalize wt a b d w = v at *
      cases r with
      | true =>
        rw [if_pos rfl]
        change _ = R.ok (D.tup [.bl true, .tup [.int 0, nI n, .bl (decide (0 = c))]])
        generalize F_wait_by = q0 at *
        as_aux_lemma =>
          simp only [runA, seq_ap, Mi.mi0, Mi.mi1, Mi.mi2, Mi.mi3, Mi.mi4, Mi.mi5, Mi.mo0, Mi.mo1, Mi.mo2, Mi.mo3, Mi.mo8, Bool.false_eq_true, Mi.mo9, Nat.reduceAdd, Nat.reduceSub, Nat.reduceLeDiff, Nat.reduceLT, Nat.reduceEqDiff, Mi.mt0, List.getElem?_cons_zero, List.getElem?_cons_succ, List.set_cons_zero, List.set_cons_succ, List.map_cons, List.map_nil, List.length_cons, List.length_nil, List.nil_append, List.cons_append, List.append_nil, List.replicate_succ, List.replicate_zero, lim_v, reduceIte, decide_true, decide_false, Bool.not_true, Bool.not_false, Option.bind_some, Mi.lst_no, Mi.par2, Mi.par3, eq_self, and_self, Mi.mi6, Mi.mi7, Mi.mi8, Mi.mi9, Option.map_some, k1, k2, w1, k4]
      | false =>
        rw [if_neg (by simp)]
        change _ = R.ok (D.tup [.bl true, .tup [.int ((w : Int) + 1), nI n, .bl (decide (w + 1 = c))]])
        generalize F_wait_by = q0 at *
        as_aux_lemma =>
          simp only [runA, seq_ap, Mi.mi0, Mi.mi1, Mi.mi2, Mi.mi3, Mi.mi4, Mi.mi5, Mi.mo0, Mi.mo1, Mi.mo2, Mi.mo3, Mi.mo8, Bool.false_eq_true, Mi.mo9, Nat.reduceAdd, Nat.reduceSub, Nat.reduceLeDiff, Nat.reduceLT, Nat.reduceEqDiff, Mi.mt0, List.getElem?_cons_zero, List.getElem?_cons_succ, List.set_cons_zero, List.set_cons_succ, List.map_cons, List.map_nil, List.length_cons, List.length_nil, List.nil_append, List.cons_append, List.append_nil, List.replicate_succ, List.replicate_zero, lim_v, reduceIte, decide_true, decide_false, Bool.not_true, Bool.not_false, Option.bind_some, Mi.lst_no, Mi.par2, Mi.par3, eq_self, and_self, Mi.mi6, Mi.mi7, Mi.mi8, Mi.mi9, Option.map_some, k1, k2, w1, k3]
theorem tried_eq {a b c d : Nat} (h : LkOk a b c d) {s : Nat × Nat} {x : Nat × Bool} (hs : s.1 ≤ c) :
    F_tried [lk a b c d, stD c s, nI x.1, .bl x.2] = .ok (.tup [.bl (tstep a b c d s x).1, stD c (tstep a b c d s x).2]) := by
  have w0 := check_lock_eq h
  have w1 := tried_by_eq h (x := x) hs
  have w2 := is_state_eq (a := a) (b := b) (d := d) hs
  have w3 := is_count_nat x.1
  have w4 := check_true
  unfold F_tried m_tried
  generalize (tstep a b c d s x).1 = z1 at *
  generalize stD c (tstep a b c d s x).2 = z at *
  generalize stD c s = y at *
  generalize lk a b c d = l at *
  generalize F_check_lock = q0 at *
  generalize F_tried_by = q1 at *
  generalize F_is_state_by = q2 at *
  generalize F_is_count = q3 at *
  generalize F_check = q4 at *
  as_aux_lemma =>
    simp only [runA, seq_ap, Mi.mi0, Mi.mi1, Mi.mi2, Mi.mi3, Mi.mi4, Mi.mi5, Mi.mo0, Mi.mo1, Mi.mo2, Mi.mo3, Mi.mo8, Bool.false_eq_true, Mi.mo9, Nat.reduceAdd, Nat.reduceSub, Nat.reduceLeDiff, Nat.reduceLT, Nat.reduceEqDiff, Mi.mt0, List.getElem?_cons_zero, List.getElem?_cons_succ, List.set_cons_zero, List.set_cons_succ, List.map_cons, List.map_nil, List.length_cons, List.length_nil, List.nil_append, List.cons_append, List.append_nil, List.replicate_succ, List.replicate_zero, lim_v, reduceIte, decide_true, decide_false, Bool.not_true, Bool.not_false, Option.bind_some, Mi.lst_no, Mi.par2, Mi.par3, eq_self, and_self, Mi.mi6, Mi.mi7, Mi.mi8, Mi.mi9, Option.map_some, w0, w1, w2, w3, w4]
end Lw
namespace Lw
open Mi
def asc (ns : List Nat) : Bool := (ns.zip (ns.drop 1)).all fun p => decide (p.1 ≤ p.2)
theorem le_nat (i j : Nat) : decide ((i : Int) ≤ (j : Int)) = decide (i ≤ j) := decide_eq_decide.2 Int.ofNat_le
theorem is_sorted_eq {ns : List Nat} (hl : ns.length ≤ 1000000) : F_is_sorted [.lst (ns.map nI)] = .ok (.bl (asc ns)) := by
  have c := cutD_from (ns.map nI) 1
  have z := zipD_map nI nI ns (ns.drop 1)
  have l : lcF [1, 2] (gT 2 (gsC (gN 1) (gsC (gN 2) (gsN)))) tYes1 f_is_sorted_0 ((ns.zip (ns.drop 1)).map fun p : Nat × Nat => D.tup [nI p.1, nI p.2]) [.val (.lst (ns.map nI)), .un, .un] = .ok ((ns.zip (ns.drop 1)).map fun p : Nat × Nat => D.bl (decide (p.1 ≤ p.2)), [.val (.lst (ns.map nI)), .un, .un]) := by
    refine lcF_all _ (fun p : Nat × Nat => D.bl (decide (p.1 ≤ p.2))) _ fun p hp => ⟨[.val (.lst (ns.map nI)), .val (nI p.1), .val (nI p.2)], rfl, ?_, rfl⟩
    have e := le_nat p.1 p.2
    unfold f_is_sorted_0
    generalize ns.map nI = q at *
    as_aux_lemma =>
      simp only [seq_ap, Mi.mi0, Mi.mi1, Mi.mi2, Mi.mi3, Mi.mi4, Mi.mi5, Mi.mo0, Mi.mo1, Mi.mo2, Mi.mo3, Mi.mo8, Bool.false_eq_true, Mi.mo9, Nat.reduceAdd, Nat.reduceSub, Nat.reduceLeDiff, Nat.reduceLT, Nat.reduceEqDiff, Mi.mt0, List.getElem?_cons_zero, List.getElem?_cons_succ, List.set_cons_zero, List.set_cons_succ, List.map_cons, List.map_nil, List.length_cons, List.length_nil, List.nil_append, List.cons_append, List.append_nil, List.replicate_succ, List.replicate_zero, lim_v, reduceIte, decide_true, decide_false, Bool.not_true, Bool.not_false, Option.bind_some, Mi.lst_no, Mi.par2, Mi.par3, eq_self, and_self, Mi.mi6, Mi.mi7, Mi.mi8, Mi.mi9, Option.map_some, e]
  rw [← z, List.map_drop, ← c] at l
  have a := fAll_map (ns.zip (ns.drop 1)) fun p => decide (p.1 ≤ p.2)
  have le : ((ns.zip (ns.drop 1)).map fun p : Nat × Nat => D.bl (decide (p.1 ≤ p.2))).length ≤ 16777216 := by
    rw [List.length_map, List.length_zip]
    omega
  unfold F_is_sorted m_is_sorted
  change _ = R.ok (D.bl ((ns.zip (ns.drop 1)).all fun p => decide (p.1 ≤ p.2)))
  rw [show (((1 : Nat) : Int)) = 1 from rfl] at l
  generalize ((ns.zip (ns.drop 1)).map fun p : Nat × Nat => D.bl (decide (p.1 ≤ p.2))) = w at *
  generalize ((ns.zip (ns.drop 1)).all fun p => decide (p.1 ≤ p.2)) = v at *
  generalize ns.map nI = q at *
  generalize f_is_sorted_0 = f at *
  as_aux_lemma =>
    simp only [runA, seq_ap, Mi.mi0, Mi.mi1, Mi.mi2, Mi.mi3, Mi.mi4, Mi.mi5, Mi.mo0, Mi.mo1, Mi.mo2, Mi.mo3, Mi.mo8, Bool.false_eq_true, Mi.mo9, Nat.reduceAdd, Nat.reduceSub, Nat.reduceLeDiff, Nat.reduceLT, Nat.reduceEqDiff, Mi.mt0, List.getElem?_cons_zero, List.getElem?_cons_succ, List.set_cons_zero, List.set_cons_succ, List.map_cons, List.map_nil, List.length_cons, List.length_nil, List.nil_append, List.cons_append, List.append_nil, List.replicate_succ, List.replicate_zero, lim_v, reduceIte, decide_true, decide_false, Bool.not_true, Bool.not_false, Option.bind_some, Mi.lst_no, Mi.par2, Mi.par3, eq_self, and_self, Mi.mi6, Mi.mi7, Mi.mi8, Mi.mi9, Option.map_some, nLc, wipeE, okW, resE, l, a, le, List.all_cons, List.all_nil, Bool.and_true, Option.getD_some, Option.getD_none, and_self]
def tr (x : Nat × Bool) : D := .tup [nI x.1, .bl x.2]
theorem is_try_eq (x : Nat × Bool) : F_is_try [tr x] = .ok (.bl true) := by
  have h := is_count_nat x.1
  unfold F_is_try m_is_try tr
  generalize F_is_count = q0 at *
  as_aux_lemma =>
    simp only [runA, seq_ap, Mi.mi0, Mi.mi1, Mi.mi2, Mi.mi3, Mi.mi4, Mi.mi5, Mi.mo0, Mi.mo1, Mi.mo2, Mi.mo3, Mi.mo8, Bool.false_eq_true, Mi.mo9, Nat.reduceAdd, Nat.reduceSub, Nat.reduceLeDiff, Nat.reduceLT, Nat.reduceEqDiff, Mi.mt0, List.getElem?_cons_zero, List.getElem?_cons_succ, List.set_cons_zero, List.set_cons_succ, List.map_cons, List.map_nil, List.length_cons, List.length_nil, List.nil_append, List.cons_append, List.append_nil, List.replicate_succ, List.replicate_zero, lim_v, reduceIte, decide_true, decide_false, Bool.not_true, Bool.not_false, Option.bind_some, Mi.lst_no, Mi.par2, Mi.par3, eq_self, and_self, Mi.mi6, Mi.mi7, Mi.mi8, Mi.mi9, Option.map_some, h]
def hstep (a b c d : Nat) (s : List Bool × (Nat × Nat)) (x : Nat × Bool) : List Bool × (Nat × Nat) := (s.1 ++ [(tstep a b c d s.2 x).1], (tstep a b c d s.2 x).2)
def bD (b : Bool) : D := .bl b
def hres (c : Nat) (s : List Bool × (Nat × Nat)) : D := .tup [.lst (s.1.map bD), stD c s.2]
def HP (c : Nat) (k : Nat) (s : List Bool × (Nat × Nat)) : Prop := s.1.length = k ∧ s.2.1 ≤ c
theorem hstep_ok {a b c d k : Nat} {s : List Bool × (Nat × Nat)} {x : Nat × Bool} (h : HP c k s) : HP c (k + 1) (hstep a b c d s x) := by
  refine ⟨?_, tstep_le h.2⟩
  show (s.1 ++ _).length = _
  rw [List.length_append, h.1]
  rfl
theorem heard_loop {a b c d : Nat} (h : LkOk a b c d) (xs : List (Nat × Bool)) (hl : xs.length ≤ 1000000) (v1 : D) : ∃ t : Sl × Sl × Sl, forF (gT 2 (gsC (gN 4) (gsC (gN 5) (gsN)))) b_heard_0 (xs.map tr) [.val (lk a b c d), .val v1, .own [], .val (stD c (0, 0)), .un, .un, .un, .un] =
    .ok (.nx [.val (lk a b c d), .val v1, .own ((xs.foldl (hstep a b c d) ([], (0, 0))).1.map bD), .val (stD c (xs.foldl (hstep a b c d) ([], (0, 0))).2), t.1, t.2.1, t.2.2, .un]) := by
  obtain ⟨t, h1, _⟩ := for_fold (G := gT 2 (gsC (gN 4) (gsC (gN 5) (gsN)))) (b := b_heard_0) tr (fun (s : List Bool × (Nat × Nat)) (t : Sl × Sl × Sl) => [.val (lk a b c d), .val v1, .own (s.1.map bD), .val (stD c s.2), t.1, t.2.1, t.2.2, .un]) (hstep a b c d) (HP c) xs 0 ([], (0, 0)) (.un, .un, .un) ⟨rfl, Nat.zero_le _⟩ fun j x s t hx hp => by
    rw [Nat.zero_add] at hp ⊢
    have hj : j < xs.length := by
      rcases Nat.lt_or_ge j xs.length with h | h
      · exact h
      · rw [List.getElem?_eq_none h] at hx; cases hx
    refine ⟨[.val (lk a b c d), .val v1, .own (s.1.map bD), .val (stD c s.2), .val (nI x.1), .val (.bl x.2), t.2.2, .un], (.val (nI x.1), .val (.bl x.2), .val (.bl (tstep a b c d s.2 x).1)), rfl, ?_, hstep_ok hp⟩
    have w := tried_by_eq h (x := x) hp.2
    have le : (s.1.map bD).length < 16777216 := by
      rw [List.length_map, hp.1]
      omega
    have e : (hstep a b c d s x).1.map bD = s.1.map bD ++ [.bl (tstep a b c d s.2 x).1] := by
      show (s.1 ++ _).map bD = _
      rw [List.map_append]
      rfl
    rw [e]
    change _ = R.ok (Fl.nx [_, _, _, .val (stD c (tstep a b c d s.2 x).2), _, _, _, _])
    generalize s.1.map bD = l at *
    generalize stD c s.2 = z at *
    generalize stD c (tstep a b c d s.2 x).2 = z2 at *
    generalize (tstep a b c d s.2 x).1 = z3 at *
    generalize lk a b c d = lo at *
    unfold b_heard_0
    generalize F_tried_by = q0 at *
    as_aux_lemma =>
      simp only [seq_ap, Mi.mi0, Mi.mi1, Mi.mi2, Mi.mi3, Mi.mi4, Mi.mi5, Mi.mo0, Mi.mo1, Mi.mo2, Mi.mo3, Mi.mo8, Bool.false_eq_true, Mi.mo9, Nat.reduceAdd, Nat.reduceSub, Nat.reduceLeDiff, Nat.reduceLT, Nat.reduceEqDiff, Mi.mt0, List.getElem?_cons_zero, List.getElem?_cons_succ, List.set_cons_zero, List.set_cons_succ, List.map_cons, List.map_nil, List.length_cons, List.length_nil, List.nil_append, List.cons_append, List.append_nil, List.replicate_succ, List.replicate_zero, lim_v, reduceIte, decide_true, decide_false, Bool.not_true, Bool.not_false, Option.bind_some, Mi.lst_no, Mi.par2, Mi.par3, eq_self, and_self, Mi.mi6, Mi.mi7, Mi.mi8, Mi.mi9, Option.map_some, w, le]
  exact ⟨t, h1⟩
theorem heard_eq {a b c d : Nat} (h : LkOk a b c d) (xs : List (Nat × Bool)) (hl : xs.length ≤ 1000000) (ho : asc (xs.map (·.1)) = true) : F_heard [lk a b c d, .lst (xs.map tr)] = .ok (hres c (xs.foldl (hstep a b c d) ([], (0, 0)))) := by
  obtain ⟨⟨t1, t2, t3⟩, hloop⟩ := heard_loop h xs hl (.lst (xs.map tr))
  have w0 := check_lock_eq h
  have w1 := check_true
  have w2 := is_sorted_eq (ns := xs.map (·.1)) (by rw [List.length_map]; exact hl)
  rw [ho, List.map_map] at w2
  have l1 : lcF [7] (gN 7) tYes1 f_heard_0 (xs.map tr) [.val (lk a b c d), .val (.lst (xs.map tr)), .un, .un, .un, .un, .un, .un] = .ok (xs.map fun _ => D.bl true, [.val (lk a b c d), .val (.lst (xs.map tr)), .un, .un, .un, .un, .un, .un]) := by
    refine lcF_all _ (fun _ => D.bl true) _ fun x hx => ⟨[.val (lk a b c d), .val (.lst (xs.map tr)), .un, .un, .un, .un, .un, .val (tr x)], rfl, ?_, rfl⟩
    have e := is_try_eq x
    unfold f_heard_0
    generalize lk a b c d = lo at *
    generalize xs.map tr = q at *
    generalize tr x = q2 at *
    generalize F_is_try = q0 at *
    as_aux_lemma =>
      simp only [seq_ap, Mi.mi0, Mi.mi1, Mi.mi2, Mi.mi3, Mi.mi4, Mi.mi5, Mi.mo0, Mi.mo1, Mi.mo2, Mi.mo3, Mi.mo8, Bool.false_eq_true, Mi.mo9, Nat.reduceAdd, Nat.reduceSub, Nat.reduceLeDiff, Nat.reduceLT, Nat.reduceEqDiff, Mi.mt0, List.getElem?_cons_zero, List.getElem?_cons_succ, List.set_cons_zero, List.set_cons_succ, List.map_cons, List.map_nil, List.length_cons, List.length_nil, List.nil_append, List.cons_append, List.append_nil, List.replicate_succ, List.replicate_zero, lim_v, reduceIte, decide_true, decide_false, Bool.not_true, Bool.not_false, Option.bind_some, Mi.lst_no, Mi.par2, Mi.par3, eq_self, and_self, Mi.mi6, Mi.mi7, Mi.mi8, Mi.mi9, Option.map_some, e]
  have l2 : lcF [7] (gN 7) tYes1 f_heard_1 (xs.map tr) [.val (lk a b c d), .val (.lst (xs.map tr)), .un, .un, .un, .un, .un, .un] = .ok (xs.map (nI ∘ fun x : Nat × Bool => x.1), [.val (lk a b c d), .val (.lst (xs.map tr)), .un, .un, .un, .un, .un, .un]) := by
    refine lcF_all _ (nI ∘ fun x : Nat × Bool => x.1) _ fun x hx => ⟨[.val (lk a b c d), .val (.lst (xs.map tr)), .un, .un, .un, .un, .un, .val (tr x)], rfl, ?_, rfl⟩
    unfold f_heard_1 tr
    generalize lk a b c d = lo at *
    change _ = R.ok (nI x.1, _)
    generalize xs.map (fun x : Nat × Bool => D.tup [nI x.1, .bl x.2]) = q at *
    generalize nI x.1 = q2 at *
    as_aux_lemma =>
      simp only [seq_ap, Mi.mi0, Mi.mi1, Mi.mi2, Mi.mi3, Mi.mi4, Mi.mi5, Mi.mo0, Mi.mo1, Mi.mo2, Mi.mo3, Mi.mo8, Bool.false_eq_true, Mi.mo9, Nat.reduceAdd, Nat.reduceSub, Nat.reduceLeDiff, Nat.reduceLT, Nat.reduceEqDiff, Mi.mt0, List.getElem?_cons_zero, List.getElem?_cons_succ, List.set_cons_zero, List.set_cons_succ, List.map_cons, List.map_nil, List.length_cons, List.length_nil, List.nil_append, List.cons_append, List.append_nil, List.replicate_succ, List.replicate_zero, lim_v, reduceIte, decide_true, decide_false, Bool.not_true, Bool.not_false, Option.bind_some, Mi.lst_no, Mi.par2, Mi.par3, eq_self, and_self, Mi.mi6, Mi.mi7, Mi.mi8, Mi.mi9, Option.map_some]
  have a1 := fAll_true xs
  have le1 : (xs.map fun _ => D.bl true).length ≤ 16777216 := by rw [List.length_map]; omega
  have le2 : (xs.map (nI ∘ fun x : Nat × Bool => x.1)).length ≤ 16777216 := by rw [List.length_map]; omega
  have st0 : stD c (0, 0) = .tup [.int 0, .int 0, .bl (decide (0 = c))] := rfl
  have cz : decide (0 = c) = false := decide_eq_false (by have := h.c0; omega)
  rw [st0, cz] at hloop
  unfold F_heard m_heard hres
  generalize xs.foldl (hstep a b c d) ([], (0, 0)) = s at *
  generalize stD c s.2 = z at *
  generalize s.1.map bD = z2 at *
  generalize (xs.map fun _ => D.bl true) = y1 at *
  generalize xs.map (nI ∘ fun x : Nat × Bool => x.1) = y2 at *
  generalize xs.map tr = y3 at *
  generalize lk a b c d = lo at *
  generalize F_check_lock = q0 at *
  generalize F_check = q1 at *
  generalize F_is_sorted = q2 at *
  generalize f_heard_0 = q3 at *
  generalize f_heard_1 = q4 at *
  generalize b_heard_0 = q5 at *
  as_aux_lemma =>
    simp only [runA, seq_ap, Mi.mi0, Mi.mi1, Mi.mi2, Mi.mi3, Mi.mi4, Mi.mi5, Mi.mo0, Mi.mo1, Mi.mo2, Mi.mo3, Mi.mo8, Bool.false_eq_true, Mi.mo9, Nat.reduceAdd, Nat.reduceSub, Nat.reduceLeDiff, Nat.reduceLT, Nat.reduceEqDiff, Mi.mt0, List.getElem?_cons_zero, List.getElem?_cons_succ, List.set_cons_zero, List.set_cons_succ, List.map_cons, List.map_nil, List.length_cons, List.length_nil, List.nil_append, List.cons_append, List.append_nil, List.replicate_succ, List.replicate_zero, lim_v, reduceIte, decide_true, decide_false, Bool.not_true, Bool.not_false, Option.bind_some, Mi.lst_no, Mi.par2, Mi.par3, eq_self, and_self, Mi.mi6, Mi.mi7, Mi.mi8, Mi.mi9, Option.map_some, nLc, wipeE, okW, resE, w0, w1, w2, l1, l2, a1, le1, le2, hloop, List.all_cons, List.all_nil, Bool.and_true, Option.getD_some, Option.getD_none, and_self]
end Lw
namespace Lw
open Mi
/-! ### seconds -/
def T (a b d : Nat) : Nat → Nat
  | 0 => 0
  | k + 1 => T a b d k + wt a b d k
def sumsL (a b d c : Nat) : List Nat := (List.range c).map fun j => T a b d (j + 1)
theorem sumsL_succ (a b d c : Nat) : sumsL a b d (c + 1) = sumsL a b d c ++ [T a b d (c + 1)] := by
  unfold sumsL
  rw [List.range_succ, List.map_append]
  rfl
theorem sumsL_len (a b d c : Nat) : (sumsL a b d c).length = c := by
  unfold sumsL
  rw [List.length_map, List.length_range]
theorem sumsL_get {a b d c j : Nat} (h : j < c) : (sumsL a b d c)[j]? = some (T a b d (j + 1)) := by
  unfold sumsL
  rw [List.getElem?_map, List.getElem?_range h]
  rfl
theorem app_nI (l : List Nat) (x : Nat) : l.map nI ++ [nI x] = (l ++ [x]).map nI := by simp
theorem times_loop {a b c d : Nat} (h : LkOk a b c d) : ∃ s, forF (gN 3) b_times_by_0 (rangeD 0 c) [.val (lk a b c d), .own [], .val (.int 0), .un] = .ok (.nx [.val (lk a b c d), .own ((sumsL a b d c).map nI), .val (nI (T a b d c)), s]) := by
  obtain ⟨e', h1, s', rfl⟩ := for_rng (G := gN 3) (b := b_times_by_0) (lo := 0) (n := c) (fun k e => ∃ s, e = [.val (lk a b c d), .own ((sumsL a b d k).map nI), .val (nI (T a b d k)), s]) ⟨.un, rfl⟩ fun j e hj ⟨s, he⟩ => by
    subst he
    refine ⟨_, _, rfl, ?_, .val (.int (0 + j)), rfl⟩
    have w := wait_by_eq (j := j) h (by have := h.c1; omega)
    have le : ((sumsL a b d j).map nI).length < 16777216 := by
      rw [List.length_map, sumsL_len]
      have := h.c1
      omega
    rw [sumsL_succ, List.map_append]
    change _ = R.ok (Fl.nx [_, .own ((sumsL a b d j).map nI ++ [nI (T a b d j + wt a b d j)]), .val (nI (T a b d j + wt a b d j)), _])
    unfold nI at *
    rw [Int.natCast_add]
    generalize (sumsL a b d j).map (fun n : Nat => D.int (n : Int)) = l at *
    generalize T a b d j = t at *
    generalize wt a b d j = v at *
    generalize lk a b c d = lo at *
    unfold b_times_by_0
    generalize F_wait_by = q0 at *
    as_aux_lemma =>
      simp only [seq_ap, Mi.mi0, Mi.mi1, Mi.mi2, Mi.mi3, Mi.mi4, Mi.mi5, Mi.mo0, Mi.mo1, Mi.mo2, Mi.mo3, Mi.mo8, Bool.false_eq_true, Mi.mo9, Nat.reduceAdd, Nat.reduceSub, Nat.reduceLeDiff, Nat.reduceLT, Nat.reduceEqDiff, Mi.mt0, List.getElem?_cons_zero, List.getElem?_cons_succ, List.set_cons_zero, List.set_cons_succ, List.map_cons, List.map_nil, List.length_cons, List.length_nil, List.nil_append, List.cons_append, List.append_nil, List.replicate_succ, List.replicate_zero, lim_v, reduceIte, decide_true, decide_false, Bool.not_true, Bool.not_false, Option.bind_some, Mi.lst_no, Mi.par2, Mi.par3, eq_self, and_self, Mi.mi6, Mi.mi7, Mi.mi8, Mi.mi9, Option.map_some, Int.zero_add, w, le]
  exact ⟨s', h1⟩
theorem lk2 (a b c d : Nat) : L2.atI [nI a, nI b, nI c, nI d] 2 = some (nI c) := Mi.mo9.2.2.1 _ _ _ _
theorem gIx_lk2 (a b c d : Nat) : gIx (lk a b c d) (.int 2) = some (nI c) := lk2 a b c d
theorem times_eq {a b c d : Nat} (h : LkOk a b c d) : F_times_by [lk a b c d] = .ok (.lst ((sumsL a b d c).map nI)) := by
  obtain ⟨s, l⟩ := times_loop h
  have r6 := r62_of (show (0 : Int) ≤ (c : Int) by omega) (by have := h.c1; omega)
  have g := gIx_lk2 a b c d
  unfold F_times_by m_times_by
  unfold nI at *
  generalize (sumsL a b d c).map (fun n : Nat => D.int (n : Int)) = q at *
  generalize lk a b c d = lo at *
  generalize b_times_by_0 = q0 at *
  as_aux_lemma =>
    simp only [runA, seq_ap, Mi.mi0, Mi.mi1, Mi.mi2, Mi.mi3, Mi.mi4, Mi.mi5, Mi.mo0, Mi.mo1, Mi.mo2, Mi.mo3, Mi.mo8, Bool.false_eq_true, Mi.mo9, Nat.reduceAdd, Nat.reduceSub, Nat.reduceLeDiff, Nat.reduceLT, Nat.reduceEqDiff, Mi.mt0, List.getElem?_cons_zero, List.getElem?_cons_succ, List.set_cons_zero, List.set_cons_succ, List.map_cons, List.map_nil, List.length_cons, List.length_nil, List.nil_append, List.cons_append, List.append_nil, List.replicate_succ, List.replicate_zero, lim_v, reduceIte, decide_true, decide_false, Bool.not_true, Bool.not_false, Option.bind_some, Mi.lst_no, Mi.par2, Mi.par3, eq_self, and_self, Mi.mi6, Mi.mi7, Mi.mi8, Mi.mi9, Option.map_some, r6, g, Int.toNat_natCast, l]
theorem most_tries_eq {a b c d : Nat} (h : LkOk a b c d) (n : Nat) : F_most_tries [lk a b c d, nI n] = .ok (nI ((sumsL a b d c).filter fun x => decide (x ≤ n)).length) := by
  have w0 := check_lock_eq h
  have w1 := check_true
  have w2 := is_count_nat n
  have w3 := times_eq h
  have l : lcF [2] (gN 2) t_most_tries_0 f_most_tries_1 ((sumsL a b d c).map nI) [.val (lk a b c d), .val (nI n), .un] = .ok (((sumsL a b d c).filter fun x => decide (x ≤ n)).map fun _ => D.int 1, [.val (lk a b c d), .val (nI n), .un]) := by
    refine lcF_list _ (fun x => decide (x ≤ n)) (fun _ => D.int 1) _ fun x hx => ⟨[.val (lk a b c d), .val (nI n), .val (nI x)], rfl, ?_, fun _ => rfl, rfl⟩
    have e := le_nat x n
    unfold t_most_tries_0
    generalize lk a b c d = lo at *
    as_aux_lemma =>
      simp only [seq_ap, Mi.mi0, Mi.mi1, Mi.mi2, Mi.mi3, Mi.mi4, Mi.mi5, Mi.mo0, Mi.mo1, Mi.mo2, Mi.mo3, Mi.mo8, Bool.false_eq_true, Mi.mo9, Nat.reduceAdd, Nat.reduceSub, Nat.reduceLeDiff, Nat.reduceLT, Nat.reduceEqDiff, Mi.mt0, List.getElem?_cons_zero, List.getElem?_cons_succ, List.set_cons_zero, List.set_cons_succ, List.map_cons, List.map_nil, List.length_cons, List.length_nil, List.nil_append, List.cons_append, List.append_nil, List.replicate_succ, List.replicate_zero, lim_v, reduceIte, decide_true, decide_false, Bool.not_true, Bool.not_false, Option.bind_some, Mi.lst_no, Mi.par2, Mi.par3, eq_self, and_self, Mi.mi6, Mi.mi7, Mi.mi8, Mi.mi9, Option.map_some, e]
  have le : (((sumsL a b d c).filter fun x => decide (x ≤ n)).map fun _ => D.int 1).length ≤ 16777216 := by
    rw [List.length_map]
    have := List.length_filter_le (fun x => decide (x ≤ n)) (sumsL a b d c)
    rw [sumsL_len] at this
    have := h.c1
    omega
  have ln : (((sumsL a b d c).filter fun x => decide (x ≤ n)).map fun _ => D.int 1).length = ((sumsL a b d c).filter fun x => decide (x ≤ n)).length := by rw [List.length_map]
  rw [← ln]
  unfold F_most_tries m_most_tries
  generalize (((sumsL a b d c).filter fun x => decide (x ≤ n)).map fun _ => D.int 1) = q at *
  generalize (sumsL a b d c).map nI = q2 at *
  generalize lk a b c d = lo at *
  generalize F_check_lock = q0 at *
  generalize F_check = q1 at *
  generalize F_is_count = q2 at *
  generalize F_times_by = q3 at *
  generalize t_most_tries_0 = q4 at *
  generalize f_most_tries_1 = q5 at *
  as_aux_lemma =>
    simp only [runA, seq_ap, Mi.mi0, Mi.mi1, Mi.mi2, Mi.mi3, Mi.mi4, Mi.mi5, Mi.mo0, Mi.mo1, Mi.mo2, Mi.mo3, Mi.mo8, Bool.false_eq_true, Mi.mo9, Nat.reduceAdd, Nat.reduceSub, Nat.reduceLeDiff, Nat.reduceLT, Nat.reduceEqDiff, Mi.mt0, List.getElem?_cons_zero, List.getElem?_cons_succ, List.set_cons_zero, List.set_cons_succ, List.map_cons, List.map_nil, List.length_cons, List.length_nil, List.nil_append, List.cons_append, List.append_nil, List.replicate_succ, List.replicate_zero, lim_v, reduceIte, decide_true, decide_false, Bool.not_true, Bool.not_false, Option.bind_some, Mi.lst_no, Mi.par2, Mi.par3, eq_self, and_self, Mi.mi6, Mi.mi7, Mi.mi8, Mi.mi9, Option.map_some, nLc, wipeE, okW, resE, w0, w1, w2, w3, l, le, List.all_cons, List.all_nil, Bool.and_true, Option.getD_some, Option.getD_none, and_self]
theorem time_for_gt {a b c d n : Nat} (h : LkOk a b c d) (hn : c < n) : F_time_for [lk a b c d, nI n] = .ok .non := by
  have w0 := check_lock_eq h
  have w1 := check_true
  have w2 := is_count_nat n
  have g := gIx_lk2 a b c d
  have k : decide ((c : Int) < (n : Int)) = true := decide_eq_true (by omega)
  unfold F_time_for m_time_for
  generalize lk a b c d = lo at *
  generalize F_check_lock = q0 at *
  generalize F_check = q1 at *
  generalize F_is_count = q2 at *
  generalize F_times_by = q3 at *
  as_aux_lemma =>
    simp only [runA, seq_ap, Mi.mi0, Mi.mi1, Mi.mi2, Mi.mi3, Mi.mi4, Mi.mi5, Mi.mo0, Mi.mo1, Mi.mo2, Mi.mo3, Mi.mo8, Bool.false_eq_true, Mi.mo9, Nat.reduceAdd, Nat.reduceSub, Nat.reduceLeDiff, Nat.reduceLT, Nat.reduceEqDiff, Mi.mt0, List.getElem?_cons_zero, List.getElem?_cons_succ, List.set_cons_zero, List.set_cons_succ, List.map_cons, List.map_nil, List.length_cons, List.length_nil, List.nil_append, List.cons_append, List.append_nil, List.replicate_succ, List.replicate_zero, lim_v, reduceIte, decide_true, decide_false, Bool.not_true, Bool.not_false, Option.bind_some, Mi.lst_no, Mi.par2, Mi.par3, eq_self, and_self, Mi.mi6, Mi.mi7, Mi.mi8, Mi.mi9, Option.map_some, w0, w1, w2, g, k]
theorem time_for_le {a b c d n : Nat} (h : LkOk a b c d) (hn : n ≤ c) : F_time_for [lk a b c d, nI n] = .ok (nI (T a b d n)) := by
  have w0 := check_lock_eq h
  have w1 := check_true
  have w2 := is_count_nat n
  have w3 := times_eq h
  have g := gIx_lk2 a b c d
  have k : decide ((c : Int) < (n : Int)) = false := decide_eq_false (by omega)
  by_cases n0 : 0 < n
  · have k2 : decide ((0 : Int) < (n : Int)) = true := decide_eq_true (by omega)
    have e : (n : Int) - 1 = ((n - 1 : Nat) : Int) := by omega
    have i := atI_of (ds := (sumsL a b d c).map nI) (i := n - 1) (d := nI (T a b d n)) (by
      rw [List.getElem?_map, sumsL_get (show n - 1 < c by omega), show n - 1 + 1 = n by omega]
      rfl)
    rw [← e] at i
    unfold F_time_for m_time_for
    generalize (sumsL a b d c).map nI = q2 at *
    generalize T a b d n = t at *
    generalize lk a b c d = lo at *
    generalize F_check_lock = q0 at *
    generalize F_check = q1 at *
    generalize F_is_count = q2 at *
    generalize F_times_by = q3 at *
    as_aux_lemma =>
      simp only [runA, seq_ap, Mi.mi0, Mi.mi1, Mi.mi2, Mi.mi3, Mi.mi4, Mi.mi5, Mi.mo0, Mi.mo1, Mi.mo2, Mi.mo3, Mi.mo8, Bool.false_eq_true, Mi.mo9, Nat.reduceAdd, Nat.reduceSub, Nat.reduceLeDiff, Nat.reduceLT, Nat.reduceEqDiff, Mi.mt0, List.getElem?_cons_zero, List.getElem?_cons_succ, List.set_cons_zero, List.set_cons_succ, List.map_cons, List.map_nil, List.length_cons, List.length_nil, List.nil_append, List.cons_append, List.append_nil, List.replicate_succ, List.replicate_zero, lim_v, reduceIte, decide_true, decide_false, Bool.not_true, Bool.not_false, Option.bind_some, Mi.lst_no, Mi.par2, Mi.par3, eq_self, and_self, Mi.mi6, Mi.mi7, Mi.mi8, Mi.mi9, Option.map_some, w0, w1, w2, w3, g, k, k2, i]
  · obtain rfl : n = 0 := by omega
    have k2 : decide ((0 : Int) < 0) = false := by decide
    change F_is_count [.int 0] = _ at w2
    change F_time_for [_, .int 0] = .ok (.int 0)
    change decide ((c : Int) < 0) = _ at k
    unfold F_time_for m_time_for
    generalize lk a b c d = lo at *
    generalize F_check_lock = q0 at *
    generalize F_check = q1 at *
    generalize F_is_count = q2 at *
    generalize F_times_by = q3 at *
    as_aux_lemma =>
      simp only [runA, seq_ap, Mi.mi0, Mi.mi1, Mi.mi2, Mi.mi3, Mi.mi4, Mi.mi5, Mi.mo0, Mi.mo1, Mi.mo2, Mi.mo3, Mi.mo8, Bool.false_eq_true, Mi.mo9, Nat.reduceAdd, Nat.reduceSub, Nat.reduceLeDiff, Nat.reduceLT, Nat.reduceEqDiff, Mi.mt0, List.getElem?_cons_zero, List.getElem?_cons_succ, List.set_cons_zero, List.set_cons_succ, List.map_cons, List.map_nil, List.length_cons, List.length_nil, List.nil_append, List.cons_append, List.append_nil, List.replicate_succ, List.replicate_zero, lim_v, reduceIte, decide_true, decide_false, Bool.not_true, Bool.not_false, Option.bind_some, Mi.lst_no, Mi.par2, Mi.par3, eq_self, and_self, Mi.mi6, Mi.mi7, Mi.mi8, Mi.mi9, Option.map_some, w0, w1, w2, g, k, k2]
end Lw
namespace Lw
open Mi
theorem asc_of : ∀ {ns : List Nat}, ns.Pairwise (· ≤ ·) → asc ns = true
  | [], _ => rfl
  | [_], _ => rfl
  | x :: y :: r, h => by
    have ih := asc_of (ns := y :: r) (List.pairwise_cons.1 h).2
    unfold asc at *
    show (decide (x ≤ y) && (((y :: r).zip ((y :: r).drop 1)).all fun p => decide (p.1 ≤ p.2))) = true
    rw [ih, decide_eq_true ((List.pairwise_cons.1 h).1 y (List.mem_cons_self ..))]
    rfl
/-! ### buckets -/
def bk (h e : Nat) : D := .tup [nI h, nI e]
structure BkOk (h e : Nat) : Prop where
  h0 : 1 ≤ h
  h1 : h ≤ 1000
  e0 : 1 ≤ e
  e1 : e ≤ 100000
/-- found, drops, the last second -/
abbrev GS := List Bool × Nat × Nat
def gfill (h e : Nat) (s : GS) (t : Nat) : Nat := min h (s.2.1 + t / e - s.2.2 / e)
def gstep (h e : Nat) (s : GS) (t : Nat) : GS := (s.1 ++ [decide (0 < gfill h e s t)], gfill h e s t - 1, t)
def grun (h e : Nat) (xs : List Nat) : GS := xs.foldl (gstep h e) ([], h, 0)
/-- seconds that ascend -/
structure Row (xs : List Nat) : Prop where
  l : xs.length ≤ 1000000
  p : xs.Pairwise (· ≤ ·)
  b : ∀ x ∈ xs, x ≤ 100000000000
def GP (h : Nat) (xs : List Nat) (k : Nat) (s : GS) : Prop := s.1.length = k ∧ s.2.1 ≤ h ∧ s.2.2 ≤ 100000000000 ∧ ∀ x, xs[k]? = some x → s.2.2 ≤ x
theorem gp_step {h e k : Nat} {xs : List Nat} {s : GS} {x : Nat} (r : Row xs) (hx : xs[k]? = some x) (hp : GP h xs k s) : GP h xs (k + 1) (gstep h e s x) := by
  obtain ⟨h1, h2, h3, h4⟩ := hp
  refine ⟨?_, ?_, r.b x (List.mem_of_getElem? hx), fun y hy => ?_⟩
  · show (s.1 ++ _).length = _
    rw [List.length_append, h1]
    rfl
  · show gfill h e s x - 1 ≤ h
    have : gfill h e s x ≤ h := Nat.min_le_left _ _
    omega
  · show x ≤ y
    have lk : k < xs.length := (List.getElem?_eq_some_iff.1 hx).1
    have ly : k + 1 < xs.length := (List.getElem?_eq_some_iff.1 hy).1
    have ex : xs[k] = x := (List.getElem?_eq_some_iff.1 hx).2
    have ey : xs[k + 1] = y := (List.getElem?_eq_some_iff.1 hy).2
    have := List.pairwise_iff_getElem.1 r.p k (k + 1) lk ly (by omega)
    rw [ex, ey] at this
    exact this
theorem gp_zero {h : Nat} {xs : List Nat} : GP h xs 0 ([], h, 0) := ⟨rfl, Nat.le_refl _, Nat.zero_le _, fun _ _ => Nat.zero_le _⟩
theorem div_nat (t e : Nat) : (t : Int) / (e : Int) = ((t / e : Nat) : Int) := rfl
theorem dv_ok {t e : Nat} (he : 0 < e) (ht : t ≤ 1000000000000) : divXOk (t : Int) (e : Int) = true := div_ok (by omega) (.inr ((Bd.small (by omega) (by omega)).mono (by omega)))
theorem fill_int {h e : Nat} {s : GS} {t : Nat} (le : s.2.2 ≤ t) : (if (s.2.1 : Int) + ((t / e : Nat) : Int) - ((s.2.2 / e : Nat) : Int) < (h : Int) then (s.2.1 : Int) + ((t / e : Nat) : Int) - ((s.2.2 / e : Nat) : Int) else (h : Int)) = ((gfill h e s t : Nat) : Int) := by
  unfold gfill
  have := Nat.div_le_div_right (c := e) le
  generalize t / e = a at *
  generalize s.2.2 / e = b at *
  split <;> omega
theorem is_bucket_eq {h e : Nat} (o : BkOk h e) : F_is_bucket [bk h e] = .ok (.bl true) := by
  obtain ⟨h1, h2, h3, h4⟩ := o
  have w1 := within_ok (v := (h : Int)) (lo := 1) (hi := 1000) (by omega) (by omega)
  have w2 := within_ok (v := (e : Int)) (lo := 1) (hi := 100000) (by omega) (by omega)
  unfold F_is_bucket m_is_bucket bk
  generalize F_is_within = q0 at *
  as_aux_lemma =>
    simp only [runA, seq_ap, Mi.mi0, Mi.mi1, Mi.mi2, Mi.mi3, Mi.mi4, Mi.mi5, Mi.mo0, Mi.mo1, Mi.mo2, Mi.mo3, Mi.mo8, Bool.false_eq_true, Mi.mo9, Nat.reduceAdd, Nat.reduceSub, Nat.reduceLeDiff, Nat.reduceLT, Nat.reduceEqDiff, Mi.mt0, List.getElem?_cons_zero, List.getElem?_cons_succ, List.set_cons_zero, List.set_cons_succ, List.map_cons, List.map_nil, List.length_cons, List.length_nil, List.nil_append, List.cons_append, List.append_nil, List.replicate_succ, List.replicate_zero, lim_v, reduceIte, decide_true, decide_false, Bool.not_true, Bool.not_false, Option.bind_some, Mi.lst_no, Mi.par2, Mi.par3, eq_self, and_self, Mi.mi6, Mi.mi7, Mi.mi8, Mi.mi9, Option.map_some, w1, w2]
theorem check_bucket_eq {h e : Nat} (o : BkOk h e) : F_check_bucket [bk h e] = .ok .non := by
  have w1 := is_bucket_eq o
  have w2 := check_true
  unfold F_check_bucket m_check_bucket
  generalize bk h e = l at *
  generalize F_is_bucket = q0 at *
  generalize F_check = q1 at *
  as_aux_lemma =>
    simp only [runA, seq_ap, Mi.mi0, Mi.mi1, Mi.mi2, Mi.mi3, Mi.mi4, Mi.mi5, Mi.mo0, Mi.mo1, Mi.mo2, Mi.mo3, Mi.mo8, Bool.false_eq_true, Mi.mo9, Nat.reduceAdd, Nat.reduceSub, Nat.reduceLeDiff, Nat.reduceLT, Nat.reduceEqDiff, Mi.mt0, List.getElem?_cons_zero, List.getElem?_cons_succ, List.set_cons_zero, List.set_cons_succ, List.map_cons, List.map_nil, List.length_cons, List.length_nil, List.nil_append, List.cons_append, List.append_nil, List.replicate_succ, List.replicate_zero, lim_v, reduceIte, decide_true, decide_false, Bool.not_true, Bool.not_false, Option.bind_some, Mi.lst_no, Mi.par2, Mi.par3, eq_self, and_self, Mi.mi6, Mi.mi7, Mi.mi8, Mi.mi9, Option.map_some, w1, w2]
theorem most_from_eq {h e : Nat} (o : BkOk h e) {t : Nat} (ht : t ≤ 1000000000000) : F_most_from [bk h e, nI t] = .ok (nI (h + t / e)) := by
  have w1 := check_bucket_eq o
  have w2 := check_true
  have w3 := is_count_nat t
  have dv := dv_ok (e := e) (by have := o.e0; omega) ht
  have d := div_nat t e
  change _ = R.ok (D.int ((h : Int) + ((t / e : Nat) : Int)))
  unfold F_most_from m_most_from bk at *
  generalize F_check_bucket = q0 at *
  generalize F_check = q1 at *
  generalize F_is_count = q2 at *
  as_aux_lemma =>
    simp only [runA, seq_ap, Mi.mi0, Mi.mi1, Mi.mi2, Mi.mi3, Mi.mi4, Mi.mi5, Mi.mo0, Mi.mo1, Mi.mo2, Mi.mo3, Mi.mo8, Bool.false_eq_true, Mi.mo9, Nat.reduceAdd, Nat.reduceSub, Nat.reduceLeDiff, Nat.reduceLT, Nat.reduceEqDiff, Mi.mt0, List.getElem?_cons_zero, List.getElem?_cons_succ, List.set_cons_zero, List.set_cons_succ, List.map_cons, List.map_nil, List.length_cons, List.length_nil, List.nil_append, List.cons_append, List.append_nil, List.replicate_succ, List.replicate_zero, lim_v, reduceIte, decide_true, decide_false, Bool.not_true, Bool.not_false, Option.bind_some, Mi.lst_no, Mi.par2, Mi.par3, eq_self, and_self, Mi.mi6, Mi.mi7, Mi.mi8, Mi.mi9, Option.map_some, w1, w2, w3, dv, d]
theorem check_tries_eq {ns : List Nat} (r : Row ns) : F_check_tries [.lst (ns.map nI)] = .ok .non := by
  have w1 := is_sorted_eq r.l
  rw [asc_of r.p] at w1
  have w2 := check_true
  have l1 : lcF [1] (gN 1) tYes1 f_check_tries_0 (ns.map nI) [.val (.lst (ns.map nI)), .un] = .ok (ns.map fun _ => D.bl true, [.val (.lst (ns.map nI)), .un]) := by
    refine lcF_all _ (fun _ => D.bl true) _ fun x hx => ⟨[.val (.lst (ns.map nI)), .val (nI x)], rfl, ?_, rfl⟩
    have e := is_count_nat x
    unfold f_check_tries_0
    generalize ns.map nI = q at *
    generalize F_is_count = q0 at *
    as_aux_lemma =>
      simp only [seq_ap, Mi.mi0, Mi.mi1, Mi.mi2, Mi.mi3, Mi.mi4, Mi.mi5, Mi.mo0, Mi.mo1, Mi.mo2, Mi.mo3, Mi.mo8, Bool.false_eq_true, Mi.mo9, Nat.reduceAdd, Nat.reduceSub, Nat.reduceLeDiff, Nat.reduceLT, Nat.reduceEqDiff, Mi.mt0, List.getElem?_cons_zero, List.getElem?_cons_succ, List.set_cons_zero, List.set_cons_succ, List.map_cons, List.map_nil, List.length_cons, List.length_nil, List.nil_append, List.cons_append, List.append_nil, List.replicate_succ, List.replicate_zero, lim_v, reduceIte, decide_true, decide_false, Bool.not_true, Bool.not_false, Option.bind_some, Mi.lst_no, Mi.par2, Mi.par3, eq_self, and_self, Mi.mi6, Mi.mi7, Mi.mi8, Mi.mi9, Option.map_some, e]
  have a1 := fAll_true ns
  have le1 : (ns.map fun _ => D.bl true).length ≤ 16777216 := by rw [List.length_map]; have := r.l; omega
  unfold F_check_tries m_check_tries
  generalize (ns.map fun _ => D.bl true) = y1 at *
  generalize ns.map nI = y3 at *
  generalize F_check = q0 at *
  generalize F_is_sorted = q1 at *
  generalize f_check_tries_0 = q2 at *
  as_aux_lemma =>
    simp only [runA, seq_ap, Mi.mi0, Mi.mi1, Mi.mi2, Mi.mi3, Mi.mi4, Mi.mi5, Mi.mo0, Mi.mo1, Mi.mo2, Mi.mo3, Mi.mo8, Bool.false_eq_true, Mi.mo9, Nat.reduceAdd, Nat.reduceSub, Nat.reduceLeDiff, Nat.reduceLT, Nat.reduceEqDiff, Mi.mt0, List.getElem?_cons_zero, List.getElem?_cons_succ, List.set_cons_zero, List.set_cons_succ, List.map_cons, List.map_nil, List.length_cons, List.length_nil, List.nil_append, List.cons_append, List.append_nil, List.replicate_succ, List.replicate_zero, lim_v, reduceIte, decide_true, decide_false, Bool.not_true, Bool.not_false, Option.bind_some, Mi.lst_no, Mi.par2, Mi.par3, eq_self, and_self, Mi.mi6, Mi.mi7, Mi.mi8, Mi.mi9, Option.map_some, nLc, wipeE, okW, resE, w1, w2, l1, a1, le1, List.all_cons, List.all_nil, Bool.and_true, Option.getD_some, Option.getD_none, and_self]
theorem gone_loop {h e : Nat} (o : BkOk h e) {xs : List Nat} (r : Row xs) (v0 v1 : D) : ∃ t, forF (gN 2) b_gone_through_0 (xs.map nI) [.val v0, .val v1, .un, .val (nI h), .val (nI e), .own [], .val (nI h), .val (nI 0)] =
    .ok (.nx [.val v0, .val v1, t, .val (nI h), .val (nI e), .own ((grun h e xs).1.map bD), .val (nI (grun h e xs).2.1), .val (nI (grun h e xs).2.2)]) := by
  obtain ⟨t, h1, _⟩ := for_fold (G := gN 2) (b := b_gone_through_0) nI (fun (s : GS) (t : Sl) => [.val v0, .val v1, t, .val (nI h), .val (nI e), .own (s.1.map bD), .val (nI s.2.1), .val (nI s.2.2)]) (gstep h e) (GP h xs) xs 0 ([], h, 0) .un gp_zero fun j x s t hx hp => by
    rw [Nat.zero_add] at hp ⊢
    have hj : j < xs.length := (List.getElem?_eq_some_iff.1 hx).1
    have hb := r.b x (List.mem_of_getElem? hx)
    refine ⟨[.val v0, .val v1, .val (nI x), .val (nI h), .val (nI e), .own (s.1.map bD), .val (nI s.2.1), .val (nI s.2.2)], .val (nI x), rfl, ?_, gp_step r hx hp⟩
    have le : (s.1.map bD).length < 16777216 := by
      rw [List.length_map, hp.1]
      have := r.l
      omega
    have e0 := o.e0
    have dv1 := dv_ok (e := e) (t := x) (by omega) (by omega)
    have dv2 := dv_ok (e := e) (t := s.2.2) (by omega) (by have := hp.2.2.1; omega)
    have d1 := div_nat x e
    have d2 := div_nat s.2.2 e
    have fi := fill_int (h := h) (e := e) (s := s) (hp.2.2.2 x hx)
    have k1 : decide ((0 : Int) < ((gfill h e s x : Nat) : Int)) = decide (0 < gfill h e s x) := decide_eq_decide.2 (by omega)
    have k2 : (if ((gfill h e s x : Nat) : Int) - 1 > 0 then ((gfill h e s x : Nat) : Int) - 1 else 0) = ((gfill h e s x - 1 : Nat) : Int) := by split <;> omega
    have ee : (gstep h e s x).1.map bD = s.1.map bD ++ [.bl (decide (0 < gfill h e s x))] := by
      show (s.1 ++ _).map bD = _
      rw [List.map_append]
      rfl
    rw [ee]
    change _ = R.ok (Fl.nx [_, _, _, _, _, _, .val (nI (gfill h e s x - 1)), .val (nI x)])
    obtain ⟨f, w, t⟩ := s
    simp only at *
    generalize gfill h e (f, w, t) x = g at *
    generalize f.map bD = l at *
    unfold b_gone_through_0
    as_aux_lemma =>
      simp only [seq_ap, Mi.mi0, Mi.mi1, Mi.mi2, Mi.mi3, Mi.mi4, Mi.mi5, Mi.mo0, Mi.mo1, Mi.mo2, Mi.mo3, Mi.mo8, Bool.false_eq_true, Mi.mo9, Nat.reduceAdd, Nat.reduceSub, Nat.reduceLeDiff, Nat.reduceLT, Nat.reduceEqDiff, Mi.mt0, List.getElem?_cons_zero, List.getElem?_cons_succ, List.set_cons_zero, List.set_cons_succ, List.map_cons, List.map_nil, List.length_cons, List.length_nil, List.nil_append, List.cons_append, List.append_nil, List.replicate_succ, List.replicate_zero, lim_v, reduceIte, decide_true, decide_false, Bool.not_true, Bool.not_false, Option.bind_some, Mi.lst_no, Mi.par2, Mi.par3, eq_self, and_self, Mi.mi6, Mi.mi7, Mi.mi8, Mi.mi9, Option.map_some, dv1, dv2, d1, d2, fi, k1, k2, le]
  exact ⟨t, h1⟩
theorem gone_eq {h e : Nat} (o : BkOk h e) {xs : List Nat} (r : Row xs) : F_gone_through [bk h e, .lst (xs.map nI)] = .ok (.tup [.lst ((grun h e xs).1.map bD), nI (grun h e xs).2.1, nI (grun h e xs).2.2]) := by
  obtain ⟨t, l⟩ := gone_loop o r (bk h e) (.lst (xs.map nI))
  change forF _ _ _ [_, _, _, _, _, _, _, .val (.int 0)] = _ at l
  unfold F_gone_through m_gone_through bk at *
  generalize (grun h e xs).1.map bD = z at *
  generalize (grun h e xs).2.1 = z1 at *
  generalize (grun h e xs).2.2 = z2 at *
  generalize xs.map nI = z3 at *
  generalize b_gone_through_0 = q0 at *
  as_aux_lemma =>
    simp only [runA, seq_ap, Mi.mi0, Mi.mi1, Mi.mi2, Mi.mi3, Mi.mi4, Mi.mi5, Mi.mo0, Mi.mo1, Mi.mo2, Mi.mo3, Mi.mo8, Bool.false_eq_true, Mi.mo9, Nat.reduceAdd, Nat.reduceSub, Nat.reduceLeDiff, Nat.reduceLT, Nat.reduceEqDiff, Mi.mt0, List.getElem?_cons_zero, List.getElem?_cons_succ, List.set_cons_zero, List.set_cons_succ, List.map_cons, List.map_nil, List.length_cons, List.length_nil, List.nil_append, List.cons_append, List.append_nil, List.replicate_succ, List.replicate_zero, lim_v, reduceIte, decide_true, decide_false, Bool.not_true, Bool.not_false, Option.bind_some, Mi.lst_no, Mi.par2, Mi.par3, eq_self, and_self, Mi.mi6, Mi.mi7, Mi.mi8, Mi.mi9, Option.map_some, l]
theorem bucket_heard_eq {h e : Nat} (o : BkOk h e) {xs : List Nat} (r : Row xs) : F_bucket_heard [bk h e, .lst (xs.map nI)] = .ok (.lst ((grun h e xs).1.map bD)) := by
  have w1 := check_bucket_eq o
  have w2 := check_tries_eq r
  have w3 := gone_eq o r
  unfold F_bucket_heard m_bucket_heard
  generalize (grun h e xs).1.map bD = z at *
  generalize nI (grun h e xs).2.1 = z1 at *
  generalize nI (grun h e xs).2.2 = z2 at *
  generalize xs.map nI = z3 at *
  generalize bk h e = z4 at *
  generalize F_check_bucket = q0 at *
  generalize F_check_tries = q1 at *
  generalize F_gone_through = q2 at *
  as_aux_lemma =>
    simp only [runA, seq_ap, Mi.mi0, Mi.mi1, Mi.mi2, Mi.mi3, Mi.mi4, Mi.mi5, Mi.mo0, Mi.mo1, Mi.mo2, Mi.mo3, Mi.mo8, Bool.false_eq_true, Mi.mo9, Nat.reduceAdd, Nat.reduceSub, Nat.reduceLeDiff, Nat.reduceLT, Nat.reduceEqDiff, Mi.mt0, List.getElem?_cons_zero, List.getElem?_cons_succ, List.set_cons_zero, List.set_cons_succ, List.map_cons, List.map_nil, List.length_cons, List.length_nil, List.nil_append, List.cons_append, List.append_nil, List.replicate_succ, List.replicate_zero, lim_v, reduceIte, decide_true, decide_false, Bool.not_true, Bool.not_false, Option.bind_some, Mi.lst_no, Mi.par2, Mi.par3, eq_self, and_self, Mi.mi6, Mi.mi7, Mi.mi8, Mi.mi9, Option.map_some, w1, w2, w3]
theorem drops_at_eq {h e : Nat} (o : BkOk h e) {xs : List Nat} (r : Row xs) {t : Nat} (ht : t ≤ 1000000000000) (hall : ∀ x ∈ xs, x ≤ t) (hl : (grun h e xs).2.2 ≤ t) : F_drops_at [bk h e, .lst (xs.map nI), nI t] = .ok (nI (gfill h e (grun h e xs) t)) := by
  have w1 := check_bucket_eq o
  have w2 := check_tries_eq r
  have w3 := gone_eq o r
  have w4 := is_count_nat t
  have w5 := check_true
  have l1 : lcF [6] (gN 6) tYes1 f_drops_at_0 (xs.map nI) [.val (bk h e), .val (.lst (xs.map nI)), .val (nI t), .un, .un, .un, .un] = .ok (xs.map fun _ => D.bl true, [.val (bk h e), .val (.lst (xs.map nI)), .val (nI t), .un, .un, .un, .un]) := by
    refine lcF_all _ (fun _ => D.bl true) _ fun x hx => ⟨[.val (bk h e), .val (.lst (xs.map nI)), .val (nI t), .un, .un, .un, .val (nI x)], rfl, ?_, rfl⟩
    have k := decide_eq_true (show (x : Int) ≤ (t : Int) from Int.ofNat_le.2 (hall x hx))
    unfold f_drops_at_0
    generalize xs.map nI = q at *
    generalize bk h e = q2 at *
    as_aux_lemma =>
      simp only [seq_ap, Mi.mi0, Mi.mi1, Mi.mi2, Mi.mi3, Mi.mi4, Mi.mi5, Mi.mo0, Mi.mo1, Mi.mo2, Mi.mo3, Mi.mo8, Bool.false_eq_true, Mi.mo9, Nat.reduceAdd, Nat.reduceSub, Nat.reduceLeDiff, Nat.reduceLT, Nat.reduceEqDiff, Mi.mt0, List.getElem?_cons_zero, List.getElem?_cons_succ, List.set_cons_zero, List.set_cons_succ, List.map_cons, List.map_nil, List.length_cons, List.length_nil, List.nil_append, List.cons_append, List.append_nil, List.replicate_succ, List.replicate_zero, lim_v, reduceIte, decide_true, decide_false, Bool.not_true, Bool.not_false, Option.bind_some, Mi.lst_no, Mi.par2, Mi.par3, eq_self, and_self, Mi.mi6, Mi.mi7, Mi.mi8, Mi.mi9, Option.map_some, k]
  have a1 := fAll_true xs
  have le1 : (xs.map fun _ => D.bl true).length ≤ 16777216 := by rw [List.length_map]; have := r.l; omega
  have e0 := o.e0
  have dv1 := dv_ok (e := e) (t := t) (by omega) (by omega)
  have dv2 := dv_ok (e := e) (t := (grun h e xs).2.2) (by omega) (by omega)
  have d1 := div_nat t e
  have d2 := div_nat (grun h e xs).2.2 e
  have fi := fill_int (h := h) (e := e) (s := grun h e xs) hl
  unfold F_drops_at m_drops_at
  generalize grun h e xs = s at *
  obtain ⟨f, w, t'⟩ := s
  simp only at *
  generalize gfill h e (f, w, t') t = g at *
  generalize f.map bD = l at *
  generalize (xs.map fun _ => D.bl true) = y1 at *
  generalize xs.map nI = y3 at *
  unfold bk at *
  generalize F_check_bucket = q0 at *
  generalize F_check_tries = q1 at *
  generalize F_gone_through = q2 at *
  generalize F_check = q3 at *
  generalize F_is_count = q4 at *
  generalize f_drops_at_0 = q5 at *
  as_aux_lemma =>
    simp only [runA, seq_ap, Mi.mi0, Mi.mi1, Mi.mi2, Mi.mi3, Mi.mi4, Mi.mi5, Mi.mo0, Mi.mo1, Mi.mo2, Mi.mo3, Mi.mo8, Bool.false_eq_true, Mi.mo9, Nat.reduceAdd, Nat.reduceSub, Nat.reduceLeDiff, Nat.reduceLT, Nat.reduceEqDiff, Mi.mt0, List.getElem?_cons_zero, List.getElem?_cons_succ, List.set_cons_zero, List.set_cons_succ, List.map_cons, List.map_nil, List.length_cons, List.length_nil, List.nil_append, List.cons_append, List.append_nil, List.replicate_succ, List.replicate_zero, lim_v, reduceIte, decide_true, decide_false, Bool.not_true, Bool.not_false, Option.bind_some, Mi.lst_no, Mi.par2, Mi.par3, eq_self, and_self, Mi.mi6, Mi.mi7, Mi.mi8, Mi.mi9, Option.map_some, nLc, wipeE, okW, resE, w1, w2, w3, w4, w5, l1, a1, le1, dv1, dv2, d1, d2, fi, List.all_cons, List.all_nil, Bool.and_true, Option.getD_some, Option.getD_none, and_self]
end Lw
namespace Lw
open Mi
theorem kit_nr : pickI exKit_NotRight "refused" "not right" "NotRight" = some ("not right" : PySem.Str) := rfl
theorem sub_nr : exSub "NotRight" "CodeError" = some true := rfl
theorem told0_ok (a b c d v : D) (h : F_is_lock [a] = .ok v) : F__law_told [.int 0, a, b, c, d] = .ok v := by
  have l2 : decide ((0 : Int) < 2) = true := by decide
  have ix : ∀ (l : List (List D → R D)) (g : List D → R D), l[0]? = some g → L2.atI l (0 : Int) = some g := fun l g h => L2.atI_nat h
  have kn := kit_nr
  have sn := sub_nr
  have li : (5 : Nat) < 6 := by decide
  unfold F__law_told m__law_told b__law_told_0
  have ix0 : L2.atI [F_is_lock, F_is_bucket] ((0 : Int)) = some F_is_lock := ix _ _ rfl
  generalize (pickI exKit_NotRight "refused" "not right") = pk at *
  generalize exSub = sb at *
  generalize F_is_lock = q0 at *
  generalize F_is_bucket = q1 at *
  generalize F_is_state = q2 at *
  generalize F_wait_of = q3 at *
  generalize F_heard = q4 at *
  generalize F_most_tries = q5 at *
  generalize F_time_for = q6 at *
  generalize F_bucket_heard = q7 at *
  generalize F_most_from = q8 at *
  generalize F_drops_at = q9 at *
  generalize F_tried = q10 at *
  as_aux_lemma =>
    simp only [runA, seq_ap, Mi.mi0, Mi.mi1, Mi.mi2, Mi.mi3, Mi.mi4, Mi.mi5, Mi.mo0, Mi.mo1, Mi.mo2, Mi.mo3, Mi.mo8, Bool.false_eq_true, Mi.mo9, Nat.reduceAdd, Nat.reduceSub, Nat.reduceLeDiff, Nat.reduceLT, Nat.reduceEqDiff, Mi.mt0, List.getElem?_cons_zero, List.getElem?_cons_succ, List.set_cons_zero, List.set_cons_succ, List.map_cons, List.map_nil, List.length_cons, List.length_nil, List.nil_append, List.cons_append, List.append_nil, List.replicate_succ, List.replicate_zero, lim_v, reduceIte, decide_true, decide_false, Bool.not_true, Bool.not_false, Option.bind_some, Mi.lst_no, Mi.par2, Mi.par3, eq_self, and_self, Mi.mi6, Mi.mi7, Mi.mi8, Mi.mi9, Option.map_some, l2, ix0, h, kn, sn, li]
theorem told0_no (a b c d : D) (h : F_is_lock [a] = .exc "NotRight" []) : F__law_told [.int 0, a, b, c, d] = .ok (.str "not right") := by
  have l2 : decide ((0 : Int) < 2) = true := by decide
  have ix : ∀ (l : List (List D → R D)) (g : List D → R D), l[0]? = some g → L2.atI l (0 : Int) = some g := fun l g h => L2.atI_nat h
  have kn := kit_nr
  have sn := sub_nr
  have li : (5 : Nat) < 6 := by decide
  unfold F__law_told m__law_told b__law_told_0
  have ix0 : L2.atI [F_is_lock, F_is_bucket] ((0 : Int)) = some F_is_lock := ix _ _ rfl
  generalize (pickI exKit_NotRight "refused" "not right") = pk at *
  generalize exSub = sb at *
  generalize F_is_lock = q0 at *
  generalize F_is_bucket = q1 at *
  generalize F_is_state = q2 at *
  generalize F_wait_of = q3 at *
  generalize F_heard = q4 at *
  generalize F_most_tries = q5 at *
  generalize F_time_for = q6 at *
  generalize F_bucket_heard = q7 at *
  generalize F_most_from = q8 at *
  generalize F_drops_at = q9 at *
  generalize F_tried = q10 at *
  as_aux_lemma =>
    simp only [runA, seq_ap, Mi.mi0, Mi.mi1, Mi.mi2, Mi.mi3, Mi.mi4, Mi.mi5, Mi.mo0, Mi.mo1, Mi.mo2, Mi.mo3, Mi.mo8, Bool.false_eq_true, Mi.mo9, Nat.reduceAdd, Nat.reduceSub, Nat.reduceLeDiff, Nat.reduceLT, Nat.reduceEqDiff, Mi.mt0, List.getElem?_cons_zero, List.getElem?_cons_succ, List.set_cons_zero, List.set_cons_succ, List.map_cons, List.map_nil, List.length_cons, List.length_nil, List.nil_append, List.cons_append, List.append_nil, List.replicate_succ, List.replicate_zero, lim_v, reduceIte, decide_true, decide_false, Bool.not_true, Bool.not_false, Option.bind_some, Mi.lst_no, Mi.par2, Mi.par3, eq_self, and_self, Mi.mi6, Mi.mi7, Mi.mi8, Mi.mi9, Option.map_some, l2, ix0, h, kn, sn, li]
theorem told1_ok (a b c d v : D) (h : F_is_bucket [a] = .ok v) : F__law_told [.int 1, a, b, c, d] = .ok v := by
  have l2 : decide ((1 : Int) < 2) = true := by decide
  have ix : ∀ (l : List (List D → R D)) (g : List D → R D), l[1]? = some g → L2.atI l (1 : Int) = some g := fun l g h => L2.atI_nat h
  have kn := kit_nr
  have sn := sub_nr
  have li : (5 : Nat) < 6 := by decide
  unfold F__law_told m__law_told b__law_told_0
  have ix0 : L2.atI [F_is_lock, F_is_bucket] ((1 : Int)) = some F_is_bucket := ix _ _ rfl
  generalize (pickI exKit_NotRight "refused" "not right") = pk at *
  generalize exSub = sb at *
  generalize F_is_lock = q0 at *
  generalize F_is_bucket = q1 at *
  generalize F_is_state = q2 at *
  generalize F_wait_of = q3 at *
  generalize F_heard = q4 at *
  generalize F_most_tries = q5 at *
  generalize F_time_for = q6 at *
  generalize F_bucket_heard = q7 at *
  generalize F_most_from = q8 at *
  generalize F_drops_at = q9 at *
  generalize F_tried = q10 at *
  as_aux_lemma =>
    simp only [runA, seq_ap, Mi.mi0, Mi.mi1, Mi.mi2, Mi.mi3, Mi.mi4, Mi.mi5, Mi.mo0, Mi.mo1, Mi.mo2, Mi.mo3, Mi.mo8, Bool.false_eq_true, Mi.mo9, Nat.reduceAdd, Nat.reduceSub, Nat.reduceLeDiff, Nat.reduceLT, Nat.reduceEqDiff, Mi.mt0, List.getElem?_cons_zero, List.getElem?_cons_succ, List.set_cons_zero, List.set_cons_succ, List.map_cons, List.map_nil, List.length_cons, List.length_nil, List.nil_append, List.cons_append, List.append_nil, List.replicate_succ, List.replicate_zero, lim_v, reduceIte, decide_true, decide_false, Bool.not_true, Bool.not_false, Option.bind_some, Mi.lst_no, Mi.par2, Mi.par3, eq_self, and_self, Mi.mi6, Mi.mi7, Mi.mi8, Mi.mi9, Option.map_some, l2, ix0, h, kn, sn, li]
theorem told1_no (a b c d : D) (h : F_is_bucket [a] = .exc "NotRight" []) : F__law_told [.int 1, a, b, c, d] = .ok (.str "not right") := by
  have l2 : decide ((1 : Int) < 2) = true := by decide
  have ix : ∀ (l : List (List D → R D)) (g : List D → R D), l[1]? = some g → L2.atI l (1 : Int) = some g := fun l g h => L2.atI_nat h
  have kn := kit_nr
  have sn := sub_nr
  have li : (5 : Nat) < 6 := by decide
  unfold F__law_told m__law_told b__law_told_0
  have ix0 : L2.atI [F_is_lock, F_is_bucket] ((1 : Int)) = some F_is_bucket := ix _ _ rfl
  generalize (pickI exKit_NotRight "refused" "not right") = pk at *
  generalize exSub = sb at *
  generalize F_is_lock = q0 at *
  generalize F_is_bucket = q1 at *
  generalize F_is_state = q2 at *
  generalize F_wait_of = q3 at *
  generalize F_heard = q4 at *
  generalize F_most_tries = q5 at *
  generalize F_time_for = q6 at *
  generalize F_bucket_heard = q7 at *
  generalize F_most_from = q8 at *
  generalize F_drops_at = q9 at *
  generalize F_tried = q10 at *
  as_aux_lemma =>
    simp only [runA, seq_ap, Mi.mi0, Mi.mi1, Mi.mi2, Mi.mi3, Mi.mi4, Mi.mi5, Mi.mo0, Mi.mo1, Mi.mo2, Mi.mo3, Mi.mo8, Bool.false_eq_true, Mi.mo9, Nat.reduceAdd, Nat.reduceSub, Nat.reduceLeDiff, Nat.reduceLT, Nat.reduceEqDiff, Mi.mt0, List.getElem?_cons_zero, List.getElem?_cons_succ, List.set_cons_zero, List.set_cons_succ, List.map_cons, List.map_nil, List.length_cons, List.length_nil, List.nil_append, List.cons_append, List.append_nil, List.replicate_succ, List.replicate_zero, lim_v, reduceIte, decide_true, decide_false, Bool.not_true, Bool.not_false, Option.bind_some, Mi.lst_no, Mi.par2, Mi.par3, eq_self, and_self, Mi.mi6, Mi.mi7, Mi.mi8, Mi.mi9, Option.map_some, l2, ix0, h, kn, sn, li]
theorem told2_ok (a b c d v : D) (h : F_is_state [a, b] = .ok v) : F__law_told [.int 2, a, b, c, d] = .ok v := by
  have l2 : decide ((2 : Int) < 2) = false := by decide
  have l9 : decide ((2 : Int) < 9) = true := by decide
  have ix : ∀ (l : List (List D → R D)) (g : List D → R D), l[0]? = some g → L2.atI l (0 : Int) = some g := fun l g h => L2.atI_nat h
  have kn := kit_nr
  have sn := sub_nr
  have li : (5 : Nat) < 6 := by decide
  unfold F__law_told m__law_told b__law_told_0
  have ix0 : L2.atI [F_is_state, F_wait_of, F_heard, F_most_tries, F_time_for, F_bucket_heard, F_most_from] ((2 : Int) - 2) = some F_is_state := ix _ _ rfl
  generalize (pickI exKit_NotRight "refused" "not right") = pk at *
  generalize exSub = sb at *
  generalize F_is_lock = q0 at *
  generalize F_is_bucket = q1 at *
  generalize F_is_state = q2 at *
  generalize F_wait_of = q3 at *
  generalize F_heard = q4 at *
  generalize F_most_tries = q5 at *
  generalize F_time_for = q6 at *
  generalize F_bucket_heard = q7 at *
  generalize F_most_from = q8 at *
  generalize F_drops_at = q9 at *
  generalize F_tried = q10 at *
  as_aux_lemma =>
    simp only [runA, seq_ap, Mi.mi0, Mi.mi1, Mi.mi2, Mi.mi3, Mi.mi4, Mi.mi5, Mi.mo0, Mi.mo1, Mi.mo2, Mi.mo3, Mi.mo8, Bool.false_eq_true, Mi.mo9, Nat.reduceAdd, Nat.reduceSub, Nat.reduceLeDiff, Nat.reduceLT, Nat.reduceEqDiff, Mi.mt0, List.getElem?_cons_zero, List.getElem?_cons_succ, List.set_cons_zero, List.set_cons_succ, List.map_cons, List.map_nil, List.length_cons, List.length_nil, List.nil_append, List.cons_append, List.append_nil, List.replicate_succ, List.replicate_zero, lim_v, reduceIte, decide_true, decide_false, Bool.not_true, Bool.not_false, Option.bind_some, Mi.lst_no, Mi.par2, Mi.par3, eq_self, and_self, Mi.mi6, Mi.mi7, Mi.mi8, Mi.mi9, Option.map_some, l2, l9, ix0, h, kn, sn, li]
theorem told2_no (a b c d : D) (h : F_is_state [a, b] = .exc "NotRight" []) : F__law_told [.int 2, a, b, c, d] = .ok (.str "not right") := by
  have l2 : decide ((2 : Int) < 2) = false := by decide
  have l9 : decide ((2 : Int) < 9) = true := by decide
  have ix : ∀ (l : List (List D → R D)) (g : List D → R D), l[0]? = some g → L2.atI l (0 : Int) = some g := fun l g h => L2.atI_nat h
  have kn := kit_nr
  have sn := sub_nr
  have li : (5 : Nat) < 6 := by decide
  unfold F__law_told m__law_told b__law_told_0
  have ix0 : L2.atI [F_is_state, F_wait_of, F_heard, F_most_tries, F_time_for, F_bucket_heard, F_most_from] ((2 : Int) - 2) = some F_is_state := ix _ _ rfl
  generalize (pickI exKit_NotRight "refused" "not right") = pk at *
  generalize exSub = sb at *
  generalize F_is_lock = q0 at *
  generalize F_is_bucket = q1 at *
  generalize F_is_state = q2 at *
  generalize F_wait_of = q3 at *
  generalize F_heard = q4 at *
  generalize F_most_tries = q5 at *
  generalize F_time_for = q6 at *
  generalize F_bucket_heard = q7 at *
  generalize F_most_from = q8 at *
  generalize F_drops_at = q9 at *
  generalize F_tried = q10 at *
  as_aux_lemma =>
    simp only [runA, seq_ap, Mi.mi0, Mi.mi1, Mi.mi2, Mi.mi3, Mi.mi4, Mi.mi5, Mi.mo0, Mi.mo1, Mi.mo2, Mi.mo3, Mi.mo8, Bool.false_eq_true, Mi.mo9, Nat.reduceAdd, Nat.reduceSub, Nat.reduceLeDiff, Nat.reduceLT, Nat.reduceEqDiff, Mi.mt0, List.getElem?_cons_zero, List.getElem?_cons_succ, List.set_cons_zero, List.set_cons_succ, List.map_cons, List.map_nil, List.length_cons, List.length_nil, List.nil_append, List.cons_append, List.append_nil, List.replicate_succ, List.replicate_zero, lim_v, reduceIte, decide_true, decide_false, Bool.not_true, Bool.not_false, Option.bind_some, Mi.lst_no, Mi.par2, Mi.par3, eq_self, and_self, Mi.mi6, Mi.mi7, Mi.mi8, Mi.mi9, Option.map_some, l2, l9, ix0, h, kn, sn, li]
theorem told3_ok (a b c d v : D) (h : F_wait_of [a, b] = .ok v) : F__law_told [.int 3, a, b, c, d] = .ok v := by
  have l2 : decide ((3 : Int) < 2) = false := by decide
  have l9 : decide ((3 : Int) < 9) = true := by decide
  have ix : ∀ (l : List (List D → R D)) (g : List D → R D), l[1]? = some g → L2.atI l (1 : Int) = some g := fun l g h => L2.atI_nat h
  have kn := kit_nr
  have sn := sub_nr
  have li : (5 : Nat) < 6 := by decide
  unfold F__law_told m__law_told b__law_told_0
  have ix0 : L2.atI [F_is_state, F_wait_of, F_heard, F_most_tries, F_time_for, F_bucket_heard, F_most_from] ((3 : Int) - 2) = some F_wait_of := ix _ _ rfl
  generalize (pickI exKit_NotRight "refused" "not right") = pk at *
  generalize exSub = sb at *
  generalize F_is_lock = q0 at *
  generalize F_is_bucket = q1 at *
  generalize F_is_state = q2 at *
  generalize F_wait_of = q3 at *
  generalize F_heard = q4 at *
  generalize F_most_tries = q5 at *
  generalize F_time_for = q6 at *
  generalize F_bucket_heard = q7 at *
  generalize F_most_from = q8 at *
  generalize F_drops_at = q9 at *
  generalize F_tried = q10 at *
  as_aux_lemma =>
    simp only [runA, seq_ap, Mi.mi0, Mi.mi1, Mi.mi2, Mi.mi3, Mi.mi4, Mi.mi5, Mi.mo0, Mi.mo1, Mi.mo2, Mi.mo3, Mi.mo8, Bool.false_eq_true, Mi.mo9, Nat.reduceAdd, Nat.reduceSub, Nat.reduceLeDiff, Nat.reduceLT, Nat.reduceEqDiff, Mi.mt0, List.getElem?_cons_zero, List.getElem?_cons_succ, List.set_cons_zero, List.set_cons_succ, List.map_cons, List.map_nil, List.length_cons, List.length_nil, List.nil_append, List.cons_append, List.append_nil, List.replicate_succ, List.replicate_zero, lim_v, reduceIte, decide_true, decide_false, Bool.not_true, Bool.not_false, Option.bind_some, Mi.lst_no, Mi.par2, Mi.par3, eq_self, and_self, Mi.mi6, Mi.mi7, Mi.mi8, Mi.mi9, Option.map_some, l2, l9, ix0, h, kn, sn, li]
theorem told3_no (a b c d : D) (h : F_wait_of [a, b] = .exc "NotRight" []) : F__law_told [.int 3, a, b, c, d] = .ok (.str "not right") := by
  have l2 : decide ((3 : Int) < 2) = false := by decide
  have l9 : decide ((3 : Int) < 9) = true := by decide
  have ix : ∀ (l : List (List D → R D)) (g : List D → R D), l[1]? = some g → L2.atI l (1 : Int) = some g := fun l g h => L2.atI_nat h
  have kn := kit_nr
  have sn := sub_nr
  have li : (5 : Nat) < 6 := by decide
  unfold F__law_told m__law_told b__law_told_0
  have ix0 : L2.atI [F_is_state, F_wait_of, F_heard, F_most_tries, F_time_for, F_bucket_heard, F_most_from] ((3 : Int) - 2) = some F_wait_of := ix _ _ rfl
  generalize (pickI exKit_NotRight "refused" "not right") = pk at *
  generalize exSub = sb at *
  generalize F_is_lock = q0 at *
  generalize F_is_bucket = q1 at *
  generalize F_is_state = q2 at *
  generalize F_wait_of = q3 at *
  generalize F_heard = q4 at *
  generalize F_most_tries = q5 at *
  generalize F_time_for = q6 at *
  generalize F_bucket_heard = q7 at *
  generalize F_most_from = q8 at *
  generalize F_drops_at = q9 at *
  generalize F_tried = q10 at *
  as_aux_lemma =>
    simp only [runA, seq_ap, Mi.mi0, Mi.mi1, Mi.mi2, Mi.mi3, Mi.mi4, Mi.mi5, Mi.mo0, Mi.mo1, Mi.mo2, Mi.mo3, Mi.mo8, Bool.false_eq_true, Mi.mo9, Nat.reduceAdd, Nat.reduceSub, Nat.reduceLeDiff, Nat.reduceLT, Nat.reduceEqDiff, Mi.mt0, List.getElem?_cons_zero, List.getElem?_cons_succ, List.set_cons_zero, List.set_cons_succ, List.map_cons, List.map_nil, List.length_cons, List.length_nil, List.nil_append, List.cons_append, List.append_nil, List.replicate_succ, List.replicate_zero, lim_v, reduceIte, decide_true, decide_false, Bool.not_true, Bool.not_false, Option.bind_some, Mi.lst_no, Mi.par2, Mi.par3, eq_self, and_self, Mi.mi6, Mi.mi7, Mi.mi8, Mi.mi9, Option.map_some, l2, l9, ix0, h, kn, sn, li]
theorem told4_ok (a b c d v : D) (h : F_heard [a, b] = .ok v) : F__law_told [.int 4, a, b, c, d] = .ok v := by
  have l2 : decide ((4 : Int) < 2) = false := by decide
  have l9 : decide ((4 : Int) < 9) = true := by decide
  have ix : ∀ (l : List (List D → R D)) (g : List D → R D), l[2]? = some g → L2.atI l (2 : Int) = some g := fun l g h => L2.atI_nat h
  have kn := kit_nr
  have sn := sub_nr
  have li : (5 : Nat) < 6 := by decide
  unfold F__law_told m__law_told b__law_told_0
  have ix0 : L2.atI [F_is_state, F_wait_of, F_heard, F_most_tries, F_time_for, F_bucket_heard, F_most_from] ((4 : Int) - 2) = some F_heard := ix _ _ rfl
  generalize (pickI exKit_NotRight "refused" "not right") = pk at *
  generalize exSub = sb at *
  generalize F_is_lock = q0 at *
  generalize F_is_bucket = q1 at *
  generalize F_is_state = q2 at *
  generalize F_wait_of = q3 at *
  generalize F_heard = q4 at *
  generalize F_most_tries = q5 at *
  generalize F_time_for = q6 at *
  generalize F_bucket_heard = q7 at *
  generalize F_most_from = q8 at *
  generalize F_drops_at = q9 at *
  generalize F_tried = q10 at *
  as_aux_lemma =>
    simp only [runA, seq_ap, Mi.mi0, Mi.mi1, Mi.mi2, Mi.mi3, Mi.mi4, Mi.mi5, Mi.mo0, Mi.mo1, Mi.mo2, Mi.mo3, Mi.mo8, Bool.false_eq_true, Mi.mo9, Nat.reduceAdd, Nat.reduceSub, Nat.reduceLeDiff, Nat.reduceLT, Nat.reduceEqDiff, Mi.mt0, List.getElem?_cons_zero, List.getElem?_cons_succ, List.set_cons_zero, List.set_cons_succ, List.map_cons, List.map_nil, List.length_cons, List.length_nil, List.nil_append, List.cons_append, List.append_nil, List.replicate_succ, List.replicate_zero, lim_v, reduceIte, decide_true, decide_false, Bool.not_true, Bool.not_false, Option.bind_some, Mi.lst_no, Mi.par2, Mi.par3, eq_self, and_self, Mi.mi6, Mi.mi7, Mi.mi8, Mi.mi9, Option.map_some, l2, l9, ix0, h, kn, sn, li]
theorem told4_no (a b c d : D) (h : F_heard [a, b] = .exc "NotRight" []) : F__law_told [.int 4, a, b, c, d] = .ok (.str "not right") := by
  have l2 : decide ((4 : Int) < 2) = false := by decide
  have l9 : decide ((4 : Int) < 9) = true := by decide
  have ix : ∀ (l : List (List D → R D)) (g : List D → R D), l[2]? = some g → L2.atI l (2 : Int) = some g := fun l g h => L2.atI_nat h
  have kn := kit_nr
  have sn := sub_nr
  have li : (5 : Nat) < 6 := by decide
  unfold F__law_told m__law_told b__law_told_0
  have ix0 : L2.atI [F_is_state, F_wait_of, F_heard, F_most_tries, F_time_for, F_bucket_heard, F_most_from] ((4 : Int) - 2) = some F_heard := ix _ _ rfl
  generalize (pickI exKit_NotRight "refused" "not right") = pk at *
  generalize exSub = sb at *
  generalize F_is_lock = q0 at *
  generalize F_is_bucket = q1 at *
  generalize F_is_state = q2 at *
  generalize F_wait_of = q3 at *
  generalize F_heard = q4 at *
  generalize F_most_tries = q5 at *
  generalize F_time_for = q6 at *
  generalize F_bucket_heard = q7 at *
  generalize F_most_from = q8 at *
  generalize F_drops_at = q9 at *
  generalize F_tried = q10 at *
  as_aux_lemma =>
    simp only [runA, seq_ap, Mi.mi0, Mi.mi1, Mi.mi2, Mi.mi3, Mi.mi4, Mi.mi5, Mi.mo0, Mi.mo1, Mi.mo2, Mi.mo3, Mi.mo8, Bool.false_eq_true, Mi.mo9, Nat.reduceAdd, Nat.reduceSub, Nat.reduceLeDiff, Nat.reduceLT, Nat.reduceEqDiff, Mi.mt0, List.getElem?_cons_zero, List.getElem?_cons_succ, List.set_cons_zero, List.set_cons_succ, List.map_cons, List.map_nil, List.length_cons, List.length_nil, List.nil_append, List.cons_append, List.append_nil, List.replicate_succ, List.replicate_zero, lim_v, reduceIte, decide_true, decide_false, Bool.not_true, Bool.not_false, Option.bind_some, Mi.lst_no, Mi.par2, Mi.par3, eq_self, and_self, Mi.mi6, Mi.mi7, Mi.mi8, Mi.mi9, Option.map_some, l2, l9, ix0, h, kn, sn, li]
theorem told5_ok (a b c d v : D) (h : F_most_tries [a, b] = .ok v) : F__law_told [.int 5, a, b, c, d] = .ok v := by
  have l2 : decide ((5 : Int) < 2) = false := by decide
  have l9 : decide ((5 : Int) < 9) = true := by decide
  have ix : ∀ (l : List (List D → R D)) (g : List D → R D), l[3]? = some g → L2.atI l (3 : Int) = some g := fun l g h => L2.atI_nat h
  have kn := kit_nr
  have sn := sub_nr
  have li : (5 : Nat) < 6 := by decide
  unfold F__law_told m__law_told b__law_told_0
  have ix0 : L2.atI [F_is_state, F_wait_of, F_heard, F_most_tries, F_time_for, F_bucket_heard, F_most_from] ((5 : Int) - 2) = some F_most_tries := ix _ _ rfl
  generalize (pickI exKit_NotRight "refused" "not right") = pk at *
  generalize exSub = sb at *
  generalize F_is_lock = q0 at *
  generalize F_is_bucket = q1 at *
  generalize F_is_state = q2 at *
  generalize F_wait_of = q3 at *
  generalize F_heard = q4 at *
  generalize F_most_tries = q5 at *
  generalize F_time_for = q6 at *
  generalize F_bucket_heard = q7 at *
  generalize F_most_from = q8 at *
  generalize F_drops_at = q9 at *
  generalize F_tried = q10 at *
  as_aux_lemma =>
    simp only [runA, seq_ap, Mi.mi0, Mi.mi1, Mi.mi2, Mi.mi3, Mi.mi4, Mi.mi5, Mi.mo0, Mi.mo1, Mi.mo2, Mi.mo3, Mi.mo8, Bool.false_eq_true, Mi.mo9, Nat.reduceAdd, Nat.reduceSub, Nat.reduceLeDiff, Nat.reduceLT, Nat.reduceEqDiff, Mi.mt0, List.getElem?_cons_zero, List.getElem?_cons_succ, List.set_cons_zero, List.set_cons_succ, List.map_cons, List.map_nil, List.length_cons, List.length_nil, List.nil_append, List.cons_append, List.append_nil, List.replicate_succ, List.replicate_zero, lim_v, reduceIte, decide_true, decide_false, Bool.not_true, Bool.not_false, Option.bind_some, Mi.lst_no, Mi.par2, Mi.par3, eq_self, and_self, Mi.mi6, Mi.mi7, Mi.mi8, Mi.mi9, Option.map_some, l2, l9, ix0, h, kn, sn, li]
theorem told5_no (a b c d : D) (h : F_most_tries [a, b] = .exc "NotRight" []) : F__law_told [.int 5, a, b, c, d] = .ok (.str "not right") := by
  have l2 : decide ((5 : Int) < 2) = false := by decide
  have l9 : decide ((5 : Int) < 9) = true := by decide
  have ix : ∀ (l : List (List D → R D)) (g : List D → R D), l[3]? = some g → L2.atI l (3 : Int) = some g := fun l g h => L2.atI_nat h
  have kn := kit_nr
  have sn := sub_nr
  have li : (5 : Nat) < 6 := by decide
  unfold F__law_told m__law_told b__law_told_0
  have ix0 : L2.atI [F_is_state, F_wait_of, F_heard, F_most_tries, F_time_for, F_bucket_heard, F_most_from] ((5 : Int) - 2) = some F_most_tries := ix _ _ rfl
  generalize (pickI exKit_NotRight "refused" "not right") = pk at *
  generalize exSub = sb at *
  generalize F_is_lock = q0 at *
  generalize F_is_bucket = q1 at *
  generalize F_is_state = q2 at *
  generalize F_wait_of = q3 at *
  generalize F_heard = q4 at *
  generalize F_most_tries = q5 at *
  generalize F_time_for = q6 at *
  generalize F_bucket_heard = q7 at *
  generalize F_most_from = q8 at *
  generalize F_drops_at = q9 at *
  generalize F_tried = q10 at *
  as_aux_lemma =>
    simp only [runA, seq_ap, Mi.mi0, Mi.mi1, Mi.mi2, Mi.mi3, Mi.mi4, Mi.mi5, Mi.mo0, Mi.mo1, Mi.mo2, Mi.mo3, Mi.mo8, Bool.false_eq_true, Mi.mo9, Nat.reduceAdd, Nat.reduceSub, Nat.reduceLeDiff, Nat.reduceLT, Nat.reduceEqDiff, Mi.mt0, List.getElem?_cons_zero, List.getElem?_cons_succ, List.set_cons_zero, List.set_cons_succ, List.map_cons, List.map_nil, List.length_cons, List.length_nil, List.nil_append, List.cons_append, List.append_nil, List.replicate_succ, List.replicate_zero, lim_v, reduceIte, decide_true, decide_false, Bool.not_true, Bool.not_false, Option.bind_some, Mi.lst_no, Mi.par2, Mi.par3, eq_self, and_self, Mi.mi6, Mi.mi7, Mi.mi8, Mi.mi9, Option.map_some, l2, l9, ix0, h, kn, sn, li]
theorem told6_ok (a b c d v : D) (h : F_time_for [a, b] = .ok v) : F__law_told [.int 6, a, b, c, d] = .ok v := by
  have l2 : decide ((6 : Int) < 2) = false := by decide
  have l9 : decide ((6 : Int) < 9) = true := by decide
  have ix : ∀ (l : List (List D → R D)) (g : List D → R D), l[4]? = some g → L2.atI l (4 : Int) = some g := fun l g h => L2.atI_nat h
  have kn := kit_nr
  have sn := sub_nr
  have li : (5 : Nat) < 6 := by decide
  unfold F__law_told m__law_told b__law_told_0
  have ix0 : L2.atI [F_is_state, F_wait_of, F_heard, F_most_tries, F_time_for, F_bucket_heard, F_most_from] ((6 : Int) - 2) = some F_time_for := ix _ _ rfl
  generalize (pickI exKit_NotRight "refused" "not right") = pk at *
  generalize exSub = sb at *
  generalize F_is_lock = q0 at *
  generalize F_is_bucket = q1 at *
  generalize F_is_state = q2 at *
  generalize F_wait_of = q3 at *
  generalize F_heard = q4 at *
  generalize F_most_tries = q5 at *
  generalize F_time_for = q6 at *
  generalize F_bucket_heard = q7 at *
  generalize F_most_from = q8 at *
  generalize F_drops_at = q9 at *
  generalize F_tried = q10 at *
  as_aux_lemma =>
    simp only [runA, seq_ap, Mi.mi0, Mi.mi1, Mi.mi2, Mi.mi3, Mi.mi4, Mi.mi5, Mi.mo0, Mi.mo1, Mi.mo2, Mi.mo3, Mi.mo8, Bool.false_eq_true, Mi.mo9, Nat.reduceAdd, Nat.reduceSub, Nat.reduceLeDiff, Nat.reduceLT, Nat.reduceEqDiff, Mi.mt0, List.getElem?_cons_zero, List.getElem?_cons_succ, List.set_cons_zero, List.set_cons_succ, List.map_cons, List.map_nil, List.length_cons, List.length_nil, List.nil_append, List.cons_append, List.append_nil, List.replicate_succ, List.replicate_zero, lim_v, reduceIte, decide_true, decide_false, Bool.not_true, Bool.not_false, Option.bind_some, Mi.lst_no, Mi.par2, Mi.par3, eq_self, and_self, Mi.mi6, Mi.mi7, Mi.mi8, Mi.mi9, Option.map_some, l2, l9, ix0, h, kn, sn, li]
theorem told6_no (a b c d : D) (h : F_time_for [a, b] = .exc "NotRight" []) : F__law_told [.int 6, a, b, c, d] = .ok (.str "not right") := by
  have l2 : decide ((6 : Int) < 2) = false := by decide
  have l9 : decide ((6 : Int) < 9) = true := by decide
  have ix : ∀ (l : List (List D → R D)) (g : List D → R D), l[4]? = some g → L2.atI l (4 : Int) = some g := fun l g h => L2.atI_nat h
  have kn := kit_nr
  have sn := sub_nr
  have li : (5 : Nat) < 6 := by decide
  unfold F__law_told m__law_told b__law_told_0
  have ix0 : L2.atI [F_is_state, F_wait_of, F_heard, F_most_tries, F_time_for, F_bucket_heard, F_most_from] ((6 : Int) - 2) = some F_time_for := ix _ _ rfl
  generalize (pickI exKit_NotRight "refused" "not right") = pk at *
  generalize exSub = sb at *
  generalize F_is_lock = q0 at *
  generalize F_is_bucket = q1 at *
  generalize F_is_state = q2 at *
  generalize F_wait_of = q3 at *
  generalize F_heard = q4 at *
  generalize F_most_tries = q5 at *
  generalize F_time_for = q6 at *
  generalize F_bucket_heard = q7 at *
  generalize F_most_from = q8 at *
  generalize F_drops_at = q9 at *
  generalize F_tried = q10 at *
  as_aux_lemma =>
    simp only [runA, seq_ap, Mi.mi0, Mi.mi1, Mi.mi2, Mi.mi3, Mi.mi4, Mi.mi5, Mi.mo0, Mi.mo1, Mi.mo2, Mi.mo3, Mi.mo8, Bool.false_eq_true, Mi.mo9, Nat.reduceAdd, Nat.reduceSub, Nat.reduceLeDiff, Nat.reduceLT, Nat.reduceEqDiff, Mi.mt0, List.getElem?_cons_zero, List.getElem?_cons_succ, List.set_cons_zero, List.set_cons_succ, List.map_cons, List.map_nil, List.length_cons, List.length_nil, List.nil_append, List.cons_append, List.append_nil, List.replicate_succ, List.replicate_zero, lim_v, reduceIte, decide_true, decide_false, Bool.not_true, Bool.not_false, Option.bind_some, Mi.lst_no, Mi.par2, Mi.par3, eq_self, and_self, Mi.mi6, Mi.mi7, Mi.mi8, Mi.mi9, Option.map_some, l2, l9, ix0, h, kn, sn, li]
theorem told7_ok (a b c d v : D) (h : F_bucket_heard [a, b] = .ok v) : F__law_told [.int 7, a, b, c, d] = .ok v := by
  have l2 : decide ((7 : Int) < 2) = false := by decide
  have l9 : decide ((7 : Int) < 9) = true := by decide
  have ix : ∀ (l : List (List D → R D)) (g : List D → R D), l[5]? = some g → L2.atI l (5 : Int) = some g := fun l g h => L2.atI_nat h
  have kn := kit_nr
  have sn := sub_nr
  have li : (5 : Nat) < 6 := by decide
  unfold F__law_told m__law_told b__law_told_0
  have ix0 : L2.atI [F_is_state, F_wait_of, F_heard, F_most_tries, F_time_for, F_bucket_heard, F_most_from] ((7 : Int) - 2) = some F_bucket_heard := ix _ _ rfl
  generalize (pickI exKit_NotRight "refused" "not right") = pk at *
  generalize exSub = sb at *
  generalize F_is_lock = q0 at *
  generalize F_is_bucket = q1 at *
  generalize F_is_state = q2 at *
  generalize F_wait_of = q3 at *
  generalize F_heard = q4 at *
  generalize F_most_tries = q5 at *
  generalize F_time_for = q6 at *
  generalize F_bucket_heard = q7 at *
  generalize F_most_from = q8 at *
  generalize F_drops_at = q9 at *
  generalize F_tried = q10 at *
  as_aux_lemma =>
    simp only [runA, seq_ap, Mi.mi0, Mi.mi1, Mi.mi2, Mi.mi3, Mi.mi4, Mi.mi5, Mi.mo0, Mi.mo1, Mi.mo2, Mi.mo3, Mi.mo8, Bool.false_eq_true, Mi.mo9, Nat.reduceAdd, Nat.reduceSub, Nat.reduceLeDiff, Nat.reduceLT, Nat.reduceEqDiff, Mi.mt0, List.getElem?_cons_zero, List.getElem?_cons_succ, List.set_cons_zero, List.set_cons_succ, List.map_cons, List.map_nil, List.length_cons, List.length_nil, List.nil_append, List.cons_append, List.append_nil, List.replicate_succ, List.replicate_zero, lim_v, reduceIte, decide_true, decide_false, Bool.not_true, Bool.not_false, Option.bind_some, Mi.lst_no, Mi.par2, Mi.par3, eq_self, and_self, Mi.mi6, Mi.mi7, Mi.mi8, Mi.mi9, Option.map_some, l2, l9, ix0, h, kn, sn, li]
theorem told7_no (a b c d : D) (h : F_bucket_heard [a, b] = .exc "NotRight" []) : F__law_told [.int 7, a, b, c, d] = .ok (.str "not right") := by
  have l2 : decide ((7 : Int) < 2) = false := by decide
  have l9 : decide ((7 : Int) < 9) = true := by decide
  have ix : ∀ (l : List (List D → R D)) (g : List D → R D), l[5]? = some g → L2.atI l (5 : Int) = some g := fun l g h => L2.atI_nat h
  have kn := kit_nr
  have sn := sub_nr
  have li : (5 : Nat) < 6 := by decide
  unfold F__law_told m__law_told b__law_told_0
  have ix0 : L2.atI [F_is_state, F_wait_of, F_heard, F_most_tries, F_time_for, F_bucket_heard, F_most_from] ((7 : Int) - 2) = some F_bucket_heard := ix _ _ rfl
  generalize (pickI exKit_NotRight "refused" "not right") = pk at *
  generalize exSub = sb at *
  generalize F_is_lock = q0 at *
  generalize F_is_bucket = q1 at *
  generalize F_is_state = q2 at *
  generalize F_wait_of = q3 at *
  generalize F_heard = q4 at *
  generalize F_most_tries = q5 at *
  generalize F_time_for = q6 at *
  generalize F_bucket_heard = q7 at *
  generalize F_most_from = q8 at *
  generalize F_drops_at = q9 at *
  generalize F_tried = q10 at *
  as_aux_lemma =>
    simp only [runA, seq_ap, Mi.mi0, Mi.mi1, Mi.mi2, Mi.mi3, Mi.mi4, Mi.mi5, Mi.mo0, Mi.mo1, Mi.mo2, Mi.mo3, Mi.mo8, Bool.false_eq_true, Mi.mo9, Nat.reduceAdd, Nat.reduceSub, Nat.reduceLeDiff, Nat.reduceLT, Nat.reduceEqDiff, Mi.mt0, List.getElem?_cons_zero, List.getElem?_cons_succ, List.set_cons_zero, List.set_cons_succ, List.map_cons, List.map_nil, List.length_cons, List.length_nil, List.nil_append, List.cons_append, List.append_nil, List.replicate_succ, List.replicate_zero, lim_v, reduceIte, decide_true, decide_false, Bool.not_true, Bool.not_false, Option.bind_some, Mi.lst_no, Mi.par2, Mi.par3, eq_self, and_self, Mi.mi6, Mi.mi7, Mi.mi8, Mi.mi9, Option.map_some, l2, l9, ix0, h, kn, sn, li]
theorem told8_ok (a b c d v : D) (h : F_most_from [a, b] = .ok v) : F__law_told [.int 8, a, b, c, d] = .ok v := by
  have l2 : decide ((8 : Int) < 2) = false := by decide
  have l9 : decide ((8 : Int) < 9) = true := by decide
  have ix : ∀ (l : List (List D → R D)) (g : List D → R D), l[6]? = some g → L2.atI l (6 : Int) = some g := fun l g h => L2.atI_nat h
  have kn := kit_nr
  have sn := sub_nr
  have li : (5 : Nat) < 6 := by decide
  unfold F__law_told m__law_told b__law_told_0
  have ix0 : L2.atI [F_is_state, F_wait_of, F_heard, F_most_tries, F_time_for, F_bucket_heard, F_most_from] ((8 : Int) - 2) = some F_most_from := ix _ _ rfl
  generalize (pickI exKit_NotRight "refused" "not right") = pk at *
  generalize exSub = sb at *
  generalize F_is_lock = q0 at *
  generalize F_is_bucket = q1 at *
  generalize F_is_state = q2 at *
  generalize F_wait_of = q3 at *
  generalize F_heard = q4 at *
  generalize F_most_tries = q5 at *
  generalize F_time_for = q6 at *
  generalize F_bucket_heard = q7 at *
  generalize F_most_from = q8 at *
  generalize F_drops_at = q9 at *
  generalize F_tried = q10 at *
  as_aux_lemma =>
    simp only [runA, seq_ap, Mi.mi0, Mi.mi1, Mi.mi2, Mi.mi3, Mi.mi4, Mi.mi5, Mi.mo0, Mi.mo1, Mi.mo2, Mi.mo3, Mi.mo8, Bool.false_eq_true, Mi.mo9, Nat.reduceAdd, Nat.reduceSub, Nat.reduceLeDiff, Nat.reduceLT, Nat.reduceEqDiff, Mi.mt0, List.getElem?_cons_zero, List.getElem?_cons_succ, List.set_cons_zero, List.set_cons_succ, List.map_cons, List.map_nil, List.length_cons, List.length_nil, List.nil_append, List.cons_append, List.append_nil, List.replicate_succ, List.replicate_zero, lim_v, reduceIte, decide_true, decide_false, Bool.not_true, Bool.not_false, Option.bind_some, Mi.lst_no, Mi.par2, Mi.par3, eq_self, and_self, Mi.mi6, Mi.mi7, Mi.mi8, Mi.mi9, Option.map_some, l2, l9, ix0, h, kn, sn, li]
theorem told8_no (a b c d : D) (h : F_most_from [a, b] = .exc "NotRight" []) : F__law_told [.int 8, a, b, c, d] = .ok (.str "not right") := by
  have l2 : decide ((8 : Int) < 2) = false := by decide
  have l9 : decide ((8 : Int) < 9) = true := by decide
  have ix : ∀ (l : List (List D → R D)) (g : List D → R D), l[6]? = some g → L2.atI l (6 : Int) = some g := fun l g h => L2.atI_nat h
  have kn := kit_nr
  have sn := sub_nr
  have li : (5 : Nat) < 6 := by decide
  unfold F__law_told m__law_told b__law_told_0
  have ix0 : L2.atI [F_is_state, F_wait_of, F_heard, F_most_tries, F_time_for, F_bucket_heard, F_most_from] ((8 : Int) - 2) = some F_most_from := ix _ _ rfl
  generalize (pickI exKit_NotRight "refused" "not right") = pk at *
  generalize exSub = sb at *
  generalize F_is_lock = q0 at *
  generalize F_is_bucket = q1 at *
  generalize F_is_state = q2 at *
  generalize F_wait_of = q3 at *
  generalize F_heard = q4 at *
  generalize F_most_tries = q5 at *
  generalize F_time_for = q6 at *
  generalize F_bucket_heard = q7 at *
  generalize F_most_from = q8 at *
  generalize F_drops_at = q9 at *
  generalize F_tried = q10 at *
  as_aux_lemma =>
    simp only [runA, seq_ap, Mi.mi0, Mi.mi1, Mi.mi2, Mi.mi3, Mi.mi4, Mi.mi5, Mi.mo0, Mi.mo1, Mi.mo2, Mi.mo3, Mi.mo8, Bool.false_eq_true, Mi.mo9, Nat.reduceAdd, Nat.reduceSub, Nat.reduceLeDiff, Nat.reduceLT, Nat.reduceEqDiff, Mi.mt0, List.getElem?_cons_zero, List.getElem?_cons_succ, List.set_cons_zero, List.set_cons_succ, List.map_cons, List.map_nil, List.length_cons, List.length_nil, List.nil_append, List.cons_append, List.append_nil, List.replicate_succ, List.replicate_zero, lim_v, reduceIte, decide_true, decide_false, Bool.not_true, Bool.not_false, Option.bind_some, Mi.lst_no, Mi.par2, Mi.par3, eq_self, and_self, Mi.mi6, Mi.mi7, Mi.mi8, Mi.mi9, Option.map_some, l2, l9, ix0, h, kn, sn, li]
theorem told9_ok (a b c d v : D) (h : F_drops_at [a, b, c] = .ok v) : F__law_told [.int 9, a, b, c, d] = .ok v := by
  have l2 : decide ((9 : Int) < 2) = false := by decide
  have l9 : decide ((9 : Int) < 9) = false := by decide
  have z9 : decide ((9 : Int) = 9) = true := by decide
  have kn := kit_nr
  have sn := sub_nr
  have li : (5 : Nat) < 6 := by decide
  unfold F__law_told m__law_told b__law_told_0
  generalize (pickI exKit_NotRight "refused" "not right") = pk at *
  generalize exSub = sb at *
  generalize F_is_lock = q0 at *
  generalize F_is_bucket = q1 at *
  generalize F_is_state = q2 at *
  generalize F_wait_of = q3 at *
  generalize F_heard = q4 at *
  generalize F_most_tries = q5 at *
  generalize F_time_for = q6 at *
  generalize F_bucket_heard = q7 at *
  generalize F_most_from = q8 at *
  generalize F_drops_at = q9 at *
  generalize F_tried = q10 at *
  as_aux_lemma =>
    simp only [runA, seq_ap, Mi.mi0, Mi.mi1, Mi.mi2, Mi.mi3, Mi.mi4, Mi.mi5, Mi.mo0, Mi.mo1, Mi.mo2, Mi.mo3, Mi.mo8, Bool.false_eq_true, Mi.mo9, Nat.reduceAdd, Nat.reduceSub, Nat.reduceLeDiff, Nat.reduceLT, Nat.reduceEqDiff, Mi.mt0, List.getElem?_cons_zero, List.getElem?_cons_succ, List.set_cons_zero, List.set_cons_succ, List.map_cons, List.map_nil, List.length_cons, List.length_nil, List.nil_append, List.cons_append, List.append_nil, List.replicate_succ, List.replicate_zero, lim_v, reduceIte, decide_true, decide_false, Bool.not_true, Bool.not_false, Option.bind_some, Mi.lst_no, Mi.par2, Mi.par3, eq_self, and_self, Mi.mi6, Mi.mi7, Mi.mi8, Mi.mi9, Option.map_some, l2, l9, z9, h, kn, sn, li]
theorem told9_no (a b c d : D) (h : F_drops_at [a, b, c] = .exc "NotRight" []) : F__law_told [.int 9, a, b, c, d] = .ok (.str "not right") := by
  have l2 : decide ((9 : Int) < 2) = false := by decide
  have l9 : decide ((9 : Int) < 9) = false := by decide
  have z9 : decide ((9 : Int) = 9) = true := by decide
  have kn := kit_nr
  have sn := sub_nr
  have li : (5 : Nat) < 6 := by decide
  unfold F__law_told m__law_told b__law_told_0
  generalize (pickI exKit_NotRight "refused" "not right") = pk at *
  generalize exSub = sb at *
  generalize F_is_lock = q0 at *
  generalize F_is_bucket = q1 at *
  generalize F_is_state = q2 at *
  generalize F_wait_of = q3 at *
  generalize F_heard = q4 at *
  generalize F_most_tries = q5 at *
  generalize F_time_for = q6 at *
  generalize F_bucket_heard = q7 at *
  generalize F_most_from = q8 at *
  generalize F_drops_at = q9 at *
  generalize F_tried = q10 at *
  as_aux_lemma =>
    simp only [runA, seq_ap, Mi.mi0, Mi.mi1, Mi.mi2, Mi.mi3, Mi.mi4, Mi.mi5, Mi.mo0, Mi.mo1, Mi.mo2, Mi.mo3, Mi.mo8, Bool.false_eq_true, Mi.mo9, Nat.reduceAdd, Nat.reduceSub, Nat.reduceLeDiff, Nat.reduceLT, Nat.reduceEqDiff, Mi.mt0, List.getElem?_cons_zero, List.getElem?_cons_succ, List.set_cons_zero, List.set_cons_succ, List.map_cons, List.map_nil, List.length_cons, List.length_nil, List.nil_append, List.cons_append, List.append_nil, List.replicate_succ, List.replicate_zero, lim_v, reduceIte, decide_true, decide_false, Bool.not_true, Bool.not_false, Option.bind_some, Mi.lst_no, Mi.par2, Mi.par3, eq_self, and_self, Mi.mi6, Mi.mi7, Mi.mi8, Mi.mi9, Option.map_some, l2, l9, z9, h, kn, sn, li]
theorem told10_ok (a b c d v : D) (h : F_tried [a, b, c, d] = .ok v) : F__law_told [.int 10, a, b, c, d] = .ok v := by
  have l2 : decide ((10 : Int) < 2) = false := by decide
  have l9 : decide ((10 : Int) < 9) = false := by decide
  have z9 : decide ((10 : Int) = 9) = false := by decide
  have kn := kit_nr
  have sn := sub_nr
  have li : (5 : Nat) < 6 := by decide
  unfold F__law_told m__law_told b__law_told_0
  generalize (pickI exKit_NotRight "refused" "not right") = pk at *
  generalize exSub = sb at *
  generalize F_is_lock = q0 at *
  generalize F_is_bucket = q1 at *
  generalize F_is_state = q2 at *
  generalize F_wait_of = q3 at *
  generalize F_heard = q4 at *
  generalize F_most_tries = q5 at *
  generalize F_time_for = q6 at *
  generalize F_bucket_heard = q7 at *
  generalize F_most_from = q8 at *
  generalize F_drops_at = q9 at *
  generalize F_tried = q10 at *
  as_aux_lemma =>
    simp only [runA, seq_ap, Mi.mi0, Mi.mi1, Mi.mi2, Mi.mi3, Mi.mi4, Mi.mi5, Mi.mo0, Mi.mo1, Mi.mo2, Mi.mo3, Mi.mo8, Bool.false_eq_true, Mi.mo9, Nat.reduceAdd, Nat.reduceSub, Nat.reduceLeDiff, Nat.reduceLT, Nat.reduceEqDiff, Mi.mt0, List.getElem?_cons_zero, List.getElem?_cons_succ, List.set_cons_zero, List.set_cons_succ, List.map_cons, List.map_nil, List.length_cons, List.length_nil, List.nil_append, List.cons_append, List.append_nil, List.replicate_succ, List.replicate_zero, lim_v, reduceIte, decide_true, decide_false, Bool.not_true, Bool.not_false, Option.bind_some, Mi.lst_no, Mi.par2, Mi.par3, eq_self, and_self, Mi.mi6, Mi.mi7, Mi.mi8, Mi.mi9, Option.map_some, l2, l9, z9, h, kn, sn, li]
theorem told10_no (a b c d : D) (h : F_tried [a, b, c, d] = .exc "NotRight" []) : F__law_told [.int 10, a, b, c, d] = .ok (.str "not right") := by
  have l2 : decide ((10 : Int) < 2) = false := by decide
  have l9 : decide ((10 : Int) < 9) = false := by decide
  have z9 : decide ((10 : Int) = 9) = false := by decide
  have kn := kit_nr
  have sn := sub_nr
  have li : (5 : Nat) < 6 := by decide
  unfold F__law_told m__law_told b__law_told_0
  generalize (pickI exKit_NotRight "refused" "not right") = pk at *
  generalize exSub = sb at *
  generalize F_is_lock = q0 at *
  generalize F_is_bucket = q1 at *
  generalize F_is_state = q2 at *
  generalize F_wait_of = q3 at *
  generalize F_heard = q4 at *
  generalize F_most_tries = q5 at *
  generalize F_time_for = q6 at *
  generalize F_bucket_heard = q7 at *
  generalize F_most_from = q8 at *
  generalize F_drops_at = q9 at *
  generalize F_tried = q10 at *
  as_aux_lemma =>
    simp only [runA, seq_ap, Mi.mi0, Mi.mi1, Mi.mi2, Mi.mi3, Mi.mi4, Mi.mi5, Mi.mo0, Mi.mo1, Mi.mo2, Mi.mo3, Mi.mo8, Bool.false_eq_true, Mi.mo9, Nat.reduceAdd, Nat.reduceSub, Nat.reduceLeDiff, Nat.reduceLT, Nat.reduceEqDiff, Mi.mt0, List.getElem?_cons_zero, List.getElem?_cons_succ, List.set_cons_zero, List.set_cons_succ, List.map_cons, List.map_nil, List.length_cons, List.length_nil, List.nil_append, List.cons_append, List.append_nil, List.replicate_succ, List.replicate_zero, lim_v, reduceIte, decide_true, decide_false, Bool.not_true, Bool.not_false, Option.bind_some, Mi.lst_no, Mi.par2, Mi.par3, eq_self, and_self, Mi.mi6, Mi.mi7, Mi.mi8, Mi.mi9, Option.map_some, l2, l9, z9, h, kn, sn, li]
end Lw
namespace Lw
open Mi
theorem pick_int (ns : List Int) {xs : List Int} (hx : xs ≠ []) : ∃ x ms, F__law_pick ns [.lst (xs.map D.int)] = .ok (.int x, ms) ∧ x ∈ xs := by
  obtain ⟨d, ms, h, hd⟩ := pick_ok ns (ds := xs.map D.int) (by simpa using hx)
  obtain ⟨x, hx, rfl⟩ := List.mem_map.1 hd
  exact ⟨x, ms, h, hx⟩
theorem law_lock_ok (ms : List Int) : ∃ a b c d ms', LkOk a b c d ∧ c ≤ 12 ∧ F__law_lock ms [] = .ok (lk a b c d, ms') := by
  obtain ⟨r1, m1, h1, r10, r11⟩ := take_ok ms (b := 4) (by omega)
  obtain ⟨r2, m2, h2, r20, r21⟩ := take_ok m1 (b := 6) (by omega)
  obtain ⟨r3, m3, h3, r30, r31⟩ := take_ok m2 (b := 6) (by omega)
  obtain ⟨x5, m5, h5, i5⟩ := pick_int m3 (xs := [1, 30, 200]) (by simp)
  have x50 : 0 < x5 ∧ x5 ≤ 200 := by
    simp only [List.mem_cons, List.mem_nil_iff, or_false] at i5
    rcases i5 with rfl | rfl | rfl <;> omega
  obtain ⟨r6, m6, h6, r60, r61⟩ := take_ok m5 (b := x5) x50.1
  refine ⟨r1.toNat, (1 + r2).toNat, (r1 + 1 + r3).toNat, (1 + r2 + r6).toNat, m6, by constructor <;> omega, by omega, ?_⟩
  have e1 : lk r1.toNat (1 + r2).toNat (r1 + 1 + r3).toNat (1 + r2 + r6).toNat = .tup [.int r1, .int (1 + r2), .int (r1 + 1 + r3), .int (1 + r2 + r6)] := by
    unfold lk nI
    rw [Int.toNat_of_nonneg r10, Int.toNat_of_nonneg (by omega), Int.toNat_of_nonneg (by omega), Int.toNat_of_nonneg (by omega)]
  rw [e1]
  have i := intsOf_map
  simp only [List.map_cons, List.map_nil] at h5
  unfold F__law_lock
  simp only [runB, m__law_lock]
  generalize F__law_take = q0 at *
  generalize F__law_pick = q1 at *
  as_aux_lemma =>
    simp only [seq_ap, Mi.mi0, Mi.mi1, Mi.mi2, Mi.mi3, Mi.mi4, Mi.mi5, Mi.mo0, Mi.mo1, Mi.mo2, Mi.mo3, Mi.mo8, Bool.false_eq_true, Mi.mo9, Nat.reduceAdd, Nat.reduceSub, Nat.reduceLeDiff, Nat.reduceLT, Nat.reduceEqDiff, Mi.mt0, List.getElem?_cons_zero, List.getElem?_cons_succ, List.set_cons_zero, List.set_cons_succ, List.map_cons, List.map_nil, List.length_cons, List.length_nil, List.nil_append, List.cons_append, List.append_nil, List.replicate_succ, List.replicate_zero, lim_v, reduceIte, decide_true, decide_false, Bool.not_true, Bool.not_false, Option.bind_some, Mi.lst_no, Mi.par2, Mi.par3, eq_self, and_self, Mi.mi6, Mi.mi7, Mi.mi8, Mi.mi9, Option.map_some, eCallB, i, h1, h2, h3, h5, h6, Sl.turn]
theorem wt_step {b d k : Nat} : min (2 * min (b * 2 ^ k) d) d = min (b * 2 ^ (k + 1)) d := by
  rw [Nat.pow_succ, ← Nat.mul_assoc]
  generalize b * 2 ^ k = x
  omega
theorem wt_at {a b d k : Nat} : wt a b d (a + 1 + k) = min (b * 2 ^ k) d := by
  unfold wt
  rw [if_pos (by omega), show a + 1 + k - a - 1 = k by omega]
theorem wt_low {a b d : Nat} : wt a b d a = 0 := if_neg (by omega)
theorem wait_body {a b c d j i w : Nat} (h : LkOk a b c d) (hw : w = wt a b d (a + i)) (s3 : Sl) :
    b__law_wait_0 [.val (lk a b c d), .val (nI j), .val (nI w), .val (.int ((a : Int) + 1 + (i : Int))), .val (nI a), .val (nI b), .val (nI c), .val (nI d)] = .ok (.nx [.val (lk a b c d), .val (nI j), .val (nI (wt a b d (a + 1 + i))), .val (.int ((a : Int) + 1 + (i : Int))), .val (nI a), .val (nI b), .val (nI c), .val (nI d)]) := by
  subst hw
  by_cases i0 : i = 0
  · subst i0
    have k1 : decide ((a : Int) + 1 + ((0 : Nat) : Int) = (a : Int) + 1) = true := decide_eq_true (by omega)
    have e1 : (if (b : Int) < (d : Int) then (b : Int) else (d : Int)) = ((wt a b d (a + 1 + 0) : Nat) : Int) := by
      rw [wt_at, Nat.pow_zero, Nat.mul_one]
      split <;> omega
    generalize wt a b d (a + 1 + 0) = w at *
    generalize ((0 : Nat) : Int) = z at *
    generalize lk a b c d = lo at *
    unfold b__law_wait_0
    as_aux_lemma =>
      simp only [seq_ap, Mi.mi0, Mi.mi1, Mi.mi2, Mi.mi3, Mi.mi4, Mi.mi5, Mi.mo0, Mi.mo1, Mi.mo2, Mi.mo3, Mi.mo8, Bool.false_eq_true, Mi.mo9, Nat.reduceAdd, Nat.reduceSub, Nat.reduceLeDiff, Nat.reduceLT, Nat.reduceEqDiff, Mi.mt0, List.getElem?_cons_zero, List.getElem?_cons_succ, List.set_cons_zero, List.set_cons_succ, List.map_cons, List.map_nil, List.length_cons, List.length_nil, List.nil_append, List.cons_append, List.append_nil, List.replicate_succ, List.replicate_zero, lim_v, reduceIte, decide_true, decide_false, Bool.not_true, Bool.not_false, Option.bind_some, Mi.lst_no, Mi.par2, Mi.par3, eq_self, and_self, Mi.mi6, Mi.mi7, Mi.mi8, Mi.mi9, Option.map_some, k1, e1]
  · have k1 : decide ((a : Int) + 1 + ((i : Nat) : Int) = (a : Int) + 1) = false := decide_eq_false (by omega)
    have e0 : wt a b d (a + i) = min (b * 2 ^ (i - 1)) d := by
      rw [show a + i = a + 1 + (i - 1) by omega, wt_at]
    have hm : wt a b d (a + i) ≤ d := by rw [e0]; exact Nat.min_le_right _ _
    have e1 : (if 2 * ((wt a b d (a + i) : Nat) : Int) < (d : Int) then 2 * ((wt a b d (a + i) : Nat) : Int) else (d : Int)) = ((wt a b d (a + 1 + i) : Nat) : Int) := by
      rw [wt_at, e0, show b * 2 ^ i = b * 2 ^ (i - 1 + 1) by rw [show i - 1 + 1 = i by omega], ← wt_step]
      split <;> omega
    have d1 := h.d1
    have m := mul_ok (x := 2) (y := ((wt a b d (a + i) : Nat) : Int)) two_bd (Bd.small (by omega) (by omega)) (by omega)
    generalize wt a b d (a + 1 + i) = w at *
    generalize wt a b d (a + i) = w2 at *
    generalize lk a b c d = lo at *
    unfold b__law_wait_0
    as_aux_lemma =>
      simp only [seq_ap, Mi.mi0, Mi.mi1, Mi.mi2, Mi.mi3, Mi.mi4, Mi.mi5, Mi.mo0, Mi.mo1, Mi.mo2, Mi.mo3, Mi.mo8, Bool.false_eq_true, Mi.mo9, Nat.reduceAdd, Nat.reduceSub, Nat.reduceLeDiff, Nat.reduceLT, Nat.reduceEqDiff, Mi.mt0, List.getElem?_cons_zero, List.getElem?_cons_succ, List.set_cons_zero, List.set_cons_succ, List.map_cons, List.map_nil, List.length_cons, List.length_nil, List.nil_append, List.cons_append, List.append_nil, List.replicate_succ, List.replicate_zero, lim_v, reduceIte, decide_true, decide_false, Bool.not_true, Bool.not_false, Option.bind_some, Mi.lst_no, Mi.par2, Mi.par3, eq_self, and_self, Mi.mi6, Mi.mi7, Mi.mi8, Mi.mi9, Option.map_some, k1, e1, m]
theorem law_wait_eq {a b c d j : Nat} (h : LkOk a b c d) (hj : j ≤ 300) : F__law_wait [lk a b c d, nI j] = .ok (nI (wt a b d j)) := by
  obtain ⟨e', l, s, rfl⟩ := for_rng (G := gN 3) (b := b__law_wait_0) (lo := (a : Int) + 1) (n := j - a) (e := [.val (lk a b c d), .val (nI j), .val (nI 0), .un, .val (nI a), .val (nI b), .val (nI c), .val (nI d)]) (fun i e => ∃ s, e = [.val (lk a b c d), .val (nI j), .val (nI (wt a b d (a + i))), s, .val (nI a), .val (nI b), .val (nI c), .val (nI d)]) ⟨.un, by rw [Nat.add_zero, wt_low]⟩ fun i e hi ⟨s, he⟩ => by
    subst he
    rw [show a + (i + 1) = a + 1 + i by omega]
    exact ⟨_, _, rfl, wait_body h rfl s, .val (.int ((a : Int) + 1 + (i : Int))), rfl⟩
  have e0 : wt a b d (a + (j - a)) = wt a b d j := by
    by_cases c1 : a ≤ j
    · rw [show a + (j - a) = j by omega]
    · rw [show a + (j - a) = a by omega, wt_low]
      unfold wt
      rw [if_neg (by omega)]
  rw [e0] at l
  have a20 := h.a0
  have r1 := r62_of (show (0 : Int) ≤ (a : Int) + 1 by omega) (by omega)
  have r2 := r62_of (show (0 : Int) ≤ (j : Int) + 1 by omega) (by omega)
  have t : ((j : Int) + 1 - ((a : Int) + 1)).toNat = j - a := by omega
  change forF _ _ _ [_, _, .val (.int 0), _, _, _, _, _] = _ at l
  unfold F__law_wait m__law_wait lk at *
  generalize wt a b d j = w at *
  generalize b__law_wait_0 = bb at *
  as_aux_lemma =>
    simp only [runA, seq_ap, Mi.mi0, Mi.mi1, Mi.mi2, Mi.mi3, Mi.mi4, Mi.mi5, Mi.mo0, Mi.mo1, Mi.mo2, Mi.mo3, Mi.mo8, Bool.false_eq_true, Mi.mo9, Nat.reduceAdd, Nat.reduceSub, Nat.reduceLeDiff, Nat.reduceLT, Nat.reduceEqDiff, Mi.mt0, List.getElem?_cons_zero, List.getElem?_cons_succ, List.set_cons_zero, List.set_cons_succ, List.map_cons, List.map_nil, List.length_cons, List.length_nil, List.nil_append, List.cons_append, List.append_nil, List.replicate_succ, List.replicate_zero, lim_v, reduceIte, decide_true, decide_false, Bool.not_true, Bool.not_false, Option.bind_some, Mi.lst_no, Mi.par2, Mi.par3, eq_self, and_self, Mi.mi6, Mi.mi7, Mi.mi8, Mi.mi9, Option.map_some, r1, r2, t, l, and_self]
theorem law_try_eq {a b c d : Nat} (h : LkOk a b c d) {s : Nat × Nat} {x : Nat × Bool} (hs : s.1 ≤ c) :
    F__law_try [lk a b c d, stD c s, nI x.1, .bl x.2] = .ok (.tup [.bl (tstep a b c d s x).1, stD c (tstep a b c d s x).2]) := by
  obtain ⟨w, t⟩ := s
  obtain ⟨n, r⟩ := x
  have w1 := law_wait_eq (j := w) h (by have := h.c1; have : w ≤ c := hs; omega)
  have c0 := h.c0
  have g := gIx_lk2 a b c d
  unfold F__law_try m__law_try tstep stD
  simp only at hs ⊢
  by_cases c1 : w = c
  · rw [if_pos (.inl c1)]
    have k1 : decide (w = c) = true := decide_eq_true c1
    generalize lk a b c d = lo at *
    generalize F__law_wait = q0 at *
    as_aux_lemma =>
      simp only [runA, seq_ap, Mi.mi0, Mi.mi1, Mi.mi2, Mi.mi3, Mi.mi4, Mi.mi5, Mi.mo0, Mi.mo1, Mi.mo2, Mi.mo3, Mi.mo8, Bool.false_eq_true, Mi.mo9, Nat.reduceAdd, Nat.reduceSub, Nat.reduceLeDiff, Nat.reduceLT, Nat.reduceEqDiff, Mi.mt0, List.getElem?_cons_zero, List.getElem?_cons_succ, List.set_cons_zero, List.set_cons_succ, List.map_cons, List.map_nil, List.length_cons, List.length_nil, List.nil_append, List.cons_append, List.append_nil, List.replicate_succ, List.replicate_zero, lim_v, reduceIte, decide_true, decide_false, Bool.not_true, Bool.not_false, Option.bind_some, Mi.lst_no, Mi.par2, Mi.par3, eq_self, and_self, Mi.mi6, Mi.mi7, Mi.mi8, Mi.mi9, Option.map_some, k1]
  · have k1 : decide (w = c) = false := decide_eq_false c1
    by_cases c2 : n < t + wt a b d w
    · rw [if_pos (.inr c2)]
      have k2 : decide ((n : Int) < (t : Int) + (wt a b d w : Int)) = true := decide_eq_true (by omega)
      generalize wt a b d w = v at *
      generalize lk a b c d = lo at *
      generalize F__law_wait = q0 at *
      as_aux_lemma =>
        simp only [runA, seq_ap, Mi.mi0, Mi.mi1, Mi.mi2, Mi.mi3, Mi.mi4, Mi.mi5, Mi.mo0, Mi.mo1, Mi.mo2, Mi.mo3, Mi.mo8, Bool.false_eq_true, Mi.mo9, Nat.reduceAdd, Nat.reduceSub, Nat.reduceLeDiff, Nat.reduceLT, Nat.reduceEqDiff, Mi.mt0, List.getElem?_cons_zero, List.getElem?_cons_succ, List.set_cons_zero, List.set_cons_succ, List.map_cons, List.map_nil, List.length_cons, List.length_nil, List.nil_append, List.cons_append, List.append_nil, List.replicate_succ, List.replicate_zero, lim_v, reduceIte, decide_true, decide_false, Bool.not_true, Bool.not_false, Option.bind_some, Mi.lst_no, Mi.par2, Mi.par3, eq_self, and_self, Mi.mi6, Mi.mi7, Mi.mi8, Mi.mi9, Option.map_some, k1, k2, w1]
    · rw [if_neg (by rintro (h | h); exact c1 h; exact c2 h)]
      have k2 : decide ((n : Int) < (t : Int) + (wt a b d w : Int)) = false := decide_eq_false (by omega)
      have k3 : decide ((w : Int) + 1 = (c : Int)) = decide (w + 1 = c) := decide_eq_decide.2 (by omega)
      have k4 : decide ((0 : Int) = (c : Int)) = decide (0 = c) := decide_eq_decide.2 (by omega)
      generalize wt a b d w = v at *
      generalize lk a b c d = lo at *
      cases r with
      | true =>
        rw [if_pos rfl]
        change _ = R.ok (D.tup [.bl true, .tup [.int 0, nI n, .bl (decide (0 = c))]])
        generalize F__law_wait = q0 at *
        as_aux_lemma =>
          simp only [runA, seq_ap, Mi.mi0, Mi.mi1, Mi.mi2, Mi.mi3, Mi.mi4, Mi.mi5, Mi.mo0, Mi.mo1, Mi.mo2, Mi.mo3, Mi.mo8, Bool.false_eq_true, Mi.mo9, Nat.reduceAdd, Nat.reduceSub, Nat.reduceLeDiff, Nat.reduceLT, Nat.reduceEqDiff, Mi.mt0, List.getElem?_cons_zero, List.getElem?_cons_succ, List.set_cons_zero, List.set_cons_succ, List.map_cons, List.map_nil, List.length_cons, List.length_nil, List.nil_append, List.cons_append, List.append_nil, List.replicate_succ, List.replicate_zero, lim_v, reduceIte, decide_true, decide_false, Bool.not_true, Bool.not_false, Option.bind_some, Mi.lst_no, Mi.par2, Mi.par3, eq_self, and_self, Mi.mi6, Mi.mi7, Mi.mi8, Mi.mi9, Option.map_some, k1, k2, w1, g, k4]
      | false =>
        rw [if_neg (by simp)]
        change _ = R.ok (D.tup [.bl true, .tup [.int ((w : Int) + 1), nI n, .bl (decide (w + 1 = c))]])
        generalize F__law_wait = q0 at *
        as_aux_lemma =>
          simp only [runA, seq_ap, Mi.mi0, Mi.mi1, Mi.mi2, Mi.mi3, Mi.mi4, Mi.mi5, Mi.mo0, Mi.mo1, Mi.mo2, Mi.mo3, Mi.mo8, Bool.false_eq_true, Mi.mo9, Nat.reduceAdd, Nat.reduceSub, Nat.reduceLeDiff, Nat.reduceLT, Nat.reduceEqDiff, Mi.mt0, List.getElem?_cons_zero, List.getElem?_cons_succ, List.set_cons_zero, List.set_cons_succ, List.map_cons, List.map_nil, List.length_cons, List.length_nil, List.nil_append, List.cons_append, List.append_nil, List.replicate_succ, List.replicate_zero, lim_v, reduceIte, decide_true, decide_false, Bool.not_true, Bool.not_false, Option.bind_some, Mi.lst_no, Mi.par2, Mi.par3, eq_self, and_self, Mi.mi6, Mi.mi7, Mi.mi8, Mi.mi9, Option.map_some, k1, k2, w1, g, k3]
def hrun (a b c d : Nat) (xs : List (Nat × Bool)) : List Bool × (Nat × Nat) := xs.foldl (hstep a b c d) ([], (0, 0))
theorem law_heard_eq {a b c d : Nat} (h : LkOk a b c d) (xs : List (Nat × Bool)) (hl : xs.length ≤ 1000000) : F__law_heard [lk a b c d, .lst (xs.map tr)] = .ok (hres c (hrun a b c d xs)) := by
  obtain ⟨⟨t1, t2, t3⟩, l, _⟩ := for_fold (G := gT 2 (gsC (gN 4) (gsC (gN 5) (gsN)))) (b := b__law_heard_0) tr (fun (s : List Bool × (Nat × Nat)) (t : Sl × Sl × Sl) => [.val (lk a b c d), .val (.lst (xs.map tr)), .own (s.1.map bD), .val (stD c s.2), t.1, t.2.1, t.2.2]) (hstep a b c d) (HP c) xs 0 ([], (0, 0)) (.un, .un, .un) ⟨rfl, Nat.zero_le _⟩ fun j x s t hx hp => by
    rw [Nat.zero_add] at hp ⊢
    have hj : j < xs.length := (List.getElem?_eq_some_iff.1 hx).1
    refine ⟨[.val (lk a b c d), .val (.lst (xs.map tr)), .own (s.1.map bD), .val (stD c s.2), .val (nI x.1), .val (.bl x.2), t.2.2], (.val (nI x.1), .val (.bl x.2), .val (.tup [.bl (tstep a b c d s.2 x).1, stD c (tstep a b c d s.2 x).2])), rfl, ?_, hstep_ok hp⟩
    have w := law_try_eq h (x := x) hp.2
    have le : (s.1.map bD).length < 16777216 := by
      rw [List.length_map, hp.1]
      omega
    have e : (hstep a b c d s x).1.map bD = s.1.map bD ++ [.bl (tstep a b c d s.2 x).1] := by
      show (s.1 ++ _).map bD = _
      rw [List.map_append]
      rfl
    rw [e]
    change _ = R.ok (Fl.nx [_, _, _, .val (stD c (tstep a b c d s.2 x).2), _, _, _])
    generalize s.1.map bD = l at *
    generalize xs.map tr = l2 at *
    generalize stD c s.2 = z at *
    generalize stD c (tstep a b c d s.2 x).2 = z2 at *
    generalize (tstep a b c d s.2 x).1 = z3 at *
    generalize lk a b c d = lo at *
    unfold b__law_heard_0
    generalize F__law_try = q0 at *
    as_aux_lemma =>
      simp only [seq_ap, Mi.mi0, Mi.mi1, Mi.mi2, Mi.mi3, Mi.mi4, Mi.mi5, Mi.mo0, Mi.mo1, Mi.mo2, Mi.mo3, Mi.mo8, Bool.false_eq_true, Mi.mo9, Nat.reduceAdd, Nat.reduceSub, Nat.reduceLeDiff, Nat.reduceLT, Nat.reduceEqDiff, Mi.mt0, List.getElem?_cons_zero, List.getElem?_cons_succ, List.set_cons_zero, List.set_cons_succ, List.map_cons, List.map_nil, List.length_cons, List.length_nil, List.nil_append, List.cons_append, List.append_nil, List.replicate_succ, List.replicate_zero, lim_v, reduceIte, decide_true, decide_false, Bool.not_true, Bool.not_false, Option.bind_some, Mi.lst_no, Mi.par2, Mi.par3, eq_self, and_self, Mi.mi6, Mi.mi7, Mi.mi8, Mi.mi9, Option.map_some, w, le]
  change forF _ _ _ _ = R.ok (Fl.nx [_, _, .own ((hrun a b c d xs).1.map bD), .val (stD c (hrun a b c d xs).2), _, _, _]) at l
  have st0 : stD c (0, 0) = .tup [.int 0, .int 0, .bl (decide (0 = c))] := rfl
  have cz : decide (0 = c) = false := decide_eq_false (by have := h.c0; omega)
  rw [st0, cz] at l
  unfold F__law_heard m__law_heard hres
  generalize (hrun a b c d xs).1.map bD = z1 at *
  generalize stD c (hrun a b c d xs).2 = z2 at *
  generalize xs.map tr = l2 at *
  generalize lk a b c d = lo at *
  change forF _ _ _ [_, _, .own [], _, _, _, _] = _ at l
  generalize b__law_heard_0 = q0 at *
  as_aux_lemma =>
    simp only [runA, seq_ap, Mi.mi0, Mi.mi1, Mi.mi2, Mi.mi3, Mi.mi4, Mi.mi5, Mi.mo0, Mi.mo1, Mi.mo2, Mi.mo3, Mi.mo8, Bool.false_eq_true, Mi.mo9, Nat.reduceAdd, Nat.reduceSub, Nat.reduceLeDiff, Nat.reduceLT, Nat.reduceEqDiff, Mi.mt0, List.getElem?_cons_zero, List.getElem?_cons_succ, List.set_cons_zero, List.set_cons_succ, List.map_cons, List.map_nil, List.length_cons, List.length_nil, List.nil_append, List.cons_append, List.append_nil, List.replicate_succ, List.replicate_zero, lim_v, reduceIte, decide_true, decide_false, Bool.not_true, Bool.not_false, Option.bind_some, Mi.lst_no, Mi.par2, Mi.par3, eq_self, and_self, Mi.mi6, Mi.mi7, Mi.mi8, Mi.mi9, Option.map_some, l]
/-! ### seconds, drawn -/
theorem seconds_ok (ms : List Int) {most wide : Int} (h0 : 0 ≤ most) (h1 : most ≤ 20) (w0 : 0 < wide) (w1 : wide ≤ 100) : ∃ (xs : List Nat) (ms' : List Int), F__law_seconds ms [.int most, .int wide] = .ok (.lst (xs.map nI), ms') ∧ xs.length ≤ 20 ∧ xs.Pairwise (· ≤ ·) ∧ ∀ x ∈ xs, x ≤ 2000 := by
  obtain ⟨r, m1, h1', r0, r1⟩ := take_ok ms (b := most + 1) (by omega)
  obtain ⟨n, rfl⟩ : ∃ n : Nat, r = (n : Int) := ⟨r.toNat, by omega⟩
  obtain ⟨e', l, m2, xs, t, s, rfl, q1, q2, q3, q4⟩ := for_rng (G := gN 3) (b := b__law_seconds_0) (lo := 0) (n := n) (e := [.brw (m1.map D.int), .val (.int most), .val (.int wide), .un, .val (.int ((0 : Nat) : Int)), .own []]) (fun k e => ∃ (m2 : List Int) (xs : List Nat) (t : Nat) (s : Sl), e = [.brw (m2.map D.int), .val (.int most), .val (.int wide), s, .val (nI t), .own (xs.map nI)] ∧ xs.length = k ∧ xs.Pairwise (· ≤ ·) ∧ (∀ x ∈ xs, x ≤ t) ∧ t ≤ k * 100) ⟨m1, [], 0, .un, rfl, rfl, List.Pairwise.nil, by simp, by omega⟩ fun j e hj ⟨m2, xs, t, s, he, q1, q2, q3, q4⟩ => by
    subst he
    obtain ⟨u, m3, h3, u0, u1⟩ := take_ok m2 (b := wide) w0
    obtain ⟨u, rfl⟩ : ∃ n : Nat, u = (n : Int) := ⟨u.toNat, by omega⟩
    refine ⟨_, [.brw (m3.map D.int), .val (.int most), .val (.int wide), .val (.int (0 + j)), .val (nI (t + u)), .own ((xs ++ [t + u]).map nI)], rfl, ?_, m3, xs ++ [t + u], t + u, _, rfl, ?_, ?_, ?_, ?_⟩
    · have le : (xs.map nI).length < 16777216 := by
        rw [List.length_map, q1]
        omega
      have i := intsOf_map
      rw [List.map_append]
      change _ = R.ok (Fl.nx [_, _, _, _, .val (.int ((t : Int) + (u : Int))), .own (xs.map nI ++ [.int ((t : Int) + (u : Int))])])
      generalize xs.map nI = l at *
      unfold b__law_seconds_0
      generalize F__law_take = q0 at *
      as_aux_lemma =>
        simp only [seq_ap, Mi.mi0, Mi.mi1, Mi.mi2, Mi.mi3, Mi.mi4, Mi.mi5, Mi.mo0, Mi.mo1, Mi.mo2, Mi.mo3, Mi.mo8, Bool.false_eq_true, Mi.mo9, Nat.reduceAdd, Nat.reduceSub, Nat.reduceLeDiff, Nat.reduceLT, Nat.reduceEqDiff, Mi.mt0, List.getElem?_cons_zero, List.getElem?_cons_succ, List.set_cons_zero, List.set_cons_succ, List.map_cons, List.map_nil, List.length_cons, List.length_nil, List.nil_append, List.cons_append, List.append_nil, List.replicate_succ, List.replicate_zero, lim_v, reduceIte, decide_true, decide_false, Bool.not_true, Bool.not_false, Option.bind_some, Mi.lst_no, Mi.par2, Mi.par3, eq_self, and_self, Mi.mi6, Mi.mi7, Mi.mi8, Mi.mi9, Option.map_some, eCallB, i, h3, le, Sl.turn]
    · rw [List.length_append, q1]
      rfl
    · rw [List.pairwise_append]
      refine ⟨q2, List.pairwise_singleton _ _, fun x hx y hy => ?_⟩
      rw [List.mem_singleton] at hy
      have := q3 x hx
      omega
    · intro x hx
      rcases List.mem_append.1 hx with q | q
      · have := q3 x q
        omega
      · rw [List.mem_singleton] at q
        omega
    · rw [Nat.add_mul]
      omega
  refine ⟨xs, m2, ?_, by omega, q2, fun x hx => by have := q3 x hx; omega⟩
  have i := intsOf_map
  have r6 := r62_of (show (0 : Int) ≤ (n : Int) by omega) (by omega)
  have t6 : (n : Int).toNat = n := Int.toNat_natCast n
  change forF _ _ _ [_, _, _, _, .val (.int 0), _] = _ at l
  unfold F__law_seconds
  simp only [runB, m__law_seconds]
  generalize xs.map nI = l3 at *
  generalize F__law_take = q0 at *
  generalize b__law_seconds_0 = q1 at *
  as_aux_lemma =>
    simp only [seq_ap, Mi.mi0, Mi.mi1, Mi.mi2, Mi.mi3, Mi.mi4, Mi.mi5, Mi.mo0, Mi.mo1, Mi.mo2, Mi.mo3, Mi.mo8, Bool.false_eq_true, Mi.mo9, Nat.reduceAdd, Nat.reduceSub, Nat.reduceLeDiff, Nat.reduceLT, Nat.reduceEqDiff, Mi.mt0, List.getElem?_cons_zero, List.getElem?_cons_succ, List.set_cons_zero, List.set_cons_succ, List.map_cons, List.map_nil, List.length_cons, List.length_nil, List.nil_append, List.cons_append, List.append_nil, List.replicate_succ, List.replicate_zero, lim_v, reduceIte, decide_true, decide_false, Bool.not_true, Bool.not_false, Option.bind_some, Mi.lst_no, Mi.par2, Mi.par3, eq_self, and_self, Mi.mi6, Mi.mi7, Mi.mi8, Mi.mi9, Option.map_some, eCallB, i, h1', r6, t6, l, Sl.turn]
end Lw
namespace Lw
open Mi
theorem wt_mono {a b d i j : Nat} (h : i ≤ j) : wt a b d i ≤ wt a b d j := by
  unfold wt
  by_cases c : a < i
  · rw [if_pos c, if_pos (by omega)]
    have := Nat.mul_le_mul_left b (Nat.pow_le_pow_right (n := 2) (by omega) (show i - a - 1 ≤ j - a - 1 by omega))
    omega
  · rw [if_neg c]
    exact Nat.zero_le _
theorem T_mono {a b d : Nat} : ∀ {i j : Nat}, i ≤ j → T a b d i ≤ T a b d j
  | i, 0, h => by rw [show i = 0 by omega]; exact Nat.le_refl _
  | i, j + 1, h => by
    by_cases c : i = j + 1
    · rw [c]; exact Nat.le_refl _
    · exact Nat.le_trans (T_mono (show i ≤ j by omega)) (Nat.le_add_right _ _)
/-- how many can be heard by t -/
def nn (a b c d t : Nat) : Nat := ((sumsL a b d c).filter fun x => decide (x ≤ t)).length
theorem nn_spec {a b d t : Nat} : ∀ c, nn a b c d t ≤ c ∧ ∀ j, j < c → (T a b d (j + 1) ≤ t ↔ j < nn a b c d t)
  | 0 => ⟨Nat.le_refl _, fun j hj => by omega⟩
  | c + 1 => by
    obtain ⟨h1, h2⟩ := nn_spec (a := a) (b := b) (d := d) (t := t) c
    have e : nn a b (c + 1) d t = nn a b c d t + if T a b d (c + 1) ≤ t then 1 else 0 := by
      unfold nn
      rw [sumsL_succ, List.filter_append, List.length_append]
      by_cases q : T a b d (c + 1) ≤ t
      · rw [if_pos q, List.filter_cons_of_pos (by simpa using q)]
        rfl
      · rw [if_neg q, List.filter_cons_of_neg (by simpa using q)]
        rfl
    by_cases q : T a b d (c + 1) ≤ t
    · rw [if_pos q] at e
      have e2 : nn a b c d t = c := by
        by_cases z : c = 0
        · omega
        · have := (h2 (c - 1) (by omega)).1 (Nat.le_trans (T_mono (by omega)) q)
          omega
      refine ⟨by omega, fun j hj => ⟨fun _ => by omega, fun _ => Nat.le_trans (T_mono (by omega)) q⟩⟩
    · rw [if_neg q] at e
      refine ⟨by omega, fun j hj => ?_⟩
      by_cases z : j = c
      · subst z
        exact ⟨fun h => absurd h q, fun h => by omega⟩
      · rw [e]
        exact h2 j (by omega)
theorem nn_mono {a b c d s t : Nat} (h : s ≤ t) : nn a b c d s ≤ nn a b c d t := by
  obtain ⟨h1, h2⟩ := nn_spec (a := a) (b := b) (d := d) (t := s) c
  obtain ⟨h3, h4⟩ := nn_spec (a := a) (b := b) (d := d) (t := t) c
  by_cases z : nn a b c d s = 0
  · omega
  · have := (h2 (nn a b c d s - 1) (by omega)).2 (by omega)
    have := (h4 (nn a b c d s - 1) (by omega)).1 (by omega)
    omega
/-- a try at second t, with m heard before; those all of seconds below t are among them -/
theorem try_at {a b c d m t : Nat} (hm : m ≤ c) (hlow : ∀ s, s < t → nn a b c d s ≤ m) (hle : m ≤ nn a b c d t) :
    tstep a b c d (m, T a b d m) (t, false) = if m < nn a b c d t then (true, (m + 1, T a b d (m + 1))) else (false, (m, T a b d m)) := by
  obtain ⟨h3, h4⟩ := nn_spec (a := a) (b := b) (d := d) (t := t) c
  unfold tstep
  by_cases q : m < nn a b c d t
  · rw [if_pos q]
    have mc : m < c := by omega
    have le := (h4 m mc).2 q
    have eq : T a b d (m + 1) = t := by
      by_cases z : T a b d (m + 1) = t
      · exact z
      · obtain ⟨h1, h2⟩ := nn_spec (a := a) (b := b) (d := d) (t := T a b d (m + 1)) c
        have := (h2 m mc).1 (Nat.le_refl _)
        have := hlow (T a b d (m + 1)) (by omega)
        omega
    have e2 : T a b d (m + 1) = T a b d m + wt a b d m := rfl
    rw [if_neg]
    · rw [if_neg (by simp), eq]
    · rintro (z | z)
      · have z : m = c := z
        omega
      · have z : t < T a b d m + wt a b d m := z
        omega
  · rw [if_neg q]
    rw [if_pos]
    by_cases z : m = c
    · exact .inl z
    · refine .inr ?_
      have := (not_congr (h4 m (by omega))).2 q
      show t < T a b d m + wt a b d m
      have e2 : T a b d (m + 1) = T a b d m + wt a b d m := rfl
      omega
/-- one try at each time -/
theorem again_body {a b c d m t : Nat} (h : LkOk a b c d) (hm : m ≤ c) (hlow : ∀ s, s < t → nn a b c d s ≤ m) (hle : m ≤ nn a b c d t) (s0 s2 s3 s4 s6 s7 s8 s9 s12 s13 s14 s15 : Sl) :
    ∃ x13, b__law_is_lock_due_0 [s0, .val (lk a b c d), s2, s3, s4, .val (nI t), s6, s7, s8, s9, .val (stD c (m, T a b d m)), .val (.lst ((sumsL a b d m).map nI)), s12, s13, s14, s15] = .ok (.nx [s0, .val (lk a b c d), s2, s3, s4, .val (nI t), s6, s7, s8, s9, .val (stD c (min (m + 1) (nn a b c d t), T a b d (min (m + 1) (nn a b c d t)))), .val (.lst ((sumsL a b d (min (m + 1) (nn a b c d t))).map nI)), s12, x13, s14, s15]) := by
  have w := law_try_eq h (x := (t, false)) (s := (m, T a b d m)) hm
  rw [try_at hm hlow hle] at w
  have sl := sumsL_len a b d m
  have r0 : r62 0 = true := by decide
  have r1 : r62 1 = true := by decide
  have t0 : (0 : Int).toNat = 0 := rfl
  have t1 : (1 : Int).toNat = 1 := rfl
  have c200 := h.c1
  by_cases q : m < nn a b c d t
  · rw [if_pos q] at w
    rw [Nat.min_eq_left (show m + 1 ≤ nn a b c d t by omega)]
    refine ⟨.val (.tup [.bl true, stD c (m + 1, T a b d (m + 1))]), ?_⟩
    have eq : T a b d (m + 1) = t := by
      have z := try_at hm hlow hle
      rw [if_pos q] at z
      unfold tstep at z
      split at z
      · cases z
      · split at z
        · cases z
        · exact (congrArg (fun p : Bool × (Nat × Nat) => p.2.2) z).symm
    have es : (sumsL a b d (m + 1)).map nI = (sumsL a b d m).map nI ++ [nI t] := by rw [sumsL_succ, List.map_append, eq]; rfl
    rw [eq] at w ⊢
    rw [es]
    have le : ((sumsL a b d m).map nI).length + 1 ≤ 16777216 := by rw [List.length_map, sl]; omega
    have fl : (List.replicate 1 [D.int (t : Int)]).flatten = [D.int (t : Int)] := rfl
    change _ = R.ok (Fl.nx [s0, .val (lk a b c d), s2, s3, s4, .val (nI t), s6, s7, s8, s9, .val (stD c (m + 1, t)), .val (.lst ((sumsL a b d m).map nI ++ [nI t])), s12, .val (.tup [.bl true, stD c (m + 1, t)]), s14, s15])
    generalize (sumsL a b d m).map nI = l at *
    generalize stD c (m, T a b d m) = z1 at *
    generalize stD c (m + 1, t) = z2 at *
    generalize lk a b c d = lo at *
    unfold b__law_is_lock_due_0
    generalize F__law_try = q0 at *
    as_aux_lemma =>
      simp only [seq_ap, Mi.mi0, Mi.mi1, Mi.mi2, Mi.mi3, Mi.mi4, Mi.mi5, Mi.mo0, Mi.mo1, Mi.mo2, Mi.mo3, Mi.mo8, Bool.false_eq_true, Mi.mo9, Nat.reduceAdd, Nat.reduceSub, Nat.reduceLeDiff, Nat.reduceLT, Nat.reduceEqDiff, Mi.mt0, List.getElem?_cons_zero, List.getElem?_cons_succ, List.set_cons_zero, List.set_cons_succ, List.map_cons, List.map_nil, List.length_cons, List.length_nil, List.nil_append, List.cons_append, List.append_nil, List.replicate_succ, List.replicate_zero, lim_v, reduceIte, decide_true, decide_false, Bool.not_true, Bool.not_false, Option.bind_some, Mi.lst_no, Mi.par2, Mi.par3, eq_self, and_self, Mi.mi6, Mi.mi7, Mi.mi8, Mi.mi9, Option.map_some, w, r1, t1, le, List.flatten_cons, List.flatten_nil, Nat.reduceMul, true_and, if_true]
  · rw [if_neg q] at w
    rw [show min (m + 1) (nn a b c d t) = m by omega]
    refine ⟨.val (.tup [.bl false, stD c (m, T a b d m)]), ?_⟩
    have le : ((sumsL a b d m).map nI).length ≤ 16777216 := by rw [List.length_map, sl]; omega
    have fl : (List.replicate 0 [D.int (t : Int)]).flatten = [] := rfl
    generalize (sumsL a b d m).map nI = l at *
    generalize stD c (m, T a b d m) = z1 at *
    generalize lk a b c d = lo at *
    unfold b__law_is_lock_due_0
    generalize F__law_try = q0 at *
    as_aux_lemma =>
      simp only [seq_ap, Mi.mi0, Mi.mi1, Mi.mi2, Mi.mi3, Mi.mi4, Mi.mi5, Mi.mo0, Mi.mo1, Mi.mo2, Mi.mo3, Mi.mo8, Bool.false_eq_true, Mi.mo9, Nat.reduceAdd, Nat.reduceSub, Nat.reduceLeDiff, Nat.reduceLT, Nat.reduceEqDiff, Mi.mt0, List.getElem?_cons_zero, List.getElem?_cons_succ, List.set_cons_zero, List.set_cons_succ, List.map_cons, List.map_nil, List.length_cons, List.length_nil, List.nil_append, List.cons_append, List.append_nil, List.replicate_succ, List.replicate_zero, lim_v, reduceIte, decide_true, decide_false, Bool.not_true, Bool.not_false, Option.bind_some, Mi.lst_no, Mi.par2, Mi.par3, eq_self, and_self, Mi.mi6, Mi.mi7, Mi.mi8, Mi.mi9, Option.map_some, w, r0, t0, le, List.flatten_nil, Nat.add_zero, List.append_nil, Nat.reduceMul, true_and, if_false]
theorem again_loop {a b c d m t : Nat} (h : LkOk a b c d) (hm : m ≤ nn a b c d t) (hlow : ∀ s, s < t → nn a b c d s ≤ m) (s0 s2 s3 s4 s6 s7 s8 s9 s12 s13 s14 s15 : Sl) :
    ∃ x12 x13, b__law_is_lock_due_1 [s0, .val (lk a b c d), s2, s3, s4, .val (nI t), s6, s7, s8, s9, .val (stD c (m, T a b d m)), .val (.lst ((sumsL a b d m).map nI)), s12, s13, s14, s15] = .ok (.nx [s0, .val (lk a b c d), s2, s3, s4, .val (nI t), s6, s7, s8, s9, .val (stD c (nn a b c d t, T a b d (nn a b c d t))), .val (.lst ((sumsL a b d (nn a b c d t)).map nI)), x12, x13, s14, s15]) := by
  obtain ⟨h3, h4⟩ := nn_spec (a := a) (b := b) (d := d) (t := t) c
  obtain ⟨e', l, x12, x13, rfl⟩ := for_rng (G := gN 12) (b := b__law_is_lock_due_0) (lo := 0) (n := c + 1) (e := [s0, .val (lk a b c d), s2, s3, s4, .val (nI t), s6, s7, s8, s9, .val (stD c (m, T a b d m)), .val (.lst ((sumsL a b d m).map nI)), s12, s13, s14, s15]) (fun i e => ∃ x12 x13, e = [s0, .val (lk a b c d), s2, s3, s4, .val (nI t), s6, s7, s8, s9, .val (stD c (min (m + i) (nn a b c d t), T a b d (min (m + i) (nn a b c d t)))), .val (.lst ((sumsL a b d (min (m + i) (nn a b c d t))).map nI)), x12, x13, s14, s15]) ⟨s12, s13, by rw [Nat.add_zero, Nat.min_eq_left hm]⟩ fun i e hi ⟨x12, x13, he⟩ => by
    subst he
    obtain ⟨y13, hy⟩ := again_body h (m := min (m + i) (nn a b c d t)) (t := t) (by omega) (fun s hs => by have := hlow s hs; omega) (Nat.min_le_right _ _) s0 s2 s3 s4 s6 s7 s8 s9 (.val (.int (0 + i))) x13 s14 s15
    rw [show min (min (m + i) (nn a b c d t) + 1) (nn a b c d t) = min (m + (i + 1)) (nn a b c d t) by omega] at hy
    exact ⟨_, _, rfl, hy, _, _, rfl⟩
  rw [show min (m + (c + 1)) (nn a b c d t) = nn a b c d t by omega] at l
  refine ⟨x12, x13, ?_⟩
  have g := gIx_lk2 a b c d
  have c200 := h.c1
  have r6 := r62_of (show (0 : Int) ≤ (c : Int) + 1 by omega) (by omega)
  have tt : ((c : Int) + 1).toNat = c + 1 := by omega
  unfold b__law_is_lock_due_1
  generalize stD c (m, T a b d m) = z1 at *
  generalize (sumsL a b d m).map nI = z2 at *
  generalize stD c (nn a b c d t, T a b d (nn a b c d t)) = z3 at *
  generalize (sumsL a b d (nn a b c d t)).map nI = z4 at *
  generalize lk a b c d = lo at *
  generalize b__law_is_lock_due_0 = q0 at *
  as_aux_lemma =>
    simp only [seq_ap, Mi.mi0, Mi.mi1, Mi.mi2, Mi.mi3, Mi.mi4, Mi.mi5, Mi.mo0, Mi.mo1, Mi.mo2, Mi.mo3, Mi.mo8, Bool.false_eq_true, Mi.mo9, Nat.reduceAdd, Nat.reduceSub, Nat.reduceLeDiff, Nat.reduceLT, Nat.reduceEqDiff, Mi.mt0, List.getElem?_cons_zero, List.getElem?_cons_succ, List.set_cons_zero, List.set_cons_succ, List.map_cons, List.map_nil, List.length_cons, List.length_nil, List.nil_append, List.cons_append, List.append_nil, List.replicate_succ, List.replicate_zero, lim_v, reduceIte, decide_true, decide_false, Bool.not_true, Bool.not_false, Option.bind_some, Mi.lst_no, Mi.par2, Mi.par3, eq_self, and_self, Mi.mi6, Mi.mi7, Mi.mi8, Mi.mi9, Option.map_some, g, r6, tt, l]
theorem row_loop {a b c d n : Nat} (h : LkOk a b c d) (s0 s2 s3 s4 s5 s6 s7 s8 s9 s12 s13 s14 s15 : Sl) :
    ∃ x5 x12 x13, forF (gN 5) b__law_is_lock_due_1 (rangeD 0 (n + 1)) [s0, .val (lk a b c d), s2, s3, s4, s5, s6, s7, s8, s9, .val (stD c (0, 0)), .val (.lst []), s12, s13, s14, s15] = .ok (.nx [s0, .val (lk a b c d), s2, s3, s4, x5, s6, s7, s8, s9, .val (stD c (nn a b c d n, T a b d (nn a b c d n))), .val (.lst ((sumsL a b d (nn a b c d n)).map nI)), x12, x13, s14, s15]) := by
  obtain ⟨e', l, m, hm, x5, x12, x13, rfl⟩ := for_rng (G := gN 5) (b := b__law_is_lock_due_1) (lo := 0) (n := n + 1) (e := [s0, .val (lk a b c d), s2, s3, s4, s5, s6, s7, s8, s9, .val (stD c (0, 0)), .val (.lst []), s12, s13, s14, s15]) (fun i e => ∃ m, (i = 0 ∧ m = 0 ∨ 0 < i ∧ m = nn a b c d (i - 1)) ∧ ∃ x5 x12 x13, e = [s0, .val (lk a b c d), s2, s3, s4, x5, s6, s7, s8, s9, .val (stD c (m, T a b d m)), .val (.lst ((sumsL a b d m).map nI)), x12, x13, s14, s15]) ⟨0, .inl ⟨rfl, rfl⟩, s5, s12, s13, rfl⟩ fun i e hi ⟨m, hm, x5, x12, x13, he⟩ => by
    subst he
    have m1 : m ≤ nn a b c d i := by
      rcases hm with ⟨_, rfl⟩ | ⟨_, rfl⟩
      · exact Nat.zero_le _
      · exact nn_mono (by omega)
    have m2 : ∀ s, s < i → nn a b c d s ≤ m := fun s hs => by
      rcases hm with ⟨rfl, _⟩ | ⟨_, rfl⟩
      · omega
      · exact nn_mono (by omega)
    obtain ⟨y12, y13, hy⟩ := again_loop h m1 m2 s0 s2 s3 s4 s6 s7 s8 s9 x12 x13 s14 s15
    refine ⟨_, _, rfl, ?_, nn a b c d i, .inr ⟨by omega, by rw [Nat.add_sub_cancel]⟩, .val (nI i), y12, y13, rfl⟩
    rw [show (0 : Int) + (i : Int) = (i : Int) by omega]
    exact hy
  rcases hm with ⟨z, _⟩ | ⟨_, rfl⟩
  · omega
  · rw [Nat.add_sub_cancel] at l
    exact ⟨x5, x12, x13, l⟩
/-- each count -/
theorem count_body {a b c d s n : Nat} (h : LkOk a b c d) (s0 s2 s3 s5 s7 s8 s9 s10 s12 s13 s14 s15 : Sl) :
    ∃ x13, b__law_is_lock_due_2 [s0, .val (lk a b c d), s2, s3, .val (nI s), s5, .val (nI n), s7, s8, s9, s10, .val (.lst ((sumsL a b d (nn a b c d s)).map nI)), s12, s13, s14, s15] = .ok (.nx [s0, .val (lk a b c d), s2, s3, .val (nI s), s5, .val (nI n), s7, s8, s9, s10, .val (.lst ((sumsL a b d (nn a b c d s)).map nI)), s12, x13, s14, s15]) := by
  obtain ⟨h3, h4⟩ := nn_spec (a := a) (b := b) (d := d) (t := s) c
  have g := gIx_lk2 a b c d
  have sl : (((sumsL a b d (nn a b c d s)).map nI).length : Int) = ((nn a b c d s : Nat) : Int) := by rw [List.length_map, sumsL_len]
  by_cases q : c < n
  · have w := told6_ok (lk a b c d) (nI n) .non .non _ (time_for_gt h q)
    refine ⟨.val .non, ?_⟩
    have k1 : decide ((n : Int) ≤ (((sumsL a b d (nn a b c d s)).map nI).length : Int)) = false := decide_eq_false (by rw [sl]; omega)
    have k2 : decide ((c : Int) < (n : Int)) = true := decide_eq_true (by omega)
    have k3 : decide ((n : Int) ≤ (c : Int)) = false := decide_eq_false (by omega)
    have k4 : decide ((((sumsL a b d (nn a b c d s)).map nI).length : Int) < (n : Int)) = true := decide_eq_true (by rw [sl]; omega)
    generalize (sumsL a b d (nn a b c d s)).map nI = l at *
    generalize lk a b c d = lo at *
    unfold b__law_is_lock_due_2
    generalize F__law_same 4 = qs at *
    generalize F__law_told = q0 at *
    as_aux_lemma =>
      simp only [seq_ap, Mi.mi0, Mi.mi1, Mi.mi2, Mi.mi3, Mi.mi4, Mi.mi5, Mi.mo0, Mi.mo1, Mi.mo2, Mi.mo3, Mi.mo8, Bool.false_eq_true, Mi.mo9, Nat.reduceAdd, Nat.reduceSub, Nat.reduceLeDiff, Nat.reduceLT, Nat.reduceEqDiff, Mi.mt0, List.getElem?_cons_zero, List.getElem?_cons_succ, List.set_cons_zero, List.set_cons_succ, List.map_cons, List.map_nil, List.length_cons, List.length_nil, List.nil_append, List.cons_append, List.append_nil, List.replicate_succ, List.replicate_zero, lim_v, reduceIte, decide_true, decide_false, Bool.not_true, Bool.not_false, Option.bind_some, Mi.lst_no, Mi.par2, Mi.par3, eq_self, and_self, Mi.mi6, Mi.mi7, Mi.mi8, Mi.mi9, Option.map_some, w, g, k1, k2, k3, k4]
  · have w := told6_ok (lk a b c d) (nI n) .non .non _ (time_for_le h (show n ≤ c by omega))
    refine ⟨.val (nI (T a b d n)), ?_⟩
    have k2 : decide ((c : Int) < (n : Int)) = false := decide_eq_false (by omega)
    have k3 : decide ((n : Int) ≤ (c : Int)) = true := decide_eq_true (by omega)
    by_cases z : n ≤ nn a b c d s
    · have k1 : decide ((n : Int) ≤ (((sumsL a b d (nn a b c d s)).map nI).length : Int)) = true := decide_eq_true (by rw [sl]; omega)
      have k4 : decide ((((sumsL a b d (nn a b c d s)).map nI).length : Int) < (n : Int)) = false := decide_eq_false (by rw [sl]; omega)
      have sm : F__law_same 4 [nI (T a b d n), nI (T a b d n)] = .ok (.bl true) := same_self 3 _ (by exact trivial)
      have le : 1 + ((sumsL a b d (nn a b c d s)).map nI).length ≤ 16777216 := by
        rw [List.length_map, sumsL_len]
        have := h.c1
        omega
      have ix := atI_of (ds := D.int 0 :: (sumsL a b d (nn a b c d s)).map nI) (i := n) (d := nI (T a b d n)) (by
        by_cases n0 : n = 0
        · subst n0
          rfl
        · obtain ⟨k, rfl⟩ : ∃ k, n = k + 1 := ⟨n - 1, by omega⟩
          rw [List.getElem?_cons_succ, List.getElem?_map, sumsL_get (show k < nn a b c d s by omega)]
          rfl)
      generalize (sumsL a b d (nn a b c d s)).map nI = l at *
      generalize T a b d n = tt at *
      generalize lk a b c d = lo at *
      unfold b__law_is_lock_due_2
      generalize F__law_same 4 = qs at *
      generalize F__law_told = q0 at *
      as_aux_lemma =>
        simp only [seq_ap, Mi.mi0, Mi.mi1, Mi.mi2, Mi.mi3, Mi.mi4, Mi.mi5, Mi.mo0, Mi.mo1, Mi.mo2, Mi.mo3, Mi.mo8, Bool.false_eq_true, Mi.mo9, Nat.reduceAdd, Nat.reduceSub, Nat.reduceLeDiff, Nat.reduceLT, Nat.reduceEqDiff, Mi.mt0, List.getElem?_cons_zero, List.getElem?_cons_succ, List.set_cons_zero, List.set_cons_succ, List.map_cons, List.map_nil, List.length_cons, List.length_nil, List.nil_append, List.cons_append, List.append_nil, List.replicate_succ, List.replicate_zero, lim_v, reduceIte, decide_true, decide_false, Bool.not_true, Bool.not_false, Option.bind_some, Mi.lst_no, Mi.par2, Mi.par3, eq_self, and_self, Mi.mi6, Mi.mi7, Mi.mi8, Mi.mi9, Option.map_some, w, g, k1, k2, k3, k4, sm, le, ix]
    · have k1 : decide ((n : Int) ≤ (((sumsL a b d (nn a b c d s)).map nI).length : Int)) = false := decide_eq_false (by rw [sl]; omega)
      have k4 : decide ((((sumsL a b d (nn a b c d s)).map nI).length : Int) < (n : Int)) = true := decide_eq_true (by rw [sl]; omega)
      have k5 : decide (((T a b d n : Nat) : Int) ≤ (s : Int)) = false := decide_eq_false (by
        have := (not_congr (h4 (n - 1) (by omega))).2 (by omega)
        rw [show n - 1 + 1 = n by omega] at this
        omega)
      generalize (sumsL a b d (nn a b c d s)).map nI = l at *
      generalize T a b d n = tt at *
      generalize lk a b c d = lo at *
      unfold b__law_is_lock_due_2
      generalize F__law_same 4 = qs at *
      generalize F__law_told = q0 at *
      as_aux_lemma =>
        simp only [seq_ap, Mi.mi0, Mi.mi1, Mi.mi2, Mi.mi3, Mi.mi4, Mi.mi5, Mi.mo0, Mi.mo1, Mi.mo2, Mi.mo3, Mi.mo8, Bool.false_eq_true, Mi.mo9, Nat.reduceAdd, Nat.reduceSub, Nat.reduceLeDiff, Nat.reduceLT, Nat.reduceEqDiff, Mi.mt0, List.getElem?_cons_zero, List.getElem?_cons_succ, List.set_cons_zero, List.set_cons_succ, List.map_cons, List.map_nil, List.length_cons, List.length_nil, List.nil_append, List.cons_append, List.append_nil, List.replicate_succ, List.replicate_zero, lim_v, reduceIte, decide_true, decide_false, Bool.not_true, Bool.not_false, Option.bind_some, Mi.lst_no, Mi.par2, Mi.par3, eq_self, and_self, Mi.mi6, Mi.mi7, Mi.mi8, Mi.mi9, Option.map_some, w, g, k1, k2, k3, k4, k5]
theorem count_loop {a b c d s n : Nat} (h : LkOk a b c d) (s0 s2 s3 s5 s6 s7 s8 s9 s10 s12 s13 s14 s15 : Sl) :
    ∃ x6 x13, forF (gN 6) b__law_is_lock_due_2 (rangeD 0 n) [s0, .val (lk a b c d), s2, s3, .val (nI s), s5, s6, s7, s8, s9, s10, .val (.lst ((sumsL a b d (nn a b c d s)).map nI)), s12, s13, s14, s15] = .ok (.nx [s0, .val (lk a b c d), s2, s3, .val (nI s), s5, x6, s7, s8, s9, s10, .val (.lst ((sumsL a b d (nn a b c d s)).map nI)), s12, x13, s14, s15]) := by
  obtain ⟨e', l, x6, x13, rfl⟩ := for_rng (G := gN 6) (b := b__law_is_lock_due_2) (lo := 0) (n := n) (fun i e => ∃ x6 x13, e = [s0, .val (lk a b c d), s2, s3, .val (nI s), s5, x6, s7, s8, s9, s10, .val (.lst ((sumsL a b d (nn a b c d s)).map nI)), s12, x13, s14, s15]) ⟨s6, s13, rfl⟩ fun i e hi ⟨x6, x13, he⟩ => by
    subst he
    obtain ⟨y13, hy⟩ := count_body (s := s) (n := i) h s0 s2 s3 s5 s7 s8 s9 s10 s12 x13 s14 s15
    refine ⟨_, _, rfl, ?_, .val (nI i), y13, rfl⟩
    rw [show (0 : Int) + (i : Int) = (i : Int) by omega]
    exact hy
  exact ⟨x6, x13, l⟩
end Lw
set_option maxHeartbeats 2000000
namespace Lw
open Mi
theorem tries_lc (s1 s2 s3 s4 s6 s7 s8 s9 s10 s11 s12 s13 s14 s15 : Sl) : ∀ (xs : List Nat) (ms : List Int), ∃ (ys : List (Nat × Bool)) (ms' : List Int), lcF [5] (gN 5) tYes1 f__law_is_lock_due_0 (xs.map nI) [.brw (ms.map D.int), s1, s2, s3, s4, .un, s6, s7, s8, s9, s10, s11, s12, s13, s14, s15] = .ok (ys.map tr, [.brw (ms'.map D.int), s1, s2, s3, s4, .un, s6, s7, s8, s9, s10, s11, s12, s13, s14, s15]) ∧ ys.map (·.1) = xs
  | [], ms => ⟨[], ms, rfl, rfl⟩
  | x :: xs, ms => by
    obtain ⟨r, m1, h1, r0, r1⟩ := take_ok ms (b := 6) (by omega)
    obtain ⟨ys, m2, h2, h3⟩ := tries_lc s1 s2 s3 s4 s6 s7 s8 s9 s10 s11 s12 s13 s14 s15 xs m1
    refine ⟨(x, decide (r = 0)) :: ys, m2, ?_, by rw [List.map_cons, h3]⟩
    have io := intsOf_map
    have f1 : f__law_is_lock_due_0 [.brw (ms.map D.int), s1, s2, s3, s4, .val (nI x), s6, s7, s8, s9, s10, s11, s12, s13, s14, s15] = .ok (tr (x, decide (r = 0)), [.brw (m1.map D.int), s1, s2, s3, s4, .val (nI x), s6, s7, s8, s9, s10, s11, s12, s13, s14, s15]) := by
      unfold f__law_is_lock_due_0 tr
      generalize F__law_take = q0 at *
      as_aux_lemma =>
        simp only [seq_ap, Mi.mi0, Mi.mi1, Mi.mi2, Mi.mi3, Mi.mi4, Mi.mi5, Mi.mo0, Mi.mo1, Mi.mo2, Mi.mo3, Mi.mo8, Bool.false_eq_true, Mi.mo9, Nat.reduceAdd, Nat.reduceSub, Nat.reduceLeDiff, Nat.reduceLT, Nat.reduceEqDiff, Mi.mt0, List.getElem?_cons_zero, List.getElem?_cons_succ, List.set_cons_zero, List.set_cons_succ, List.map_cons, List.map_nil, List.length_cons, List.length_nil, List.nil_append, List.cons_append, List.append_nil, List.replicate_succ, List.replicate_zero, lim_v, reduceIte, decide_true, decide_false, Bool.not_true, Bool.not_false, Option.bind_some, Mi.lst_no, Mi.par2, Mi.par3, eq_self, and_self, Mi.mi6, Mi.mi7, Mi.mi8, Mi.mi9, Option.map_some, eCallB, io, h1, Sl.turn]
    rw [List.map_cons, List.map_cons]
    unfold lcF
    have g1 : gN 5 (nI x) [.brw (ms.map D.int), s1, s2, s3, s4, .un, s6, s7, s8, s9, s10, s11, s12, s13, s14, s15] = some [.brw (ms.map D.int), s1, s2, s3, s4, .val (nI x), s6, s7, s8, s9, s10, s11, s12, s13, s14, s15] := rfl
    have w1 : wipeE [.brw (m1.map D.int), s1, s2, s3, s4, .val (nI x), s6, s7, s8, s9, s10, s11, s12, s13, s14, s15] [5] = [.brw (m1.map D.int), s1, s2, s3, s4, .un, s6, s7, s8, s9, s10, s11, s12, s13, s14, s15] := rfl
    simp only [g1, tYes1, f1, w1, h2]
theorem pl_flat {n : Nat} {d : D} (h : flat d) : Pl n d := by
  cases n <;> cases d <;> first | exact h | exact h.elim
theorem pl_list {n : Nat} {xs : List D} (h : ∀ d ∈ xs, Pl n d) (l : xs.length ≤ 1000000) : Pl (n + 1) (.lst xs) := ⟨l, h⟩
theorem pl_tup {n : Nat} {xs : List D} (h : ∀ d ∈ xs, Pl n d) (l : xs.length ≤ 1000000) : Pl (n + 1) (.tup xs) := ⟨l, h⟩
theorem pl_bools {n : Nat} {fs : List Bool} (l : fs.length ≤ 1000000) : Pl (n + 1) (.lst (fs.map bD)) := pl_list (fun d hd => by
  obtain ⟨b, _, rfl⟩ := List.mem_map.1 hd
  exact pl_flat trivial) (by rw [List.length_map]; exact l)
theorem pl_nats {n : Nat} {xs : List Nat} (l : xs.length ≤ 1000000) : Pl (n + 1) (.lst (xs.map nI)) := pl_list (fun d hd => by
  obtain ⟨b, _, rfl⟩ := List.mem_map.1 hd
  exact pl_flat trivial) (by rw [List.length_map]; exact l)
theorem pl_st {n c : Nat} {s : Nat × Nat} : Pl (n + 1) (stD c s) := pl_tup (fun d hd => by
  simp only [List.mem_cons, List.mem_nil_iff, or_false] at hd
  rcases hd with rfl | rfl | rfl <;> exact pl_flat trivial) (by simp)
theorem pl_hres {n c : Nat} {s : List Bool × (Nat × Nat)} (l : s.1.length ≤ 1000000) : Pl (n + 2) (hres c s) := pl_tup (fun d hd => by
  simp only [List.mem_cons, List.mem_nil_iff, or_false] at hd
  rcases hd with rfl | rfl
  · exact pl_bools l
  · exact pl_st) (by simp)
theorem foldl_inv {α σ : Type} (step : σ → α → σ) (P : Nat → σ → Prop) : ∀ (xs : List α) (k : Nat) (s : σ), P k s → (∀ j x s, xs[j]? = some x → P (k + j) s → P (k + j + 1) (step s x)) → P (k + xs.length) (xs.foldl step s)
  | [], k, s, h, _ => h
  | x :: xs, k, s, h, st => by
    have := foldl_inv step P xs (k + 1) (step s x) (st 0 x s rfl h) fun j y s hy hp => by
      have := st (j + 1) y s (by simpa using hy) (by rw [show k + (j + 1) = k + 1 + j by omega]; exact hp)
      rw [show k + (j + 1) + 1 = k + 1 + j + 1 by omega] at this
      exact this
    rw [List.length_cons, show k + (xs.length + 1) = k + 1 + xs.length by omega]
    exact this
theorem hrun_len {a b c d : Nat} (xs : List (Nat × Bool)) : HP c xs.length (hrun a b c d xs) := by
  have := foldl_inv (hstep a b c d) (HP c) xs 0 ([], (0, 0)) ⟨rfl, Nat.zero_le _⟩ fun j x s hx hp => hstep_ok hp
  rw [Nat.zero_add] at this
  exact this
theorem is_state_ok {a b c d : Nat} (h : LkOk a b c d) {s : Nat × Nat} (hs : s.1 ≤ c) : F_is_state [lk a b c d, stD c s] = .ok (.bl true) := by
  have w0 := check_lock_eq h
  have w1 := is_state_eq (a := a) (b := b) (d := d) hs
  unfold F_is_state m_is_state
  generalize stD c s = y at *
  generalize lk a b c d = l at *
  generalize F_check_lock = q0 at *
  generalize F_is_state_by = q1 at *
  as_aux_lemma =>
    simp only [runA, seq_ap, Mi.mi0, Mi.mi1, Mi.mi2, Mi.mi3, Mi.mi4, Mi.mi5, Mi.mo0, Mi.mo1, Mi.mo2, Mi.mo3, Mi.mo8, Bool.false_eq_true, Mi.mo9, Nat.reduceAdd, Nat.reduceSub, Nat.reduceLeDiff, Nat.reduceLT, Nat.reduceEqDiff, Mi.mt0, List.getElem?_cons_zero, List.getElem?_cons_succ, List.set_cons_zero, List.set_cons_succ, List.map_cons, List.map_nil, List.length_cons, List.length_nil, List.nil_append, List.cons_append, List.append_nil, List.replicate_succ, List.replicate_zero, lim_v, reduceIte, decide_true, decide_false, Bool.not_true, Bool.not_false, Option.bind_some, Mi.lst_no, Mi.par2, Mi.par3, eq_self, and_self, Mi.mi6, Mi.mi7, Mi.mi8, Mi.mi9, Option.map_some, w0, w1]
def waitsL (a b d c : Nat) : List Nat := (List.range c).map (wt a b d)
theorem waits_map (a b d c : Nat) : (waitsL a b d c).map nI = (List.range c).map fun i => nI (wt a b d i) := by
  unfold waitsL
  rw [List.map_map]
  rfl
theorem lock_due_ok {a b c d : Nat} (o : LkOk a b c d) (c12 : c ≤ 12) (ms : List Int) : ∃ ms', F__law_is_lock_due ms [lk a b c d] = .ok (.bl true, ms') := by
  obtain ⟨w, m1, h1, i1⟩ := pick_int ms (xs := [1, 4, 30]) (by simp)
  have w0 : 0 < w ∧ w ≤ 100 := by
    simp only [List.mem_cons, List.mem_nil_iff, or_false] at i1
    rcases i1 with rfl | rfl | rfl <;> omega
  obtain ⟨xs, m2, h2, xl, xp, xb⟩ := seconds_ok m1 (most := 14) (wide := w) (by omega) (by omega) w0.1 w0.2
  obtain ⟨ys, m3, h3, hy⟩ := tries_lc (.val (lk a b c d)) .un .un .un .un .un .un .un .un .un .un .un .un .un xs m2
  have yl : ys.length ≤ 20 := by
    have := congrArg List.length hy
    rw [List.length_map] at this
    omega
  have le1 : (ys.map tr).length ≤ 16777216 := by rw [List.length_map]; omega
  have w1 := law_heard_eq o ys (by omega)
  have w2 := heard_eq o ys (by omega) (asc_of (by rw [hy]; exact xp))
  change _ = R.ok (hres c (hrun a b c d ys)) at w2
  have w3 := told4_ok (lk a b c d) (.lst (ys.map tr)) .non .non _ w2
  have w4 := told0_ok (lk a b c d) .non .non .non _ (is_lock_eq o)
  have hrl := hrun_len (a := a) (b := b) (c := c) (d := d) ys
  have s1 : F__law_same 4 [.lst [.bl true, hres c (hrun a b c d ys)], .lst [.bl true, hres c (hrun a b c d ys)]] = .ok (.bl true) := same_self 3 _ (pl_list (fun x hx => by
    simp only [List.mem_cons, List.mem_nil_iff, or_false] at hx
    rcases hx with rfl | rfl
    · exact pl_flat trivial
    · exact pl_hres (by have := hrl.1; omega)) (by simp))
  have c200 := o.c1
  have cr := r62_of (show (0 : Int) ≤ (c : Int) by omega) (by omega)
  have tc : (c : Int).toNat = c := Int.toNat_natCast c
  have g := gIx_lk2 a b c d
  have l1 : lcF [15] (gN 15) tYes1 f__law_is_lock_due_1 (rangeD 0 c) [.brw (m3.map D.int), .val (lk a b c d), .val (.lst (ys.map tr)), .un, .un, .un, .un, .un, .un, .val (.lst ((hrun a b c d ys).1.map bD)), .val (stD c (hrun a b c d ys).2), .un, .un, .un, .un, .un] = .ok ((List.range c).map (fun i => nI (wt a b d i)), [.brw (m3.map D.int), .val (lk a b c d), .val (.lst (ys.map tr)), .un, .un, .un, .un, .un, .un, .val (.lst ((hrun a b c d ys).1.map bD)), .val (stD c (hrun a b c d ys).2), .un, .un, .un, .un, .un]) := by
    rw [rangeD_map]
    refine lcF_all _ (fun i => nI (wt a b d i)) _ fun i hi => ⟨[.brw (m3.map D.int), .val (lk a b c d), .val (.lst (ys.map tr)), .un, .un, .un, .un, .un, .un, .val (.lst ((hrun a b c d ys).1.map bD)), .val (stD c (hrun a b c d ys).2), .un, .un, .un, .un, .val (.int (0 + (i : Int)))], rfl, ?_, rfl⟩
    have hi := List.mem_range.1 hi
    have w := law_wait_eq o (j := i) (by omega)
    unfold f__law_is_lock_due_1
    generalize (hrun a b c d ys).1.map bD = z1 at *
    generalize stD c (hrun a b c d ys).2 = z2 at *
    generalize lk a b c d = lo at *
    generalize F__law_wait = q0 at *
    as_aux_lemma =>
      simp only [seq_ap, Mi.mi0, Mi.mi1, Mi.mi2, Mi.mi3, Mi.mi4, Mi.mi5, Mi.mo0, Mi.mo1, Mi.mo2, Mi.mo3, Mi.mo8, Bool.false_eq_true, Mi.mo9, Nat.reduceAdd, Nat.reduceSub, Nat.reduceLeDiff, Nat.reduceLT, Nat.reduceEqDiff, Mi.mt0, List.getElem?_cons_zero, List.getElem?_cons_succ, List.set_cons_zero, List.set_cons_succ, List.map_cons, List.map_nil, List.length_cons, List.length_nil, List.nil_append, List.cons_append, List.append_nil, List.replicate_succ, List.replicate_zero, lim_v, reduceIte, decide_true, decide_false, Bool.not_true, Bool.not_false, Option.bind_some, Mi.lst_no, Mi.par2, Mi.par3, eq_self, and_self, Mi.mi6, Mi.mi7, Mi.mi8, Mi.mi9, Option.map_some, Int.zero_add, w]
  rw [← waits_map] at l1
  have l2 : lcF [15] (gN 15) tYes1 f__law_is_lock_due_2 (rangeD 0 c) [.brw (m3.map D.int), .val (lk a b c d), .val (.lst (ys.map tr)), .val (.lst ((waitsL a b d c).map nI)), .un, .un, .un, .un, .un, .val (.lst ((hrun a b c d ys).1.map bD)), .val (stD c (hrun a b c d ys).2), .un, .un, .un, .un, .un] = .ok ((List.range c).map (fun i => nI (wt a b d i)), [.brw (m3.map D.int), .val (lk a b c d), .val (.lst (ys.map tr)), .val (.lst ((waitsL a b d c).map nI)), .un, .un, .un, .un, .un, .val (.lst ((hrun a b c d ys).1.map bD)), .val (stD c (hrun a b c d ys).2), .un, .un, .un, .un, .un]) := by
    rw [rangeD_map]
    refine lcF_all _ (fun i => nI (wt a b d i)) _ fun i hi => ⟨[.brw (m3.map D.int), .val (lk a b c d), .val (.lst (ys.map tr)), .val (.lst ((waitsL a b d c).map nI)), .un, .un, .un, .un, .un, .val (.lst ((hrun a b c d ys).1.map bD)), .val (stD c (hrun a b c d ys).2), .un, .un, .un, .un, .val (.int (0 + (i : Int)))], rfl, ?_, rfl⟩
    have hi := List.mem_range.1 hi
    have w := told3_ok (lk a b c d) (nI i) .non .non _ (wait_of_eq o hi)
    unfold f__law_is_lock_due_2
    generalize (hrun a b c d ys).1.map bD = z1 at *
    generalize stD c (hrun a b c d ys).2 = z2 at *
    generalize (waitsL a b d c).map nI = z3 at *
    generalize lk a b c d = lo at *
    generalize F__law_told = q0 at *
    as_aux_lemma =>
      simp only [seq_ap, Mi.mi0, Mi.mi1, Mi.mi2, Mi.mi3, Mi.mi4, Mi.mi5, Mi.mo0, Mi.mo1, Mi.mo2, Mi.mo3, Mi.mo8, Bool.false_eq_true, Mi.mo9, Nat.reduceAdd, Nat.reduceSub, Nat.reduceLeDiff, Nat.reduceLT, Nat.reduceEqDiff, Mi.mt0, List.getElem?_cons_zero, List.getElem?_cons_succ, List.set_cons_zero, List.set_cons_succ, List.map_cons, List.map_nil, List.length_cons, List.length_nil, List.nil_append, List.cons_append, List.append_nil, List.replicate_succ, List.replicate_zero, lim_v, reduceIte, decide_true, decide_false, Bool.not_true, Bool.not_false, Option.bind_some, Mi.lst_no, Mi.par2, Mi.par3, eq_self, and_self, Mi.mi6, Mi.mi7, Mi.mi8, Mi.mi9, Option.map_some, Int.zero_add, w]
  rw [← waits_map] at l2
  have lew : ((waitsL a b d c).map nI).length ≤ 16777216 := by
    unfold waitsL
    rw [List.length_map, List.length_map, List.length_range]
    omega
  have s2 : F__law_same 4 [.lst ((waitsL a b d c).map nI), .lst ((waitsL a b d c).map nI)] = .ok (.bl true) := same_self 3 _ (pl_nats (by unfold waitsL; rw [List.length_map, List.length_range]; omega))
  obtain ⟨sec, m4, h4, sec0, sec1⟩ := take_ok m3 (b := 150) (by omega)
  obtain ⟨sec, rfl⟩ : ∃ n : Nat, sec = (n : Int) := ⟨sec.toNat, by omega⟩
  have r2 := r62_of (show (0 : Int) ≤ (sec : Int) + 1 by omega) (by omega)
  have t2 : ((sec : Int) + 1).toNat = sec + 1 := by omega
  obtain ⟨x5, x12, x13, l3⟩ := row_loop (n := sec) o (.brw (m4.map D.int)) (.val (.lst (ys.map tr))) (.val (.lst ((waitsL a b d c).map nI))) (.val (nI sec)) .un .un .un .un (.val (.lst ((hrun a b c d ys).1.map bD))) .un .un .un .un
  have st0 : stD c (0, 0) = .tup [.int 0, .int 0, .bl (decide (0 = c))] := rfl
  have cz : decide (0 = c) = false := decide_eq_false (by have := o.c0; omega)
  rw [st0, cz] at l3
  obtain ⟨n1, _⟩ := nn_spec (a := a) (b := b) (d := d) (t := sec) c
  have w5 := told5_ok (lk a b c d) (nI sec) .non .non _ (most_tries_eq o sec)
  change _ = R.ok (nI (nn a b c d sec)) at w5
  have ln : ((sumsL a b d (nn a b c d sec)).map nI).length = nn a b c d sec := by rw [List.length_map, sumsL_len]
  rw [← ln] at w5
  have s3 : F__law_same 4 [nI ((sumsL a b d (nn a b c d sec)).map nI).length, nI ((sumsL a b d (nn a b c d sec)).map nI).length] = .ok (.bl true) := same_self 3 _ (pl_flat trivial)
  have r3 := r62_of (show (0 : Int) ≤ (c : Int) + 3 by omega) (by omega)
  have t3 : ((c : Int) + 3).toNat = c + 3 := by omega
  obtain ⟨x6, y13, l4⟩ := count_loop (s := sec) (n := c + 3) o (.brw (m4.map D.int)) (.val (.lst (ys.map tr))) (.val (.lst ((waitsL a b d c).map nI))) x5 .un .un .un (.val (.lst ((hrun a b c d ys).1.map bD))) (.val (stD c (nn a b c d sec, T a b d (nn a b c d sec)))) x12 x13 .un .un
  obtain ⟨wr, m5, h5, wr0, wr1⟩ := take_ok m4 (b := (c : Int) + 1) (by omega)
  obtain ⟨wr, rfl⟩ : ∃ n : Nat, wr = (n : Int) := ⟨wr.toNat, by omega⟩
  obtain ⟨si, m6, h6, si0, si1⟩ := take_ok m5 (b := 99) (by omega)
  obtain ⟨si, rfl⟩ : ∃ n : Nat, si = (n : Int) := ⟨si.toNat, by omega⟩
  obtain ⟨t, m7, h7, t0, t1⟩ := take_ok m6 (b := 200) (by omega)
  obtain ⟨t, rfl⟩ : ∃ n : Nat, t = (n : Int) := ⟨t.toNat, by omega⟩
  obtain ⟨rr, m8, h8, rr0, rr1⟩ := take_ok m7 (b := 2) (by omega)
  have wc : wr ≤ c := by omega
  have k1 : decide ((wr : Int) = (c : Int)) = decide (wr = c) := decide_eq_decide.2 Int.ofNat_inj
  have st1 : stD c (wr, si) = .tup [.int (wr : Int), .int (si : Int), .bl (decide (wr = c))] := rfl
  have w6 := told2_ok (lk a b c d) (stD c (wr, si)) .non .non _ (is_state_ok o (s := (wr, si)) wc)
  have w7 := told10_ok (lk a b c d) (stD c (wr, si)) (nI t) (.bl (decide (rr = 0))) _ (tried_eq o (s := (wr, si)) (x := (t, decide (rr = 0))) wc)
  have w8 := law_try_eq o (s := (wr, si)) (x := (t, decide (rr = 0))) wc
  have s4 : F__law_same 4 [.lst [.bl true, .tup [.bl (tstep a b c d (wr, si) (t, decide (rr = 0))).1, stD c (tstep a b c d (wr, si) (t, decide (rr = 0))).2]], .lst [.bl true, .tup [.bl (tstep a b c d (wr, si) (t, decide (rr = 0))).1, stD c (tstep a b c d (wr, si) (t, decide (rr = 0))).2]]] = .ok (.bl true) := same_self 3 _ (pl_list (fun x hx => by
    simp only [List.mem_cons, List.mem_nil_iff, or_false] at hx
    rcases hx with rfl | rfl
    · exact pl_flat trivial
    · refine pl_tup (fun x hx => ?_) (by simp)
      simp only [List.mem_cons, List.mem_nil_iff, or_false] at hx
      rcases hx with rfl | rfl
      · exact pl_flat trivial
      · exact pl_st) (by simp))
  rw [st1] at w6 w7 w8
  simp only at w7 w8
  generalize (tstep a b c d (wr, si) (t, decide (rr = 0))).1 = v1 at *
  generalize stD c (tstep a b c d (wr, si) (t, decide (rr = 0))).2 = v2 at *
  have io := intsOf_map
  simp only [List.map_cons, List.map_nil] at h1
  unfold F__law_is_lock_due
  refine runB_of ?_
  change RtB _ [.brw (ms.map D.int), .val (lk a b c d), .un, .un, .un, .un, .un, .un, .un, .un, .un, .un, .un, .un, .un, .un] _ _
  unfold hres at *
  unfold m__law_is_lock_due
  generalize hkr : decide (rr = 0) = kr at *
  generalize (hrun a b c d ys).1.map bD = z1 at *
  generalize stD c (hrun a b c d ys).2 = z2 at *
  generalize (waitsL a b d c).map nI = z3 at *
  generalize (sumsL a b d (nn a b c d sec)).map nI = z4 at *
  generalize stD c (nn a b c d sec, T a b d (nn a b c d sec)) = z5 at *
  generalize ys.map tr = z6 at *
  generalize xs.map nI = z7 at *
  generalize lk a b c d = lo at *
  generalize F__law_same 4 = qs at *
  generalize F__law_take = q0 at *
  generalize F__law_pick = q1 at *
  generalize F__law_seconds = q2 at *
  generalize F__law_told = q3 at *
  generalize F__law_try = q4 at *
  generalize F__law_heard = q5 at *
  generalize f__law_is_lock_due_0 = q6 at *
  generalize f__law_is_lock_due_1 = q7 at *
  generalize f__law_is_lock_due_2 = q8 at *
  generalize b__law_is_lock_due_1 = q9 at *
  generalize b__law_is_lock_due_2 = q10 at *
  refine RtB.seq (Go.of (e' := [.brw (m3.map D.int), .val lo, .val (.lst z6), .un, .un, .un, .un, .un, .un, .un, .un, .un, .un, .un, .un, .un]) ?_ ?_)
  · as_aux_lemma =>
      simp only [seq_ap, Mi.mi0, Mi.mi1, Mi.mi2, Mi.mi3, Mi.mi4, Mi.mi5, Mi.mo0, Mi.mo1, Mi.mo2, Mi.mo3, Mi.mo8, Bool.false_eq_true, Mi.mo9, Nat.reduceAdd, Nat.reduceSub, Nat.reduceLeDiff, Nat.reduceLT, Nat.reduceEqDiff, Mi.mt0, List.getElem?_cons_zero, List.getElem?_cons_succ, List.set_cons_zero, List.set_cons_succ, List.map_cons, List.map_nil, List.length_cons, List.length_nil, List.nil_append, List.cons_append, List.append_nil, List.replicate_succ, List.replicate_zero, lim_v, reduceIte, decide_true, decide_false, Bool.not_true, Bool.not_false, Option.bind_some, Mi.lst_no, Mi.par2, Mi.par3, eq_self, and_self, Mi.mi6, Mi.mi7, Mi.mi8, Mi.mi9, Option.map_some, nLc, wipeE, okW, resE, eCallB, io, h1, h2, h3, le1, Sl.turn, List.all_cons, List.all_nil, Bool.and_true, Option.getD_some, and_self]
  refine RtB.seq (Go.of (e' := [.brw (m3.map D.int), .val lo, .val (.lst z6), .un, .un, .un, .un, .un, .un, .val (.lst z1), .val z2, .un, .un, .un, .un, .un]) ?_ ?_)
  · as_aux_lemma =>
      simp only [seq_ap, Mi.mi0, Mi.mi1, Mi.mi2, Mi.mi3, Mi.mi4, Mi.mi5, Mi.mo0, Mi.mo1, Mi.mo2, Mi.mo3, Mi.mo8, Bool.false_eq_true, Mi.mo9, Nat.reduceAdd, Nat.reduceSub, Nat.reduceLeDiff, Nat.reduceLT, Nat.reduceEqDiff, Mi.mt0, List.getElem?_cons_zero, List.getElem?_cons_succ, List.set_cons_zero, List.set_cons_succ, List.map_cons, List.map_nil, List.length_cons, List.length_nil, List.nil_append, List.cons_append, List.append_nil, List.replicate_succ, List.replicate_zero, lim_v, reduceIte, decide_true, decide_false, Bool.not_true, Bool.not_false, Option.bind_some, Mi.lst_no, Mi.par2, Mi.par3, eq_self, and_self, Mi.mi6, Mi.mi7, Mi.mi8, Mi.mi9, Option.map_some, w1]
  refine RtB.seq (Go.of (e' := [.brw (m3.map D.int), .val lo, .val (.lst z6), .val (.lst z3), .un, .un, .un, .un, .un, .val (.lst z1), .val z2, .un, .un, .un, .un, .un]) ?_ ?_)
  · as_aux_lemma =>
      simp only [seq_ap, Mi.mi0, Mi.mi1, Mi.mi2, Mi.mi3, Mi.mi4, Mi.mi5, Mi.mo0, Mi.mo1, Mi.mo2, Mi.mo3, Mi.mo8, Bool.false_eq_true, Mi.mo9, Nat.reduceAdd, Nat.reduceSub, Nat.reduceLeDiff, Nat.reduceLT, Nat.reduceEqDiff, Mi.mt0, List.getElem?_cons_zero, List.getElem?_cons_succ, List.set_cons_zero, List.set_cons_succ, List.map_cons, List.map_nil, List.length_cons, List.length_nil, List.nil_append, List.cons_append, List.append_nil, List.replicate_succ, List.replicate_zero, lim_v, reduceIte, decide_true, decide_false, Bool.not_true, Bool.not_false, Option.bind_some, Mi.lst_no, Mi.par2, Mi.par3, eq_self, and_self, Mi.mi6, Mi.mi7, Mi.mi8, Mi.mi9, Option.map_some, nLc, wipeE, okW, resE, g, cr, tc, l1, lew, List.all_cons, List.all_nil, Bool.and_true, Option.getD_some, and_self]
  refine RtB.seq (Go.ifF (e1 := [.brw (m3.map D.int), .val lo, .val (.lst z6), .val (.lst z3), .un, .un, .un, .un, .un, .val (.lst z1), .val z2, .un, .un, .un, .un, .un]) ?_ (Go.nx ?_))
  · as_aux_lemma =>
      simp only [seq_ap, Mi.mi0, Mi.mi1, Mi.mi2, Mi.mi3, Mi.mi4, Mi.mi5, Mi.mo0, Mi.mo1, Mi.mo2, Mi.mo3, Mi.mo8, Bool.false_eq_true, Mi.mo9, Nat.reduceAdd, Nat.reduceSub, Nat.reduceLeDiff, Nat.reduceLT, Nat.reduceEqDiff, Mi.mt0, List.getElem?_cons_zero, List.getElem?_cons_succ, List.set_cons_zero, List.set_cons_succ, List.map_cons, List.map_nil, List.length_cons, List.length_nil, List.nil_append, List.cons_append, List.append_nil, List.replicate_succ, List.replicate_zero, lim_v, reduceIte, decide_true, decide_false, Bool.not_true, Bool.not_false, Option.bind_some, Mi.lst_no, Mi.par2, Mi.par3, eq_self, and_self, Mi.mi6, Mi.mi7, Mi.mi8, Mi.mi9, Option.map_some, w3, w4, s1]
  refine RtB.seq (Go.ifF (e1 := [.brw (m3.map D.int), .val lo, .val (.lst z6), .val (.lst z3), .un, .un, .un, .un, .un, .val (.lst z1), .val z2, .un, .un, .un, .un, .un]) ?_ (Go.nx ?_))
  · as_aux_lemma =>
      simp only [seq_ap, Mi.mi0, Mi.mi1, Mi.mi2, Mi.mi3, Mi.mi4, Mi.mi5, Mi.mo0, Mi.mo1, Mi.mo2, Mi.mo3, Mi.mo8, Bool.false_eq_true, Mi.mo9, Nat.reduceAdd, Nat.reduceSub, Nat.reduceLeDiff, Nat.reduceLT, Nat.reduceEqDiff, Mi.mt0, List.getElem?_cons_zero, List.getElem?_cons_succ, List.set_cons_zero, List.set_cons_succ, List.map_cons, List.map_nil, List.length_cons, List.length_nil, List.nil_append, List.cons_append, List.append_nil, List.replicate_succ, List.replicate_zero, lim_v, reduceIte, decide_true, decide_false, Bool.not_true, Bool.not_false, Option.bind_some, Mi.lst_no, Mi.par2, Mi.par3, eq_self, and_self, Mi.mi6, Mi.mi7, Mi.mi8, Mi.mi9, Option.map_some, nLc, wipeE, okW, resE, g, cr, tc, l2, lew, s2, List.all_cons, List.all_nil, Bool.and_true, Option.getD_some, and_self]
  refine RtB.seq (Go.of (e' := [.brw (m4.map D.int), .val lo, .val (.lst z6), .val (.lst z3), .val (.int (sec : Int)), .un, .un, .un, .un, .val (.lst z1), .val z2, .un, .un, .un, .un, .un]) ?_ ?_)
  · as_aux_lemma =>
      simp only [seq_ap, Mi.mi0, Mi.mi1, Mi.mi2, Mi.mi3, Mi.mi4, Mi.mi5, Mi.mo0, Mi.mo1, Mi.mo2, Mi.mo3, Mi.mo8, Bool.false_eq_true, Mi.mo9, Nat.reduceAdd, Nat.reduceSub, Nat.reduceLeDiff, Nat.reduceLT, Nat.reduceEqDiff, Mi.mt0, List.getElem?_cons_zero, List.getElem?_cons_succ, List.set_cons_zero, List.set_cons_succ, List.map_cons, List.map_nil, List.length_cons, List.length_nil, List.nil_append, List.cons_append, List.append_nil, List.replicate_succ, List.replicate_zero, lim_v, reduceIte, decide_true, decide_false, Bool.not_true, Bool.not_false, Option.bind_some, Mi.lst_no, Mi.par2, Mi.par3, eq_self, and_self, Mi.mi6, Mi.mi7, Mi.mi8, Mi.mi9, Option.map_some, eCallB, io, h4, Sl.turn]
  refine RtB.seq (Go.of (e' := [.brw (m4.map D.int), .val lo, .val (.lst z6), .val (.lst z3), .val (.int (sec : Int)), .un, .un, .un, .un, .val (.lst z1), .val (.tup [.int 0, .int 0, .bl false]), .val (.lst []), .un, .un, .un, .un]) ?_ ?_)
  · as_aux_lemma =>
      simp only [seq_ap, Mi.mi0, Mi.mi1, Mi.mi2, Mi.mi3, Mi.mi4, Mi.mi5, Mi.mo0, Mi.mo1, Mi.mo2, Mi.mo3, Mi.mo8, Bool.false_eq_true, Mi.mo9, Nat.reduceAdd, Nat.reduceSub, Nat.reduceLeDiff, Nat.reduceLT, Nat.reduceEqDiff, Mi.mt0, List.getElem?_cons_zero, List.getElem?_cons_succ, List.set_cons_zero, List.set_cons_succ, List.map_cons, List.map_nil, List.length_cons, List.length_nil, List.nil_append, List.cons_append, List.append_nil, List.replicate_succ, List.replicate_zero, lim_v, reduceIte, decide_true, decide_false, Bool.not_true, Bool.not_false, Option.bind_some, Mi.lst_no, Mi.par2, Mi.par3, eq_self, and_self, Mi.mi6, Mi.mi7, Mi.mi8, Mi.mi9, Option.map_some]
  refine RtB.seq (Go.of (e' := [.brw (m4.map D.int), .val lo, .val (.lst z6), .val (.lst z3), .val (.int (sec : Int)), x5, .un, .un, .un, .val (.lst z1), .val z5, .val (.lst z4), x12, x13, .un, .un]) ?_ ?_)
  · as_aux_lemma =>
      simp only [seq_ap, Mi.mi0, Mi.mi1, Mi.mi2, Mi.mi3, Mi.mi4, Mi.mi5, Mi.mo0, Mi.mo1, Mi.mo2, Mi.mo3, Mi.mo8, Bool.false_eq_true, Mi.mo9, Nat.reduceAdd, Nat.reduceSub, Nat.reduceLeDiff, Nat.reduceLT, Nat.reduceEqDiff, Mi.mt0, List.getElem?_cons_zero, List.getElem?_cons_succ, List.set_cons_zero, List.set_cons_succ, List.map_cons, List.map_nil, List.length_cons, List.length_nil, List.nil_append, List.cons_append, List.append_nil, List.replicate_succ, List.replicate_zero, lim_v, reduceIte, decide_true, decide_false, Bool.not_true, Bool.not_false, Option.bind_some, Mi.lst_no, Mi.par2, Mi.par3, eq_self, and_self, Mi.mi6, Mi.mi7, Mi.mi8, Mi.mi9, Option.map_some, r2, t2, l3]
  refine RtB.seq (Go.ifF (e1 := [.brw (m4.map D.int), .val lo, .val (.lst z6), .val (.lst z3), .val (.int (sec : Int)), x5, .un, .un, .un, .val (.lst z1), .val z5, .val (.lst z4), x12, x13, .un, .un]) ?_ (Go.nx ?_))
  · as_aux_lemma =>
      simp only [seq_ap, Mi.mi0, Mi.mi1, Mi.mi2, Mi.mi3, Mi.mi4, Mi.mi5, Mi.mo0, Mi.mo1, Mi.mo2, Mi.mo3, Mi.mo8, Bool.false_eq_true, Mi.mo9, Nat.reduceAdd, Nat.reduceSub, Nat.reduceLeDiff, Nat.reduceLT, Nat.reduceEqDiff, Mi.mt0, List.getElem?_cons_zero, List.getElem?_cons_succ, List.set_cons_zero, List.set_cons_succ, List.map_cons, List.map_nil, List.length_cons, List.length_nil, List.nil_append, List.cons_append, List.append_nil, List.replicate_succ, List.replicate_zero, lim_v, reduceIte, decide_true, decide_false, Bool.not_true, Bool.not_false, Option.bind_some, Mi.lst_no, Mi.par2, Mi.par3, eq_self, and_self, Mi.mi6, Mi.mi7, Mi.mi8, Mi.mi9, Option.map_some, w5, s3]
  refine RtB.seq (Go.of (e' := [.brw (m4.map D.int), .val lo, .val (.lst z6), .val (.lst z3), .val (.int (sec : Int)), x5, x6, .un, .un, .val (.lst z1), .val z5, .val (.lst z4), x12, y13, .un, .un]) ?_ ?_)
  · as_aux_lemma =>
      simp only [seq_ap, Mi.mi0, Mi.mi1, Mi.mi2, Mi.mi3, Mi.mi4, Mi.mi5, Mi.mo0, Mi.mo1, Mi.mo2, Mi.mo3, Mi.mo8, Bool.false_eq_true, Mi.mo9, Nat.reduceAdd, Nat.reduceSub, Nat.reduceLeDiff, Nat.reduceLT, Nat.reduceEqDiff, Mi.mt0, List.getElem?_cons_zero, List.getElem?_cons_succ, List.set_cons_zero, List.set_cons_succ, List.map_cons, List.map_nil, List.length_cons, List.length_nil, List.nil_append, List.cons_append, List.append_nil, List.replicate_succ, List.replicate_zero, lim_v, reduceIte, decide_true, decide_false, Bool.not_true, Bool.not_false, Option.bind_some, Mi.lst_no, Mi.par2, Mi.par3, eq_self, and_self, Mi.mi6, Mi.mi7, Mi.mi8, Mi.mi9, Option.map_some, g, r3, t3, l4]
  refine RtB.seq (Go.of (e' := [.brw (m5.map D.int), .val lo, .val (.lst z6), .val (.lst z3), .val (.int (sec : Int)), x5, x6, .val (.int (wr : Int)), .un, .val (.lst z1), .val z5, .val (.lst z4), x12, y13, .un, .un]) ?_ ?_)
  · as_aux_lemma =>
      simp only [seq_ap, Mi.mi0, Mi.mi1, Mi.mi2, Mi.mi3, Mi.mi4, Mi.mi5, Mi.mo0, Mi.mo1, Mi.mo2, Mi.mo3, Mi.mo8, Bool.false_eq_true, Mi.mo9, Nat.reduceAdd, Nat.reduceSub, Nat.reduceLeDiff, Nat.reduceLT, Nat.reduceEqDiff, Mi.mt0, List.getElem?_cons_zero, List.getElem?_cons_succ, List.set_cons_zero, List.set_cons_succ, List.map_cons, List.map_nil, List.length_cons, List.length_nil, List.nil_append, List.cons_append, List.append_nil, List.replicate_succ, List.replicate_zero, lim_v, reduceIte, decide_true, decide_false, Bool.not_true, Bool.not_false, Option.bind_some, Mi.lst_no, Mi.par2, Mi.par3, eq_self, and_self, Mi.mi6, Mi.mi7, Mi.mi8, Mi.mi9, Option.map_some, eCallB, io, g, h5, Sl.turn]
  refine RtB.seq (Go.of (e' := [.brw (m6.map D.int), .val lo, .val (.lst z6), .val (.lst z3), .val (.int (sec : Int)), x5, x6, .val (.int (wr : Int)), .val (.tup [.int (wr : Int), .int (si : Int), .bl (decide (wr = c))]), .val (.lst z1), .val z5, .val (.lst z4), x12, y13, .un, .un]) ?_ ?_)
  · as_aux_lemma =>
      simp only [seq_ap, Mi.mi0, Mi.mi1, Mi.mi2, Mi.mi3, Mi.mi4, Mi.mi5, Mi.mo0, Mi.mo1, Mi.mo2, Mi.mo3, Mi.mo8, Bool.false_eq_true, Mi.mo9, Nat.reduceAdd, Nat.reduceSub, Nat.reduceLeDiff, Nat.reduceLT, Nat.reduceEqDiff, Mi.mt0, List.getElem?_cons_zero, List.getElem?_cons_succ, List.set_cons_zero, List.set_cons_succ, List.map_cons, List.map_nil, List.length_cons, List.length_nil, List.nil_append, List.cons_append, List.append_nil, List.replicate_succ, List.replicate_zero, lim_v, reduceIte, decide_true, decide_false, Bool.not_true, Bool.not_false, Option.bind_some, Mi.lst_no, Mi.par2, Mi.par3, eq_self, and_self, Mi.mi6, Mi.mi7, Mi.mi8, Mi.mi9, Option.map_some, eCallB, io, g, h6, k1, Sl.turn]
  refine RtB.seq (Go.of (e' := [.brw (m8.map D.int), .val lo, .val (.lst z6), .val (.lst z3), .val (.int (sec : Int)), .val (.int (t : Int)), x6, .val (.int (wr : Int)), .val (.tup [.int (wr : Int), .int (si : Int), .bl (decide (wr = c))]), .val (.lst z1), .val z5, .val (.lst z4), x12, y13, .val (.bl kr), .un]) ?_ ?_)
  · as_aux_lemma =>
      simp only [seq_ap, Mi.mi0, Mi.mi1, Mi.mi2, Mi.mi3, Mi.mi4, Mi.mi5, Mi.mo0, Mi.mo1, Mi.mo2, Mi.mo3, Mi.mo8, Bool.false_eq_true, Mi.mo9, Nat.reduceAdd, Nat.reduceSub, Nat.reduceLeDiff, Nat.reduceLT, Nat.reduceEqDiff, Mi.mt0, List.getElem?_cons_zero, List.getElem?_cons_succ, List.set_cons_zero, List.set_cons_succ, List.map_cons, List.map_nil, List.length_cons, List.length_nil, List.nil_append, List.cons_append, List.append_nil, List.replicate_succ, List.replicate_zero, lim_v, reduceIte, decide_true, decide_false, Bool.not_true, Bool.not_false, Option.bind_some, Mi.lst_no, Mi.par2, Mi.par3, eq_self, and_self, Mi.mi6, Mi.mi7, Mi.mi8, Mi.mi9, Option.map_some, eCallB, io, h7, h8, hkr, Sl.turn]
  refine RtB.of (e' := [.brw (m8.map D.int), .val lo, .val (.lst z6), .val (.lst z3), .val (.int (sec : Int)), .val (.int (t : Int)), x6, .val (.int (wr : Int)), .val (.tup [.int (wr : Int), .int (si : Int), .bl (decide (wr = c))]), .val (.lst z1), .val z5, .val (.lst z4), x12, y13, .val (.bl kr), .un]) ?_ ⟨m8, rfl⟩
  as_aux_lemma =>
    simp only [seq_ap, Mi.mi0, Mi.mi1, Mi.mi2, Mi.mi3, Mi.mi4, Mi.mi5, Mi.mo0, Mi.mo1, Mi.mo2, Mi.mo3, Mi.mo8, Bool.false_eq_true, Mi.mo9, Nat.reduceAdd, Nat.reduceSub, Nat.reduceLeDiff, Nat.reduceLT, Nat.reduceEqDiff, Mi.mt0, List.getElem?_cons_zero, List.getElem?_cons_succ, List.set_cons_zero, List.set_cons_succ, List.map_cons, List.map_nil, List.length_cons, List.length_nil, List.nil_append, List.cons_append, List.append_nil, List.replicate_succ, List.replicate_zero, lim_v, reduceIte, decide_true, decide_false, Bool.not_true, Bool.not_false, Option.bind_some, Mi.lst_no, Mi.par2, Mi.par3, eq_self, and_self, Mi.mi6, Mi.mi7, Mi.mi8, Mi.mi9, Option.map_some, w6, w7, w8, s4]
end Lw
set_option maxHeartbeats 1000000
namespace Lw
open Mi
/-! ### second by second -/
abbrev DS := List Bool × Nat
def istep (t : Nat) (s : DS) (x : Nat) : DS := if x = t then (s.1 ++ [decide (0 < s.2)], s.2 - 1) else s
def ostep (h e : Nat) (xs : List Nat) (s : DS) (t : Nat) : DS := xs.foldl (istep t) (s.1, if 0 < t ∧ t % e = 0 then min h (s.2 + 1) else s.2)
def irep : Nat → DS → DS
  | 0, s => s
  | k + 1, s => irep k (s.1 ++ [decide (0 < s.2)], s.2 - 1)
theorem inner_rep (t : Nat) : ∀ (xs : List Nat) (s : DS), xs.foldl (istep t) s = irep (xs.filter fun x => decide (x = t)).length s
  | [], s => rfl
  | x :: xs, s => by
    rw [List.foldl_cons, inner_rep t xs]
    by_cases c : x = t
    · rw [List.filter_cons_of_pos (by simpa using c), List.length_cons]
      show irep _ (istep t s x) = irep _ (s.1 ++ [decide (0 < s.2)], s.2 - 1)
      unfold istep
      rw [if_pos c]
    · rw [List.filter_cons_of_neg (by simpa using c)]
      unfold istep
      rw [if_neg c]
theorem gfill_le (h e : Nat) (s : GS) (t : Nat) : gfill h e s t ≤ h := Nat.min_le_left _ _
theorem rep_run {h e t : Nat} : ∀ (k : Nat) (s : GS), irep k (s.1, gfill h e s t) = (((List.replicate k t).foldl (gstep h e) s).1, gfill h e ((List.replicate k t).foldl (gstep h e) s) t)
  | 0, s => rfl
  | k + 1, s => by
    rw [List.replicate_succ, List.foldl_cons, ← rep_run k (gstep h e s t)]
    have g : gfill h e (gstep h e s t) t = gfill h e s t - 1 := by
      show min h (gfill h e s t - 1 + t / e - t / e) = _
      have := gfill_le h e s t
      omega
    rw [g]
    rfl
theorem div_succ {t e : Nat} (he : 0 < e) : (t + 1) / e = t / e + if (t + 1) % e = 0 then 1 else 0 := by
  have h1 := Nat.div_add_mod t e
  have h2 := Nat.mod_lt t he
  by_cases c : t % e + 1 = e
  · have e1 : t + 1 = e * (t / e + 1) := by rw [Nat.mul_add, Nat.mul_one]; omega
    have m0 : (t + 1) % e = 0 := by rw [e1]; exact Nat.mul_mod_right _ _
    have d0 : (t + 1) / e = t / e + 1 := by
      conv => lhs; rw [e1]
      exact Nat.mul_div_cancel_left _ he
    rw [d0, if_pos m0]
  · have e1 : t + 1 = (t % e + 1) + e * (t / e) := by omega
    have m0 : (t + 1) % e = t % e + 1 := by
      conv => lhs; rw [e1]
      rw [Nat.add_mul_mod_self_left, Nat.mod_eq_of_lt (by omega)]
    have d0 : (t + 1) / e = t / e := by
      conv => lhs; rw [e1]
      rw [Nat.add_mul_div_left _ _ he, Nat.div_eq_of_lt (by omega), Nat.zero_add]
    rw [d0, m0, if_neg (by omega)]
    rfl
theorem fill_next {h e : Nat} (he : 0 < e) {s : GS} {t : Nat} (le : s.2.2 ≤ t) : gfill h e s (t + 1) = if 0 < t + 1 ∧ (t + 1) % e = 0 then min h (gfill h e s t + 1) else gfill h e s t := by
  have := Nat.div_le_div_right (c := e) le
  unfold gfill
  rw [div_succ he]
  generalize t / e = a at *
  generalize s.2.2 / e = b at *
  by_cases c : (t + 1) % e = 0
  · rw [if_pos c, if_pos ⟨by omega, c⟩]
    omega
  · rw [if_neg c, if_neg (fun z => c z.2)]
    rfl
theorem filter_split (t : Nat) : ∀ (xs : List Nat), xs.Pairwise (· ≤ ·) → (xs.filter fun x => decide (x ≤ t + 1)) = (xs.filter fun x => decide (x ≤ t)) ++ List.replicate (xs.filter fun x => decide (x = t + 1)).length (t + 1)
  | [], _ => rfl
  | x :: xs, h => by
    obtain ⟨h1, h2⟩ := List.pairwise_cons.1 h
    have ih := filter_split t xs h2
    by_cases c : x ≤ t
    · rw [List.filter_cons_of_pos (by simp; omega), List.filter_cons_of_pos (by simpa using c), List.filter_cons_of_neg (by simp; omega), ih]
      rfl
    · have n0 : (xs.filter fun x => decide (x ≤ t)) = [] := by
        rw [List.filter_eq_nil_iff]
        intro y hy
        have := h1 y hy
        simp
        omega
      rw [n0, List.nil_append] at ih
      by_cases q : x = t + 1
      · rw [List.filter_cons_of_pos (by simp; omega), List.filter_cons_of_neg (by simpa using c), List.filter_cons_of_pos (by simpa using q), n0, ih, List.length_cons, List.replicate_succ, q]
        rfl
      · rw [List.filter_cons_of_neg (by simp; omega), List.filter_cons_of_neg (by simpa using c), List.filter_cons_of_neg (by simpa using q), n0, ih]
        rfl
theorem filter_zero : ∀ (xs : List Nat), xs.Pairwise (· ≤ ·) → (xs.filter fun x => decide (x ≤ 0)) = List.replicate (xs.filter fun x => decide (x = 0)).length 0
  | [], _ => rfl
  | x :: xs, h => by
    obtain ⟨h1, h2⟩ := List.pairwise_cons.1 h
    have ih := filter_zero xs h2
    by_cases c : x = 0
    · rw [List.filter_cons_of_pos (by simp; omega), List.filter_cons_of_pos (by simpa using c), ih, List.length_cons, List.replicate_succ, c]
    · rw [List.filter_cons_of_neg (by simp; omega), List.filter_cons_of_neg (by simpa using c), ih]
theorem last_le {h e t : Nat} : ∀ (xs : List Nat) (s : GS), (∀ x ∈ xs, x ≤ t) → s.2.2 ≤ t → (xs.foldl (gstep h e) s).2.2 ≤ t
  | [], _, _, h => h
  | x :: xs, s, h1, h2 => last_le xs _ (fun y hy => h1 y (List.mem_cons_of_mem _ hy)) (h1 x (List.mem_cons_self ..))
theorem grun_last_le {h e t : Nat} (xs : List Nat) : (grun h e (xs.filter fun x => decide (x ≤ t))).2.2 ≤ t := last_le _ _ (fun x hx => by simpa using (List.mem_filter.1 hx).2) (Nat.zero_le _)
def gto (h e : Nat) (xs : List Nat) (t : Nat) : GS := grun h e (xs.filter fun x => decide (x ≤ t))
theorem seconds_run {h e : Nat} (he : 0 < e) (xs : List Nat) (hp : xs.Pairwise (· ≤ ·)) : ∀ n, (List.range (n + 1)).foldl (ostep h e xs) ([], h) = ((gto h e xs n).1, gfill h e (gto h e xs n) n)
  | 0 => by
    show ostep h e xs ([], h) 0 = _
    unfold ostep
    rw [if_neg (by omega), inner_rep]
    unfold gto grun
    rw [filter_zero xs hp]
    have g : gfill h e ([], h, 0) 0 = h := by
      show min h (h + 0 / e - 0 / e) = h
      omega
    have := rep_run (h := h) (e := e) (t := 0) (xs.filter fun x => decide (x = 0)).length ([], h, 0)
    rw [g] at this
    exact this
  | n + 1 => by
    rw [List.range_succ, List.foldl_append, seconds_run he xs hp n, List.foldl_cons, List.foldl_nil]
    unfold ostep
    rw [inner_rep]
    have f := fill_next (h := h) he (s := gto h e xs n) (t := n) (grun_last_le xs)
    simp only at f ⊢
    rw [← f, rep_run]
    unfold gto grun
    rw [filter_split n xs hp, List.foldl_append]
theorem filter_all {t : Nat} {xs : List Nat} (h : ∀ x ∈ xs, x ≤ t) : (xs.filter fun x => decide (x ≤ t)) = xs := List.filter_eq_self.2 fun x hx => by simpa using h x hx
/-! ### evaluated -/
theorem drops_inner {h e n t : Nat} {xs : List Nat} (v1 : D) (hl : xs.length ≤ 3000) {s : DS} (hs : s.1.length ≤ 10000000) (s6 : Sl) :
    ∃ x6, forF (gN 6) b__law_drops_0 (xs.map nI) [.val (bk h e), .val v1, .val (nI n), .val (nI t), .val (nI s.2), .own (s.1.map bD), s6] = .ok (.nx [.val (bk h e), .val v1, .val (nI n), .val (nI t), .val (nI (xs.foldl (istep t) s).2), .own ((xs.foldl (istep t) s).1.map bD), x6]) ∧ (xs.foldl (istep t) s).1.length ≤ s.1.length + xs.length := by
  obtain ⟨x6, l, hl2⟩ := for_fold (G := gN 6) (b := b__law_drops_0) nI (fun (s : DS) (x6 : Sl) => [.val (bk h e), .val v1, .val (nI n), .val (nI t), .val (nI s.2), .own (s.1.map bD), x6]) (istep t) (fun k z => z.1.length ≤ s.1.length + k) xs 0 s s6 (Nat.le_refl _) fun j x z x6 hx hp => by
    rw [Nat.zero_add] at hp ⊢
    have hj : j < xs.length := (List.getElem?_eq_some_iff.1 hx).1
    refine ⟨[.val (bk h e), .val v1, .val (nI n), .val (nI t), .val (nI z.2), .own (z.1.map bD), .val (nI x)], .val (nI x), rfl, ?_, ?_⟩
    · obtain ⟨f, d⟩ := z
      have le : (f.map bD).length < 16777216 := by
        rw [List.length_map]
        have : f.length ≤ s.1.length + j := hp
        omega
      unfold istep
      by_cases c : x = t
      · rw [if_pos c]
        have k1 : decide ((x : Int) = (t : Int)) = true := decide_eq_true (by omega)
        have k2 : decide ((0 : Int) < (d : Int)) = decide (0 < d) := decide_eq_decide.2 (by omega)
        have k3 : (if (d : Int) - 1 > 0 then (d : Int) - 1 else 0) = ((d - 1 : Nat) : Int) := by split <;> omega
        have ee : (f ++ [decide (0 < d)]).map bD = f.map bD ++ [.bl (decide (0 < d))] := by rw [List.map_append]; rfl
        show _ = R.ok (Fl.nx [_, _, _, _, .val (nI (d - 1)), .own ((f ++ [decide (0 < d)]).map bD), _])
        rw [ee]
        generalize f.map bD = l at *
        generalize bk h e = b at *
        unfold b__law_drops_0
        as_aux_lemma =>
          simp only [seq_ap, Mi.mi0, Mi.mi1, Mi.mi2, Mi.mi3, Mi.mi4, Mi.mi5, Mi.mo0, Mi.mo1, Mi.mo2, Mi.mo3, Mi.mo8, Bool.false_eq_true, Mi.mo9, Nat.reduceAdd, Nat.reduceSub, Nat.reduceLeDiff, Nat.reduceLT, Nat.reduceEqDiff, Mi.mt0, List.getElem?_cons_zero, List.getElem?_cons_succ, List.set_cons_zero, List.set_cons_succ, List.map_cons, List.map_nil, List.length_cons, List.length_nil, List.nil_append, List.cons_append, List.append_nil, List.replicate_succ, List.replicate_zero, lim_v, reduceIte, decide_true, decide_false, Bool.not_true, Bool.not_false, Option.bind_some, Mi.lst_no, Mi.par2, Mi.par3, eq_self, and_self, Mi.mi6, Mi.mi7, Mi.mi8, Mi.mi9, Option.map_some, k1, k2, k3, le]
      · rw [if_neg c]
        have k1 : decide ((x : Int) = (t : Int)) = false := decide_eq_false (by omega)
        generalize f.map bD = l at *
        generalize bk h e = b at *
        unfold b__law_drops_0
        as_aux_lemma =>
          simp only [seq_ap, Mi.mi0, Mi.mi1, Mi.mi2, Mi.mi3, Mi.mi4, Mi.mi5, Mi.mo0, Mi.mo1, Mi.mo2, Mi.mo3, Mi.mo8, Bool.false_eq_true, Mi.mo9, Nat.reduceAdd, Nat.reduceSub, Nat.reduceLeDiff, Nat.reduceLT, Nat.reduceEqDiff, Mi.mt0, List.getElem?_cons_zero, List.getElem?_cons_succ, List.set_cons_zero, List.set_cons_succ, List.map_cons, List.map_nil, List.length_cons, List.length_nil, List.nil_append, List.cons_append, List.append_nil, List.replicate_succ, List.replicate_zero, lim_v, reduceIte, decide_true, decide_false, Bool.not_true, Bool.not_false, Option.bind_some, Mi.lst_no, Mi.par2, Mi.par3, eq_self, and_self, Mi.mi6, Mi.mi7, Mi.mi8, Mi.mi9, Option.map_some, k1]
    · unfold istep
      split
      · show (z.1 ++ _).length ≤ _
        rw [List.length_append]
        show z.1.length + 1 ≤ _
        omega
      · omega
  rw [Nat.zero_add] at hl2
  exact ⟨x6, l, hl2⟩
theorem law_drops_eq {h e n : Nat} (o : BkOk h e) {xs : List Nat} (hl : xs.length ≤ 3000) (hn : n ≤ 3000) (hp : xs.Pairwise (· ≤ ·)) : F__law_drops [bk h e, .lst (xs.map nI), nI n] = .ok (.tup [.lst ((gto h e xs n).1.map bD), nI (gfill h e (gto h e xs n) n)]) := by
  obtain ⟨e0, e1⟩ : 1 ≤ e ∧ e ≤ 100000 := ⟨o.e0, o.e1⟩
  have main := for_fold (G := gN 3) (b := b__law_drops_1) (fun i : Nat => D.int (0 + (i : Int))) (fun (s : DS) (t : Sl × Sl) => [.val (bk h e), .val (.lst (xs.map nI)), .val (nI n), t.1, .val (nI s.2), .own (s.1.map bD), t.2]) (ostep h e xs) (fun k z => z.1.length ≤ k * 3000) (List.range (n + 1)) 0 ([], h) (.un, .un) (Nat.zero_le _) fun j t s tt ht hs => by
    rw [Nat.zero_add] at hs ⊢
    have hj : j < n + 1 := by
      have := (List.getElem?_eq_some_iff.1 ht).1
      rw [List.length_range] at this
      exact this
    have tj : t = j := by
      rw [List.getElem?_range hj] at ht
      exact (Option.some.inj ht).symm
    subst tj
    obtain ⟨f, d⟩ := s
    obtain ⟨t1, t2⟩ := tt
    have hf : f.length ≤ t * 3000 := hs
    obtain ⟨x6, l, l2⟩ := drops_inner (h := h) (e := e) (n := n) (t := t) (xs := xs) (.lst (xs.map nI)) (by omega) (s := (f, if 0 < t ∧ t % e = 0 then min h (d + 1) else d)) (by
      have := Nat.mul_le_mul_right 3000 (show t ≤ 3000 by omega)
      show f.length ≤ _
      omega) t2
    refine ⟨[.val (bk h e), .val (.lst (xs.map nI)), .val (nI n), .val (.int (0 + (t : Int))), .val (nI d), .own (f.map bD), t2], (.val (nI t), x6), rfl, ?_, ?_⟩
    · change forF _ _ _ _ = R.ok (Fl.nx [_, _, _, _, .val (nI (ostep h e xs (f, d) t).2), .own ((ostep h e xs (f, d) t).1.map bD), _]) at l
      generalize ostep h e xs (f, d) t = os at *
      simp only at l ⊢
      have z : (0 : Int) + (t : Int) = (t : Int) := Int.zero_add _
      rw [z]
      have m := mod_ok (x := (t : Int)) (y := (e : Int)) (by omega)
      have g0 : gIx (bk h e) (.int 0) = some (nI h) := Mi.mo9.1 _ _
      have g1 : gIx (bk h e) (.int 1) = some (nI e) := Mi.mo9.2.1 _ _ _
      have em : ((t : Int) % (e : Int)) = ((t % e : Nat) : Int) := rfl
      have k3 : (if (d : Int) + 1 < (h : Int) then (d : Int) + 1 else (h : Int)) = ((min h (d + 1) : Nat) : Int) := by split <;> omega
      by_cases c1 : 0 < t
      · have k1 : decide ((0 : Int) < (t : Int)) = true := decide_eq_true (by omega)
        by_cases c2 : t % e = 0
        · have k2 : decide (((t % e : Nat) : Int) = 0) = true := decide_eq_true (by omega)
          rw [if_pos ⟨c1, c2⟩] at l
          generalize xs.map nI = ll at *
          generalize f.map bD = ff at *
          generalize min h (d + 1) = dd at *
          generalize bk h e = b at *
          unfold b__law_drops_1
          generalize b__law_drops_0 = q0 at *
          as_aux_lemma =>
            simp only [seq_ap, Mi.mi0, Mi.mi1, Mi.mi2, Mi.mi3, Mi.mi4, Mi.mi5, Mi.mo0, Mi.mo1, Mi.mo2, Mi.mo3, Mi.mo8, Bool.false_eq_true, Mi.mo9, Nat.reduceAdd, Nat.reduceSub, Nat.reduceLeDiff, Nat.reduceLT, Nat.reduceEqDiff, Mi.mt0, List.getElem?_cons_zero, List.getElem?_cons_succ, List.set_cons_zero, List.set_cons_succ, List.map_cons, List.map_nil, List.length_cons, List.length_nil, List.nil_append, List.cons_append, List.append_nil, List.replicate_succ, List.replicate_zero, lim_v, reduceIte, decide_true, decide_false, Bool.not_true, Bool.not_false, Option.bind_some, Mi.lst_no, Mi.par2, Mi.par3, eq_self, and_self, Mi.mi6, Mi.mi7, Mi.mi8, Mi.mi9, Option.map_some, m, g0, g1, em, k1, k2, k3, l]
        · have k2 : decide (((t % e : Nat) : Int) = 0) = false := decide_eq_false (by omega)
          rw [if_neg (fun z => c2 z.2)] at l
          generalize xs.map nI = ll at *
          generalize f.map bD = ff at *
          generalize bk h e = b at *
          unfold b__law_drops_1
          generalize b__law_drops_0 = q0 at *
          as_aux_lemma =>
            simp only [seq_ap, Mi.mi0, Mi.mi1, Mi.mi2, Mi.mi3, Mi.mi4, Mi.mi5, Mi.mo0, Mi.mo1, Mi.mo2, Mi.mo3, Mi.mo8, Bool.false_eq_true, Mi.mo9, Nat.reduceAdd, Nat.reduceSub, Nat.reduceLeDiff, Nat.reduceLT, Nat.reduceEqDiff, Mi.mt0, List.getElem?_cons_zero, List.getElem?_cons_succ, List.set_cons_zero, List.set_cons_succ, List.map_cons, List.map_nil, List.length_cons, List.length_nil, List.nil_append, List.cons_append, List.append_nil, List.replicate_succ, List.replicate_zero, lim_v, reduceIte, decide_true, decide_false, Bool.not_true, Bool.not_false, Option.bind_some, Mi.lst_no, Mi.par2, Mi.par3, eq_self, and_self, Mi.mi6, Mi.mi7, Mi.mi8, Mi.mi9, Option.map_some, m, g0, g1, em, k1, k2, k3, l]
      · have k1 : decide ((0 : Int) < (t : Int)) = false := decide_eq_false (by omega)
        rw [if_neg (fun z => c1 z.1)] at l
        generalize xs.map nI = ll at *
        generalize f.map bD = ff at *
        generalize bk h e = b at *
        unfold b__law_drops_1
        generalize b__law_drops_0 = q0 at *
        as_aux_lemma =>
          simp only [seq_ap, Mi.mi0, Mi.mi1, Mi.mi2, Mi.mi3, Mi.mi4, Mi.mi5, Mi.mo0, Mi.mo1, Mi.mo2, Mi.mo3, Mi.mo8, Bool.false_eq_true, Mi.mo9, Nat.reduceAdd, Nat.reduceSub, Nat.reduceLeDiff, Nat.reduceLT, Nat.reduceEqDiff, Mi.mt0, List.getElem?_cons_zero, List.getElem?_cons_succ, List.set_cons_zero, List.set_cons_succ, List.map_cons, List.map_nil, List.length_cons, List.length_nil, List.nil_append, List.cons_append, List.append_nil, List.replicate_succ, List.replicate_zero, lim_v, reduceIte, decide_true, decide_false, Bool.not_true, Bool.not_false, Option.bind_some, Mi.lst_no, Mi.par2, Mi.par3, eq_self, and_self, Mi.mi6, Mi.mi7, Mi.mi8, Mi.mi9, Option.map_some, k1, l]
    · show (ostep h e xs (f, d) t).1.length ≤ (t + 1) * 3000
      unfold ostep
      simp only at l2 ⊢
      rw [Nat.add_mul]
      omega
  obtain ⟨⟨t1, t2⟩, l, _⟩ := main
  rw [seconds_run (by omega) xs hp n] at l
  have r := r62_of (show (0 : Int) ≤ (n : Int) + 1 by omega) (by omega)
  have tn : ((n : Int) + 1).toNat = n + 1 := by omega
  have rm : rangeD 0 (n + 1) = (List.range (n + 1)).map fun i : Nat => D.int (0 + (i : Int)) := rfl
  have g0 : gIx (bk h e) (.int 0) = some (nI h) := Mi.mo9.1 _ _
  rw [← rm] at l
  simp only at l
  unfold F__law_drops m__law_drops
  generalize (gto h e xs n).1.map bD = z1 at *
  generalize gfill h e (gto h e xs n) n = z2 at *
  generalize xs.map nI = z3 at *
  generalize bk h e = b at *
  change forF _ _ _ [_, _, _, _, _, .own [], _] = _ at l
  generalize b__law_drops_1 = q0 at *
  as_aux_lemma =>
    simp only [runA, seq_ap, Mi.mi0, Mi.mi1, Mi.mi2, Mi.mi3, Mi.mi4, Mi.mi5, Mi.mo0, Mi.mo1, Mi.mo2, Mi.mo3, Mi.mo8, Bool.false_eq_true, Mi.mo9, Nat.reduceAdd, Nat.reduceSub, Nat.reduceLeDiff, Nat.reduceLT, Nat.reduceEqDiff, Mi.mt0, List.getElem?_cons_zero, List.getElem?_cons_succ, List.set_cons_zero, List.set_cons_succ, List.map_cons, List.map_nil, List.length_cons, List.length_nil, List.nil_append, List.cons_append, List.append_nil, List.replicate_succ, List.replicate_zero, lim_v, reduceIte, decide_true, decide_false, Bool.not_true, Bool.not_false, Option.bind_some, Mi.lst_no, Mi.par2, Mi.par3, eq_self, and_self, Mi.mi6, Mi.mi7, Mi.mi8, Mi.mi9, Option.map_some, r, tn, g0, l]
end Lw
set_option maxHeartbeats 2000000
namespace Lw
open Mi
def cnt (f : List Bool) : Nat := (f.filter fun b => b).length
theorem cnt_app (f : List Bool) (b : Bool) : cnt (f ++ [b]) = cnt f + if b = true then 1 else 0 := by
  unfold cnt
  rw [List.filter_append, List.length_append]
  cases b <;> rfl
theorem cnt_rep : ∀ n, cnt (List.replicate n true) = n
  | 0 => rfl
  | n + 1 => by rw [List.replicate_succ', cnt_app, cnt_rep n]; rfl
def askS (h n : Nat) : List Nat := List.replicate h 0 ++ (List.range n).map fun i => i + 1
theorem askS_succ (h n : Nat) : askS h (n + 1) = askS h n ++ [n + 1] := by
  unfold askS
  rw [List.range_succ, List.map_append, List.append_assoc]
  rfl
theorem askS_len (h n : Nat) : (askS h n).length = h + n := by
  unfold askS
  rw [List.length_append, List.length_replicate, List.length_map, List.length_range]
theorem askS_p (h n : Nat) : (askS h n).Pairwise (· ≤ ·) := by
  unfold askS
  rw [List.pairwise_append]
  refine ⟨by rw [List.pairwise_replicate]; exact .inr (Nat.le_refl _), ?_, ?_⟩
  · rw [List.pairwise_map]
    exact List.pairwise_lt_range.imp fun {a b} hab => by omega
  · intro a ha b hb
    rw [List.eq_of_mem_replicate ha]
    exact Nat.zero_le _
theorem askS_b {h n : Nat} : ∀ x ∈ askS h n, x ≤ n := by
  intro x hx
  unfold askS at hx
  rcases List.mem_append.1 hx with q | q
  · rw [List.eq_of_mem_replicate q]
    exact Nat.zero_le _
  · obtain ⟨i, hi, rfl⟩ := List.mem_map.1 q
    have := List.mem_range.1 hi
    omega
theorem zero_run {h e : Nat} : ∀ (n d : Nat) (f : List Bool), n ≤ d → d ≤ h → (List.replicate n 0).foldl (gstep h e) (f, d, 0) = (f ++ List.replicate n true, d - n, 0)
  | 0, d, f, _, _ => by simp
  | n + 1, d, f, h1, h2 => by
    rw [List.replicate_succ, List.foldl_cons]
    have g : gfill h e (f, d, 0) 0 = d := by
      show min h (d + 0 / e - 0 / e) = d
      rw [Nat.zero_div]
      omega
    have s : gstep h e (f, d, 0) 0 = (f ++ [true], d - 1, 0) := by
      unfold gstep
      rw [g, decide_eq_true (by omega : 0 < d)]
    rw [s, zero_run n (d - 1) _ (by omega) (by omega), List.append_assoc, show [true] ++ List.replicate n true = List.replicate (n + 1) true from rfl, show d - 1 - n = d - (n + 1) by omega]
theorem ask_run {h e : Nat} (he : 0 < e) (hh : 0 < h) : ∀ n, ∃ f, grun h e (askS h n) = (f, 0, n) ∧ cnt f = h + n / e
  | 0 => by
    refine ⟨List.replicate h true, ?_, ?_⟩
    · unfold grun askS
      rw [List.range_zero, List.map_nil, List.append_nil, zero_run h h [] (Nat.le_refl _) (Nat.le_refl _), Nat.sub_self]
      rfl
    · rw [cnt_rep, Nat.zero_div]
      rfl
  | n + 1 => by
    obtain ⟨f, h1, h2⟩ := ask_run he hh n
    have e1 : grun h e (askS h (n + 1)) = gstep h e (f, 0, n) (n + 1) := by
      unfold grun at *
      rw [askS_succ, List.foldl_append, h1]
      rfl
    rw [e1]
    have g : gfill h e (f, 0, n) (n + 1) = if (n + 1) % e = 0 then 1 else 0 := by
      show min h (0 + (n + 1) / e - n / e) = _
      rw [div_succ he]
      split <;> omega
    have ds := div_succ (t := n) he
    by_cases c : (n + 1) % e = 0
    · rw [if_pos c] at g ds
      refine ⟨f ++ [true], ?_, ?_⟩
      · unfold gstep
        rw [g]
        rfl
      · rw [cnt_app, h2, ds]
        show h + n / e + 1 = h + (n / e + 1)
        omega
    · rw [if_neg c] at g ds
      refine ⟨f ++ [false], ?_, ?_⟩
      · unfold gstep
        rw [g]
        rfl
      · rw [cnt_app, h2, ds]
        rfl
theorem ints_of_nats (xs : List Nat) : intsOf (xs.map nI) = some (xs.map fun n : Nat => (n : Int)) := by
  have := intsOf_map (xs.map fun n : Nat => (n : Int))
  rw [List.map_map] at this
  exact this
theorem max_nats {xs : List Nat} (hb : ∀ x ∈ xs, x ≤ 2000) : ∃ m : Nat, fMax1 [.lst (.int 0 :: xs.map nI)] = some (.int (m : Int)) ∧ (∀ x ∈ xs, x ≤ m) ∧ m ≤ 2000 := by
  obtain ⟨h1, h2⟩ := maxF_spec (xs.map fun n : Nat => (n : Int)) 0
  have h0 := h1 0 (List.mem_cons_self ..)
  obtain ⟨m, hm⟩ : ∃ m : Nat, (xs.map fun n : Nat => (n : Int)).foldl (fun a b => if b > a then b else a) 0 = (m : Int) := ⟨((xs.map fun n : Nat => (n : Int)).foldl (fun a b => if b > a then b else a) 0).toNat, by omega⟩
  refine ⟨m, ?_, fun x hx => ?_, ?_⟩
  · have i : intsOf (.int 0 :: xs.map nI) = some (0 :: xs.map fun n : Nat => (n : Int)) := by
      simp only [intsOf, ints_of_nats, Option.map_some]
    simp only [fMax1, ints1, i, Option.bind_some, maxL, Option.map_some, hm]
  · have := h1 (x : Int) (List.mem_cons_of_mem _ (List.mem_map.2 ⟨x, hx, rfl⟩))
    omega
  · rw [hm] at h2
    rcases List.mem_cons.1 h2 with h | h
    · omega
    · obtain ⟨y, hy, e⟩ := List.mem_map.1 h
      have := hb y hy
      omega
theorem rep_flat' (n : Nat) (x : D) : (List.replicate n [x]).flatten = List.replicate n x := by
  induction n with
  | zero => rfl
  | succ n ih => rw [List.replicate_succ, List.flatten_cons, ih]; rfl
theorem asked_loop {h e n : Nat} (hh : h ≤ 100) (hn : n ≤ 5000) (s0 s2 s3 s4 s6 s7 s8 s9 s10 : Sl) : ∃ x6, forF (gN 6) b__law_is_bucket_due_0 (rangeD 0 (n + 1)) [s0, .val (bk h e), s2, s3, s4, .val (.lst []), s6, s7, s8, s9, s10] = .ok (.nx [s0, .val (bk h e), s2, s3, s4, .val (.lst ((askS h n).map nI)), x6, s7, s8, s9, s10]) := by
  have g0 : gIx (bk h e) (.int 0) = some (nI h) := Mi.mo9.1 _ _
  have h6 := r62_of (show (0 : Int) ≤ (h : Int) by omega) (by omega)
  have th : (h : Int).toNat = h := Int.toNat_natCast h
  have r1 : r62 1 = true := by decide
  have t1 : (1 : Int).toNat = 1 := rfl
  obtain ⟨e', l, x6, l5, hx, rfl⟩ := for_rng (G := gN 6) (b := b__law_is_bucket_due_0) (lo := 0) (n := n + 1) (e := [s0, .val (bk h e), s2, s3, s4, .val (.lst []), s6, s7, s8, s9, s10]) (fun k en => ∃ (x6 : Sl) (l : List D), (k = 0 ∧ l = [] ∨ 0 < k ∧ l = (askS h (k - 1)).map nI) ∧ en = [s0, .val (bk h e), s2, s3, s4, .val (.lst l), x6, s7, s8, s9, s10]) ⟨s6, [], .inl ⟨rfl, rfl⟩, rfl⟩ fun j en hj ⟨x6, l, hl, he⟩ => by
    subst he
    rw [show (0 : Int) + (j : Int) = (j : Int) by omega]
    refine ⟨_, [s0, .val (bk h e), s2, s3, s4, .val (.lst ((askS h j).map nI)), .val (nI j), s7, s8, s9, s10], rfl, ?_, .val (nI j), (askS h j).map nI, .inr ⟨by omega, by rw [Nat.add_sub_cancel]⟩, rfl⟩
    rcases hl with ⟨rfl, rfl⟩ | ⟨j0, rfl⟩
    · have k1 : decide (((0 : Nat) : Int) = 0) = true := by decide
      have e1 : (askS h 0).map nI = List.replicate h (.int ((0 : Nat) : Int)) := by
        unfold askS
        rw [List.range_zero, List.map_nil, List.append_nil, List.map_replicate]
      have fl := rep_flat' h (.int ((0 : Nat) : Int))
      have le : 1 * h ≤ 16777216 := by omega
      have le2 : 0 + (List.replicate h (D.int ((0 : Nat) : Int))).length ≤ 16777216 := by rw [List.length_replicate]; omega
      rw [e1, show nI 0 = .int ((0 : Nat) : Int) from rfl]
      generalize ((0 : Nat) : Int) = zz at *
      generalize bk h e = b at *
      unfold b__law_is_bucket_due_0
      as_aux_lemma =>
        simp only [seq_ap, Mi.mi0, Mi.mi1, Mi.mi2, Mi.mi3, Mi.mi4, Mi.mi5, Mi.mo0, Mi.mo1, Mi.mo2, Mi.mo3, Mi.mo8, Bool.false_eq_true, Mi.mo9, Nat.reduceAdd, Nat.reduceSub, Nat.reduceLeDiff, Nat.reduceLT, Nat.reduceEqDiff, Mi.mt0, List.getElem?_cons_zero, List.getElem?_cons_succ, List.set_cons_zero, List.set_cons_succ, List.map_cons, List.map_nil, List.length_cons, List.length_nil, List.nil_append, List.cons_append, List.append_nil, List.replicate_succ, List.replicate_zero, lim_v, reduceIte, decide_true, decide_false, Bool.not_true, Bool.not_false, Option.bind_some, Mi.lst_no, Mi.par2, Mi.par3, eq_self, and_self, Mi.mi6, Mi.mi7, Mi.mi8, Mi.mi9, Option.map_some, k1, g0, h6, th, fl, le, le2, and_self]
    · have k1 : decide ((j : Int) = 0) = false := decide_eq_false (by omega)
      have e1 : (askS h j).map nI = (askS h (j - 1)).map nI ++ [nI j] := by
        obtain ⟨i, rfl⟩ : ∃ i, j = i + 1 := ⟨j - 1, by omega⟩
        rw [askS_succ, List.map_append, Nat.add_sub_cancel]
        rfl
      have le2 : ((askS h (j - 1)).map nI).length + 1 ≤ 16777216 := by
        rw [List.length_map, askS_len]
        omega
      rw [e1]
      generalize (askS h (j - 1)).map nI = l at *
      generalize bk h e = b at *
      unfold b__law_is_bucket_due_0
      as_aux_lemma =>
        simp only [seq_ap, Mi.mi0, Mi.mi1, Mi.mi2, Mi.mi3, Mi.mi4, Mi.mi5, Mi.mo0, Mi.mo1, Mi.mo2, Mi.mo3, Mi.mo8, Bool.false_eq_true, Mi.mo9, Nat.reduceAdd, Nat.reduceSub, Nat.reduceLeDiff, Nat.reduceLT, Nat.reduceEqDiff, Mi.mt0, List.getElem?_cons_zero, List.getElem?_cons_succ, List.set_cons_zero, List.set_cons_succ, List.map_cons, List.map_nil, List.length_cons, List.length_nil, List.nil_append, List.cons_append, List.append_nil, List.replicate_succ, List.replicate_zero, lim_v, reduceIte, decide_true, decide_false, Bool.not_true, Bool.not_false, Option.bind_some, Mi.lst_no, Mi.par2, Mi.par3, eq_self, and_self, Mi.mi6, Mi.mi7, Mi.mi8, Mi.mi9, Option.map_some, k1, r1, t1, le2, List.flatten_cons, List.flatten_nil, Nat.reduceMul, true_and, and_self]
  rcases hx with ⟨z, _⟩ | ⟨_, rfl⟩
  · omega
  · rw [Nat.add_sub_cancel] at l
    exact ⟨x6, l⟩
theorem lc_bools {t : FT} {f : FE} {vs : List Nat} {e0 : En} {i : Nat} (ht : ∀ b : Bool, t (e0.set i (.val (bD b))) = .ok (b, e0.set i (.val (bD b)))) (hf : ∀ b : Bool, f (e0.set i (.val (bD b))) = .ok (bD b, e0.set i (.val (bD b)))) (hw : ∀ b : Bool, wipeE (e0.set i (.val (bD b))) vs = e0) (fs : List Bool) :
    lcF vs (gN i) t f (fs.map bD) e0 = .ok ((fs.filter fun b => b).map bD, e0) :=
  lcF_list bD (fun b => b) bD fs fun b _ => ⟨_, rfl, ht b, fun _ => hf b, hw b⟩
theorem bucket_due_ok {h e : Nat} (o : BkOk h e) (h100 : h ≤ 100) (ms : List Int) : ∃ ms', F__law_is_bucket_due ms [bk h e] = .ok (.bl true, ms') := by
  obtain ⟨w, m1, h1, i1⟩ := pick_int ms (xs := [1, 4, 20]) (by simp)
  have w0 : 0 < w ∧ w ≤ 100 := by
    simp only [List.mem_cons, List.mem_nil_iff, or_false] at i1
    rcases i1 with rfl | rfl | rfl <;> omega
  obtain ⟨xs, m2, h2, xl, xp, xb⟩ := seconds_ok m1 (most := 12) (wide := w) (by omega) (by omega) w0.1 w0.2
  obtain ⟨mx, h3, mb, m2000⟩ := max_nats xb
  change (intsOf (.int 0 :: xs.map nI)).bind (fun ns => Option.map D.int (maxL ns)) = some (.int (mx : Int)) at h3
  obtain ⟨r, m4, h4, r0, r1⟩ := take_ok m2 (b := 40) (by omega)
  obtain ⟨r, rfl⟩ : ∃ n : Nat, r = (n : Int) := ⟨r.toNat, by omega⟩
  have e0 := o.e0
  have h0 := o.h0
  have row : Row xs := ⟨by omega, xp, fun x hx => by have := xb x hx; omega⟩
  have allb : ∀ x ∈ xs, x ≤ mx + r := fun x hx => by have := mb x hx; omega
  have w1 := law_drops_eq o (xs := xs) (n := mx + r) (by omega) (by omega) xp
  unfold gto at w1
  rw [filter_all allb] at w1
  have w2 := told1_ok (bk h e) .non .non .non _ (is_bucket_eq o)
  have w3 := told7_ok (bk h e) (.lst (xs.map nI)) .non .non _ (bucket_heard_eq o row)
  have lastb : (grun h e xs).2.2 ≤ mx + r := last_le _ _ allb (Nat.zero_le _)
  have w4 := told9_ok (bk h e) (.lst (xs.map nI)) (nI (mx + r)) .non _ (drops_at_eq o row (t := mx + r) (by omega) allb lastb)
  have gl := (foldl_inv (gstep h e) (GP h xs) xs 0 ([], h, 0) gp_zero fun j x s hx hp => by
    rw [Nat.zero_add] at hp ⊢
    exact gp_step row hx hp).1
  change (grun h e xs).1.length = _ at gl
  have s1 : F__law_same 4 [.lst [.bl true, .lst ((grun h e xs).1.map bD), nI (gfill h e (grun h e xs) (mx + r))], .lst [.bl true, .lst ((grun h e xs).1.map bD), nI (gfill h e (grun h e xs) (mx + r))]] = .ok (.bl true) := same_self 3 _ (pl_list (fun x hx => by
    simp only [List.mem_cons, List.mem_nil_iff, or_false] at hx
    rcases hx with rfl | rfl | rfl
    · exact pl_flat trivial
    · exact pl_bools (by omega)
    · exact pl_flat trivial) (by simp))
  have e1 : (mx : Int) + (r : Int) = ((mx + r : Nat) : Int) := rfl
  obtain ⟨x6, l1⟩ := asked_loop (h := h) (e := e) (n := mx + r) h100 (by omega) (.brw (m4.map D.int)) (.val (.lst (xs.map nI))) (.val (nI (mx + r))) (.val (.lst [.bl true, .lst ((grun h e xs).1.map bD), nI (gfill h e (grun h e xs) (mx + r))])) .un .un (.val (.lst ((grun h e xs).1.map bD))) (.val (nI (gfill h e (grun h e xs) (mx + r)))) .un
  have w5 := law_drops_eq o (xs := askS h (mx + r)) (n := mx + r) (by rw [askS_len]; omega) (by omega) (askS_p _ _)
  unfold gto at w5
  rw [filter_all askS_b] at w5
  obtain ⟨f, hf1, hf2⟩ := ask_run (h := h) (e := e) (by omega) (by omega) (mx + r)
  rw [hf1] at w5
  have fl : f.length ≤ 3000 := by
    have row2 : Row (askS h (mx + r)) := ⟨by rw [askS_len]; omega, askS_p _ _, fun x hx => by have := askS_b x hx; omega⟩
    have := (foldl_inv (gstep h e) (GP h (askS h (mx + r))) (askS h (mx + r)) 0 ([], h, 0) gp_zero fun j x s hx hp => by
      rw [Nat.zero_add] at hp ⊢
      exact gp_step row2 hx hp).1
    change (grun h e (askS h (mx + r))).1.length = _ at this
    rw [hf1, askS_len] at this
    have : f.length = 0 + (h + (mx + r)) := this
    omega
  have w6 := told8_ok (bk h e) (nI (mx + r)) .non .non _ (most_from_eq o (t := mx + r) (by omega))
  rw [← hf2] at w6
  have lc : ((f.filter fun b => b).map bD).length = cnt f := by rw [List.length_map]; rfl
  rw [← lc] at w6
  have le : ((f.filter fun b => b).map bD).length ≤ 16777216 := by
    rw [List.length_map]
    have := List.length_filter_le (fun b => b) f
    omega
  have s2 : F__law_same 4 [nI ((f.filter fun b => b).map bD).length, nI ((f.filter fun b => b).map bD).length] = .ok (.bl true) := same_self 3 _ (pl_flat trivial)
  have r6 := r62_of (show (0 : Int) ≤ ((mx + r : Nat) : Int) + 1 by omega) (by omega)
  have tn : (((mx + r : Nat) : Int) + 1).toNat = mx + r + 1 := by omega
  have io := intsOf_map
  have lx : 1 + (xs.map nI).length ≤ 16777216 := by rw [List.length_map]; omega
  simp only [List.map_cons, List.map_nil] at h1
  unfold F__law_is_bucket_due
  refine runB_of ?_
  change RtB _ [.brw (ms.map D.int), .val (bk h e), .un, .un, .un, .un, .un, .un, .un, .un, .un] _ _
  unfold m__law_is_bucket_due
  generalize mx + r = n at *
  have l2 := lc_bools (t := t__law_is_bucket_due_0) (f := f__law_is_bucket_due_1) (vs := [10]) (i := 10) (e0 := [.brw (m4.map D.int), .val (bk h e), .val (.lst (xs.map nI)), .val (nI n), .val (.lst [.bl true, .lst ((grun h e xs).1.map bD), nI (gfill h e (grun h e xs) n)]), .val (.lst ((askS h n).map nI)), x6, .un, .val (.lst ((grun h e xs).1.map bD)), .val (nI (gfill h e (grun h e xs) n)), .un]) (fun b => rfl) (fun b => rfl) (fun b => rfl) f
  generalize (f.filter fun b => b).map bD = z1 at *
  generalize f.map bD = z2 at *
  generalize (grun h e xs).1.map bD = z3 at *
  generalize gfill h e (grun h e xs) n = z4 at *
  generalize gfill h e (f, 0, n) n = z5 at *
  generalize (askS h n).map nI = z6 at *
  generalize xs.map nI = z7 at *
  generalize bk h e = b at *
  generalize F__law_same 4 = qs at *
  generalize F__law_take = q0 at *
  generalize F__law_pick = q1 at *
  generalize F__law_seconds = q2 at *
  generalize F__law_told = q3 at *
  generalize F__law_drops = q4 at *
  generalize f__law_is_bucket_due_1 = q5 at *
  generalize t__law_is_bucket_due_0 = q6 at *
  generalize b__law_is_bucket_due_0 = q7 at *
  refine RtB.seq (Go.of (e' := [.brw (m2.map D.int), .val b, .val (.lst z7), .un, .un, .un, .un, .un, .un, .un, .un]) ?_ ?_)
  · as_aux_lemma =>
      simp only [seq_ap, Mi.mi0, Mi.mi1, Mi.mi2, Mi.mi3, Mi.mi4, Mi.mi5, Mi.mo0, Mi.mo1, Mi.mo2, Mi.mo3, Mi.mo8, Bool.false_eq_true, Mi.mo9, Nat.reduceAdd, Nat.reduceSub, Nat.reduceLeDiff, Nat.reduceLT, Nat.reduceEqDiff, Mi.mt0, List.getElem?_cons_zero, List.getElem?_cons_succ, List.set_cons_zero, List.set_cons_succ, List.map_cons, List.map_nil, List.length_cons, List.length_nil, List.nil_append, List.cons_append, List.append_nil, List.replicate_succ, List.replicate_zero, lim_v, reduceIte, decide_true, decide_false, Bool.not_true, Bool.not_false, Option.bind_some, Mi.lst_no, Mi.par2, Mi.par3, eq_self, and_self, Mi.mi6, Mi.mi7, Mi.mi8, Mi.mi9, Option.map_some, eCallB, io, h1, h2, Sl.turn]
  refine RtB.seq (Go.of (e' := [.brw (m4.map D.int), .val b, .val (.lst z7), .val (nI n), .un, .un, .un, .un, .un, .un, .un]) ?_ ?_)
  · as_aux_lemma =>
      simp only [seq_ap, Mi.mi0, Mi.mi1, Mi.mi2, Mi.mi3, Mi.mi4, Mi.mi5, Mi.mo0, Mi.mo1, Mi.mo2, Mi.mo3, Mi.mo8, Bool.false_eq_true, Mi.mo9, Nat.reduceAdd, Nat.reduceSub, Nat.reduceLeDiff, Nat.reduceLT, Nat.reduceEqDiff, Mi.mt0, List.getElem?_cons_zero, List.getElem?_cons_succ, List.set_cons_zero, List.set_cons_succ, List.map_cons, List.map_nil, List.length_cons, List.length_nil, List.nil_append, List.cons_append, List.append_nil, List.replicate_succ, List.replicate_zero, lim_v, reduceIte, decide_true, decide_false, Bool.not_true, Bool.not_false, Option.bind_some, Mi.lst_no, Mi.par2, Mi.par3, eq_self, and_self, Mi.mi6, Mi.mi7, Mi.mi8, Mi.mi9, Option.map_some, eCallB, io, h3, h4, lx, e1, Sl.turn]
  refine RtB.seq (Go.of (e' := [.brw (m4.map D.int), .val b, .val (.lst z7), .val (nI n), .un, .un, .un, .un, .val (.lst z3), .val (nI z4), .un]) ?_ ?_)
  · as_aux_lemma =>
      simp only [seq_ap, Mi.mi0, Mi.mi1, Mi.mi2, Mi.mi3, Mi.mi4, Mi.mi5, Mi.mo0, Mi.mo1, Mi.mo2, Mi.mo3, Mi.mo8, Bool.false_eq_true, Mi.mo9, Nat.reduceAdd, Nat.reduceSub, Nat.reduceLeDiff, Nat.reduceLT, Nat.reduceEqDiff, Mi.mt0, List.getElem?_cons_zero, List.getElem?_cons_succ, List.set_cons_zero, List.set_cons_succ, List.map_cons, List.map_nil, List.length_cons, List.length_nil, List.nil_append, List.cons_append, List.append_nil, List.replicate_succ, List.replicate_zero, lim_v, reduceIte, decide_true, decide_false, Bool.not_true, Bool.not_false, Option.bind_some, Mi.lst_no, Mi.par2, Mi.par3, eq_self, and_self, Mi.mi6, Mi.mi7, Mi.mi8, Mi.mi9, Option.map_some, w1]
  refine RtB.seq (Go.of (e' := [.brw (m4.map D.int), .val b, .val (.lst z7), .val (nI n), .val (.lst [.bl true, .lst z3, nI z4]), .un, .un, .un, .val (.lst z3), .val (nI z4), .un]) ?_ ?_)
  · as_aux_lemma =>
      simp only [seq_ap, Mi.mi0, Mi.mi1, Mi.mi2, Mi.mi3, Mi.mi4, Mi.mi5, Mi.mo0, Mi.mo1, Mi.mo2, Mi.mo3, Mi.mo8, Bool.false_eq_true, Mi.mo9, Nat.reduceAdd, Nat.reduceSub, Nat.reduceLeDiff, Nat.reduceLT, Nat.reduceEqDiff, Mi.mt0, List.getElem?_cons_zero, List.getElem?_cons_succ, List.set_cons_zero, List.set_cons_succ, List.map_cons, List.map_nil, List.length_cons, List.length_nil, List.nil_append, List.cons_append, List.append_nil, List.replicate_succ, List.replicate_zero, lim_v, reduceIte, decide_true, decide_false, Bool.not_true, Bool.not_false, Option.bind_some, Mi.lst_no, Mi.par2, Mi.par3, eq_self, and_self, Mi.mi6, Mi.mi7, Mi.mi8, Mi.mi9, Option.map_some, w2, w3, w4]
  refine RtB.seq (Go.ifF (e1 := [.brw (m4.map D.int), .val b, .val (.lst z7), .val (nI n), .val (.lst [.bl true, .lst z3, nI z4]), .un, .un, .un, .val (.lst z3), .val (nI z4), .un]) ?_ (Go.nx ?_))
  · as_aux_lemma =>
      simp only [seq_ap, Mi.mi0, Mi.mi1, Mi.mi2, Mi.mi3, Mi.mi4, Mi.mi5, Mi.mo0, Mi.mo1, Mi.mo2, Mi.mo3, Mi.mo8, Bool.false_eq_true, Mi.mo9, Nat.reduceAdd, Nat.reduceSub, Nat.reduceLeDiff, Nat.reduceLT, Nat.reduceEqDiff, Mi.mt0, List.getElem?_cons_zero, List.getElem?_cons_succ, List.set_cons_zero, List.set_cons_succ, List.map_cons, List.map_nil, List.length_cons, List.length_nil, List.nil_append, List.cons_append, List.append_nil, List.replicate_succ, List.replicate_zero, lim_v, reduceIte, decide_true, decide_false, Bool.not_true, Bool.not_false, Option.bind_some, Mi.lst_no, Mi.par2, Mi.par3, eq_self, and_self, Mi.mi6, Mi.mi7, Mi.mi8, Mi.mi9, Option.map_some, s1]
  refine RtB.seq (Go.of (e' := [.brw (m4.map D.int), .val b, .val (.lst z7), .val (nI n), .val (.lst [.bl true, .lst z3, nI z4]), .val (.lst []), .un, .un, .val (.lst z3), .val (nI z4), .un]) ?_ ?_)
  · as_aux_lemma =>
      simp only [seq_ap, Mi.mi0, Mi.mi1, Mi.mi2, Mi.mi3, Mi.mi4, Mi.mi5, Mi.mo0, Mi.mo1, Mi.mo2, Mi.mo3, Mi.mo8, Bool.false_eq_true, Mi.mo9, Nat.reduceAdd, Nat.reduceSub, Nat.reduceLeDiff, Nat.reduceLT, Nat.reduceEqDiff, Mi.mt0, List.getElem?_cons_zero, List.getElem?_cons_succ, List.set_cons_zero, List.set_cons_succ, List.map_cons, List.map_nil, List.length_cons, List.length_nil, List.nil_append, List.cons_append, List.append_nil, List.replicate_succ, List.replicate_zero, lim_v, reduceIte, decide_true, decide_false, Bool.not_true, Bool.not_false, Option.bind_some, Mi.lst_no, Mi.par2, Mi.par3, eq_self, and_self, Mi.mi6, Mi.mi7, Mi.mi8, Mi.mi9, Option.map_some]
  refine RtB.seq (Go.of (e' := [.brw (m4.map D.int), .val b, .val (.lst z7), .val (nI n), .val (.lst [.bl true, .lst z3, nI z4]), .val (.lst z6), x6, .un, .val (.lst z3), .val (nI z4), .un]) ?_ ?_)
  · as_aux_lemma =>
      simp only [seq_ap, Mi.mi0, Mi.mi1, Mi.mi2, Mi.mi3, Mi.mi4, Mi.mi5, Mi.mo0, Mi.mo1, Mi.mo2, Mi.mo3, Mi.mo8, Bool.false_eq_true, Mi.mo9, Nat.reduceAdd, Nat.reduceSub, Nat.reduceLeDiff, Nat.reduceLT, Nat.reduceEqDiff, Mi.mt0, List.getElem?_cons_zero, List.getElem?_cons_succ, List.set_cons_zero, List.set_cons_succ, List.map_cons, List.map_nil, List.length_cons, List.length_nil, List.nil_append, List.cons_append, List.append_nil, List.replicate_succ, List.replicate_zero, lim_v, reduceIte, decide_true, decide_false, Bool.not_true, Bool.not_false, Option.bind_some, Mi.lst_no, Mi.par2, Mi.par3, eq_self, and_self, Mi.mi6, Mi.mi7, Mi.mi8, Mi.mi9, Option.map_some, r6, tn, l1]
  refine RtB.seq (Go.of (e' := [.brw (m4.map D.int), .val b, .val (.lst z7), .val (nI n), .val (.lst [.bl true, .lst z3, nI z4]), .val (.lst z6), x6, .val (nI z1.length), .val (.lst z3), .val (nI z4), .un]) ?_ ?_)
  · as_aux_lemma =>
      simp only [seq_ap, Mi.mi0, Mi.mi1, Mi.mi2, Mi.mi3, Mi.mi4, Mi.mi5, Mi.mo0, Mi.mo1, Mi.mo2, Mi.mo3, Mi.mo8, Bool.false_eq_true, Mi.mo9, Nat.reduceAdd, Nat.reduceSub, Nat.reduceLeDiff, Nat.reduceLT, Nat.reduceEqDiff, Mi.mt0, List.getElem?_cons_zero, List.getElem?_cons_succ, List.set_cons_zero, List.set_cons_succ, List.map_cons, List.map_nil, List.length_cons, List.length_nil, List.nil_append, List.cons_append, List.append_nil, List.replicate_succ, List.replicate_zero, lim_v, reduceIte, decide_true, decide_false, Bool.not_true, Bool.not_false, Option.bind_some, Mi.lst_no, Mi.par2, Mi.par3, eq_self, and_self, Mi.mi6, Mi.mi7, Mi.mi8, Mi.mi9, Option.map_some, nLc, wipeE, okW, resE, w5, l2, le, List.all_cons, List.all_nil, Bool.and_true, Option.getD_some, and_self]
  refine RtB.of (e' := [.brw (m4.map D.int), .val b, .val (.lst z7), .val (nI n), .val (.lst [.bl true, .lst z3, nI z4]), .val (.lst z6), x6, .val (nI z1.length), .val (.lst z3), .val (nI z4), .un]) ?_ ⟨m4, rfl⟩
  as_aux_lemma =>
    simp only [seq_ap, Mi.mi0, Mi.mi1, Mi.mi2, Mi.mi3, Mi.mi4, Mi.mi5, Mi.mo0, Mi.mo1, Mi.mo2, Mi.mo3, Mi.mo8, Bool.false_eq_true, Mi.mo9, Nat.reduceAdd, Nat.reduceSub, Nat.reduceLeDiff, Nat.reduceLT, Nat.reduceEqDiff, Mi.mt0, List.getElem?_cons_zero, List.getElem?_cons_succ, List.set_cons_zero, List.set_cons_succ, List.map_cons, List.map_nil, List.length_cons, List.length_nil, List.nil_append, List.cons_append, List.append_nil, List.replicate_succ, List.replicate_zero, lim_v, reduceIte, decide_true, decide_false, Bool.not_true, Bool.not_false, Option.bind_some, Mi.lst_no, Mi.par2, Mi.par3, eq_self, and_self, Mi.mi6, Mi.mi7, Mi.mi8, Mi.mi9, Option.map_some, w6, s2]
end Lw
namespace Lw
open Mi
/-! ### what is refused -/
theorem within_gen (v lo hi : Int) : F_is_within [.int v, .int lo, .int hi] = .ok (.bl (decide (lo ≤ v) && decide (v ≤ hi))) := by
  by_cases c1 : lo ≤ v
  · have k1 := decide_eq_true c1
    simp only [F_is_within, runA, m_is_within, seq_ap, Mi.mi0, Mi.mi1, Mi.mi2, Mi.mi3, Mi.mi4, Mi.mi5, Mi.mo0, Mi.mo1, Mi.mo2, Mi.mo3, Mi.mo8, Bool.false_eq_true, Mi.mo9, Nat.reduceAdd, Nat.reduceSub, Nat.reduceLeDiff, Nat.reduceLT, Nat.reduceEqDiff, Mi.mt0, List.getElem?_cons_zero, List.getElem?_cons_succ, List.set_cons_zero, List.set_cons_succ, List.map_cons, List.map_nil, List.length_cons, List.length_nil, List.nil_append, List.cons_append, List.append_nil, List.replicate_succ, List.replicate_zero, lim_v, reduceIte, decide_true, decide_false, Bool.not_true, Bool.not_false, Option.bind_some, Mi.lst_no, Mi.par2, Mi.par3, eq_self, and_self, Mi.mi6, Mi.mi7, Mi.mi8, Mi.mi9, Option.map_some, is_integer_int, k1, Bool.true_and]
  · have k1 := decide_eq_false c1
    simp only [F_is_within, runA, m_is_within, seq_ap, Mi.mi0, Mi.mi1, Mi.mi2, Mi.mi3, Mi.mi4, Mi.mi5, Mi.mo0, Mi.mo1, Mi.mo2, Mi.mo3, Mi.mo8, Bool.false_eq_true, Mi.mo9, Nat.reduceAdd, Nat.reduceSub, Nat.reduceLeDiff, Nat.reduceLT, Nat.reduceEqDiff, Mi.mt0, List.getElem?_cons_zero, List.getElem?_cons_succ, List.set_cons_zero, List.set_cons_succ, List.map_cons, List.map_nil, List.length_cons, List.length_nil, List.nil_append, List.cons_append, List.append_nil, List.replicate_succ, List.replicate_zero, lim_v, reduceIte, decide_true, decide_false, Bool.not_true, Bool.not_false, Option.bind_some, Mi.lst_no, Mi.par2, Mi.par3, eq_self, and_self, Mi.mi6, Mi.mi7, Mi.mi8, Mi.mi9, Option.map_some, is_integer_int, k1, Bool.false_and]
theorem int_no_bl (b : Bool) : F_is_integer [.bl b] = .ok (.bl false) := by
  unfold F_is_integer
  rfl
theorem int_no_non : F_is_integer [.non] = .ok (.bl false) := by
  unfold F_is_integer
  rfl
theorem int_no_str (x : PySem.Str) : F_is_integer [.str x] = .ok (.bl false) := by
  unfold F_is_integer
  rfl
theorem within_no {d : D} (h : F_is_integer [d] = .ok (.bl false)) (lo hi : D) : F_is_within [d, lo, hi] = .ok (.bl false) := by
  unfold F_is_within m_is_within
  generalize F_is_integer = q0 at *
  as_aux_lemma =>
    simp only [runA, seq_ap, Mi.mi0, Mi.mi1, Mi.mi2, Mi.mi3, Mi.mi4, Mi.mi5, Mi.mo0, Mi.mo1, Mi.mo2, Mi.mo3, Mi.mo8, Bool.false_eq_true, Mi.mo9, Nat.reduceAdd, Nat.reduceSub, Nat.reduceLeDiff, Nat.reduceLT, Nat.reduceEqDiff, Mi.mt0, List.getElem?_cons_zero, List.getElem?_cons_succ, List.set_cons_zero, List.set_cons_succ, List.map_cons, List.map_nil, List.length_cons, List.length_nil, List.nil_append, List.cons_append, List.append_nil, List.replicate_succ, List.replicate_zero, lim_v, reduceIte, decide_true, decide_false, Bool.not_true, Bool.not_false, Option.bind_some, Mi.lst_no, Mi.par2, Mi.par3, eq_self, and_self, Mi.mi6, Mi.mi7, Mi.mi8, Mi.mi9, Option.map_some, h]
theorem count_no {d : D} (h : F_is_integer [d] = .ok (.bl false)) : F_is_count [d] = .ok (.bl false) := by
  unfold F_is_count m_is_count
  generalize F_is_integer = q0 at *
  as_aux_lemma =>
    simp only [runA, seq_ap, Mi.mi0, Mi.mi1, Mi.mi2, Mi.mi3, Mi.mi4, Mi.mi5, Mi.mo0, Mi.mo1, Mi.mo2, Mi.mo3, Mi.mo8, Bool.false_eq_true, Mi.mo9, Nat.reduceAdd, Nat.reduceSub, Nat.reduceLeDiff, Nat.reduceLT, Nat.reduceEqDiff, Mi.mt0, List.getElem?_cons_zero, List.getElem?_cons_succ, List.set_cons_zero, List.set_cons_succ, List.map_cons, List.map_nil, List.length_cons, List.length_nil, List.nil_append, List.cons_append, List.append_nil, List.replicate_succ, List.replicate_zero, lim_v, reduceIte, decide_true, decide_false, Bool.not_true, Bool.not_false, Option.bind_some, Mi.lst_no, Mi.par2, Mi.par3, eq_self, and_self, Mi.mi6, Mi.mi7, Mi.mi8, Mi.mi9, Option.map_some, h]
theorem count_neg : F_is_count [.int (-1)] = .ok (.bl false) := by
  have h := is_integer_int (-1)
  have k : decide ((0 : Int) ≤ -1) = false := by decide
  unfold F_is_count m_is_count
  generalize F_is_integer = q0 at *
  as_aux_lemma =>
    simp only [runA, seq_ap, Mi.mi0, Mi.mi1, Mi.mi2, Mi.mi3, Mi.mi4, Mi.mi5, Mi.mo0, Mi.mo1, Mi.mo2, Mi.mo3, Mi.mo8, Bool.false_eq_true, Mi.mo9, Nat.reduceAdd, Nat.reduceSub, Nat.reduceLeDiff, Nat.reduceLT, Nat.reduceEqDiff, Mi.mt0, List.getElem?_cons_zero, List.getElem?_cons_succ, List.set_cons_zero, List.set_cons_succ, List.map_cons, List.map_nil, List.length_cons, List.length_nil, List.nil_append, List.cons_append, List.append_nil, List.replicate_succ, List.replicate_zero, lim_v, reduceIte, decide_true, decide_false, Bool.not_true, Bool.not_false, Option.bind_some, Mi.lst_no, Mi.par2, Mi.par3, eq_self, and_self, Mi.mi6, Mi.mi7, Mi.mi8, Mi.mi9, Option.map_some, h, k]
/-- states that are none -/
def wrongs (c : Nat) : List D := [.non, .lst [.int 0, .int 0, .bl false], .tup [.int 0, .int 0], .tup [.int (-1), .int 0, .bl false], .tup [.int ((c : Int) + 1), .int 0, .bl true], .tup [.int 0, .int (-1), .bl false], .tup [.int 0, .int 0, .bl true],
  .tup [.int c, .int 0, .bl false], .tup [.int 0, .int 0, .int 0], .tup [.bl true, .int 0, .bl false]]
theorem state_by_no {a b c d : Nat} (o : LkOk a b c d) {w : D} (hw : w ∈ wrongs c) : F_is_state_by [lk a b c d, w] = .ok (.bl false) := by
  have g := gIx_lk2 a b c d
  have c0 := o.c0
  have cn := count_neg
  have c00 : F_is_count [.int 0] = .ok (.bl true) := is_count_nat 0
  have w1 := within_gen (-1) 0 (c : Int)
  have w2 := within_gen ((c : Int) + 1) 0 (c : Int)
  have w3 := within_gen 0 0 (c : Int)
  have w4 := within_gen (c : Int) 0 (c : Int)
  have w5 := within_no (int_no_bl true) (.int 0) (.int (c : Int))
  rw [show (decide ((0 : Int) ≤ -1) && decide ((-1 : Int) ≤ (c : Int))) = false from rfl] at w1
  rw [show (decide ((0 : Int) ≤ (c : Int) + 1) && decide ((c : Int) + 1 ≤ (c : Int))) = false by rw [decide_eq_false (show ¬ (c : Int) + 1 ≤ (c : Int) by omega), Bool.and_false]] at w2
  rw [decide_eq_true (show (0 : Int) ≤ 0 by omega), decide_eq_true (show (0 : Int) ≤ (c : Int) by omega), Bool.and_self] at w3
  rw [decide_eq_true (show (0 : Int) ≤ (c : Int) by omega), decide_eq_true (show (c : Int) ≤ (c : Int) by omega), Bool.and_self] at w4
  have k1 : decide ((0 : Int) = (c : Int)) = false := decide_eq_false (by omega)
  have k2 : decide (false = true) = false := rfl
  have k3 : decide (true = false) = false := rfl
  have k4 : decide ((2 : Int) = 3) = false := rfl
  unfold F_is_state_by m_is_state_by
  generalize lk a b c d = lo at *
  generalize F_is_within = q0 at *
  generalize F_is_count = q1 at *
  simp only [wrongs, List.mem_cons, List.mem_nil_iff, or_false] at hw
  rcases hw with rfl | rfl | rfl | rfl | rfl | rfl | rfl | rfl | rfl | rfl
  · as_aux_lemma =>
      simp only [runA, seq_ap, Mi.mi0, Mi.mi1, Mi.mi2, Mi.mi3, Mi.mi4, Mi.mi5, Mi.mo0, Mi.mo1, Mi.mo2, Mi.mo3, Mi.mo8, Bool.false_eq_true, Mi.mo9, Nat.reduceAdd, Nat.reduceSub, Nat.reduceLeDiff, Nat.reduceLT, Nat.reduceEqDiff, Mi.mt0, List.getElem?_cons_zero, List.getElem?_cons_succ, List.set_cons_zero, List.set_cons_succ, List.map_cons, List.map_nil, List.length_cons, List.length_nil, List.nil_append, List.cons_append, List.append_nil, List.replicate_succ, List.replicate_zero, lim_v, reduceIte, decide_true, decide_false, Bool.not_true, Bool.not_false, Option.bind_some, Mi.lst_no, Mi.par2, Mi.par3, eq_self, and_self, Mi.mi6, Mi.mi7, Mi.mi8, Mi.mi9, Option.map_some, g]
  · as_aux_lemma =>
      simp only [runA, seq_ap, Mi.mi0, Mi.mi1, Mi.mi2, Mi.mi3, Mi.mi4, Mi.mi5, Mi.mo0, Mi.mo1, Mi.mo2, Mi.mo3, Mi.mo8, Bool.false_eq_true, Mi.mo9, Nat.reduceAdd, Nat.reduceSub, Nat.reduceLeDiff, Nat.reduceLT, Nat.reduceEqDiff, Mi.mt0, List.getElem?_cons_zero, List.getElem?_cons_succ, List.set_cons_zero, List.set_cons_succ, List.map_cons, List.map_nil, List.length_cons, List.length_nil, List.nil_append, List.cons_append, List.append_nil, List.replicate_succ, List.replicate_zero, lim_v, reduceIte, decide_true, decide_false, Bool.not_true, Bool.not_false, Option.bind_some, Mi.lst_no, Mi.par2, Mi.par3, eq_self, and_self, Mi.mi6, Mi.mi7, Mi.mi8, Mi.mi9, Option.map_some, g]
  · as_aux_lemma =>
      simp only [runA, seq_ap, Mi.mi0, Mi.mi1, Mi.mi2, Mi.mi3, Mi.mi4, Mi.mi5, Mi.mo0, Mi.mo1, Mi.mo2, Mi.mo3, Mi.mo8, Bool.false_eq_true, Mi.mo9, Nat.reduceAdd, Nat.reduceSub, Nat.reduceLeDiff, Nat.reduceLT, Nat.reduceEqDiff, Mi.mt0, List.getElem?_cons_zero, List.getElem?_cons_succ, List.set_cons_zero, List.set_cons_succ, List.map_cons, List.map_nil, List.length_cons, List.length_nil, List.nil_append, List.cons_append, List.append_nil, List.replicate_succ, List.replicate_zero, lim_v, reduceIte, decide_true, decide_false, Bool.not_true, Bool.not_false, Option.bind_some, Mi.lst_no, Mi.par2, Mi.par3, eq_self, and_self, Mi.mi6, Mi.mi7, Mi.mi8, Mi.mi9, Option.map_some, g, k4]
  · as_aux_lemma =>
      simp only [runA, seq_ap, Mi.mi0, Mi.mi1, Mi.mi2, Mi.mi3, Mi.mi4, Mi.mi5, Mi.mo0, Mi.mo1, Mi.mo2, Mi.mo3, Mi.mo8, Bool.false_eq_true, Mi.mo9, Nat.reduceAdd, Nat.reduceSub, Nat.reduceLeDiff, Nat.reduceLT, Nat.reduceEqDiff, Mi.mt0, List.getElem?_cons_zero, List.getElem?_cons_succ, List.set_cons_zero, List.set_cons_succ, List.map_cons, List.map_nil, List.length_cons, List.length_nil, List.nil_append, List.cons_append, List.append_nil, List.replicate_succ, List.replicate_zero, lim_v, reduceIte, decide_true, decide_false, Bool.not_true, Bool.not_false, Option.bind_some, Mi.lst_no, Mi.par2, Mi.par3, eq_self, and_self, Mi.mi6, Mi.mi7, Mi.mi8, Mi.mi9, Option.map_some, g, w1]
  · as_aux_lemma =>
      simp only [runA, seq_ap, Mi.mi0, Mi.mi1, Mi.mi2, Mi.mi3, Mi.mi4, Mi.mi5, Mi.mo0, Mi.mo1, Mi.mo2, Mi.mo3, Mi.mo8, Bool.false_eq_true, Mi.mo9, Nat.reduceAdd, Nat.reduceSub, Nat.reduceLeDiff, Nat.reduceLT, Nat.reduceEqDiff, Mi.mt0, List.getElem?_cons_zero, List.getElem?_cons_succ, List.set_cons_zero, List.set_cons_succ, List.map_cons, List.map_nil, List.length_cons, List.length_nil, List.nil_append, List.cons_append, List.append_nil, List.replicate_succ, List.replicate_zero, lim_v, reduceIte, decide_true, decide_false, Bool.not_true, Bool.not_false, Option.bind_some, Mi.lst_no, Mi.par2, Mi.par3, eq_self, and_self, Mi.mi6, Mi.mi7, Mi.mi8, Mi.mi9, Option.map_some, g, w2]
  · as_aux_lemma =>
      simp only [runA, seq_ap, Mi.mi0, Mi.mi1, Mi.mi2, Mi.mi3, Mi.mi4, Mi.mi5, Mi.mo0, Mi.mo1, Mi.mo2, Mi.mo3, Mi.mo8, Bool.false_eq_true, Mi.mo9, Nat.reduceAdd, Nat.reduceSub, Nat.reduceLeDiff, Nat.reduceLT, Nat.reduceEqDiff, Mi.mt0, List.getElem?_cons_zero, List.getElem?_cons_succ, List.set_cons_zero, List.set_cons_succ, List.map_cons, List.map_nil, List.length_cons, List.length_nil, List.nil_append, List.cons_append, List.append_nil, List.replicate_succ, List.replicate_zero, lim_v, reduceIte, decide_true, decide_false, Bool.not_true, Bool.not_false, Option.bind_some, Mi.lst_no, Mi.par2, Mi.par3, eq_self, and_self, Mi.mi6, Mi.mi7, Mi.mi8, Mi.mi9, Option.map_some, g, w3, cn]
  · as_aux_lemma =>
      simp only [runA, seq_ap, Mi.mi0, Mi.mi1, Mi.mi2, Mi.mi3, Mi.mi4, Mi.mi5, Mi.mo0, Mi.mo1, Mi.mo2, Mi.mo3, Mi.mo8, Bool.false_eq_true, Mi.mo9, Nat.reduceAdd, Nat.reduceSub, Nat.reduceLeDiff, Nat.reduceLT, Nat.reduceEqDiff, Mi.mt0, List.getElem?_cons_zero, List.getElem?_cons_succ, List.set_cons_zero, List.set_cons_succ, List.map_cons, List.map_nil, List.length_cons, List.length_nil, List.nil_append, List.cons_append, List.append_nil, List.replicate_succ, List.replicate_zero, lim_v, reduceIte, decide_true, decide_false, Bool.not_true, Bool.not_false, Option.bind_some, Mi.lst_no, Mi.par2, Mi.par3, eq_self, and_self, Mi.mi6, Mi.mi7, Mi.mi8, Mi.mi9, Option.map_some, g, w3, c00, k1, k3]
  · as_aux_lemma =>
      simp only [runA, seq_ap, Mi.mi0, Mi.mi1, Mi.mi2, Mi.mi3, Mi.mi4, Mi.mi5, Mi.mo0, Mi.mo1, Mi.mo2, Mi.mo3, Mi.mo8, Bool.false_eq_true, Mi.mo9, Nat.reduceAdd, Nat.reduceSub, Nat.reduceLeDiff, Nat.reduceLT, Nat.reduceEqDiff, Mi.mt0, List.getElem?_cons_zero, List.getElem?_cons_succ, List.set_cons_zero, List.set_cons_succ, List.map_cons, List.map_nil, List.length_cons, List.length_nil, List.nil_append, List.cons_append, List.append_nil, List.replicate_succ, List.replicate_zero, lim_v, reduceIte, decide_true, decide_false, Bool.not_true, Bool.not_false, Option.bind_some, Mi.lst_no, Mi.par2, Mi.par3, eq_self, and_self, Mi.mi6, Mi.mi7, Mi.mi8, Mi.mi9, Option.map_some, g, w4, c00, k2]
  · as_aux_lemma =>
      simp only [runA, seq_ap, Mi.mi0, Mi.mi1, Mi.mi2, Mi.mi3, Mi.mi4, Mi.mi5, Mi.mo0, Mi.mo1, Mi.mo2, Mi.mo3, Mi.mo8, Bool.false_eq_true, Mi.mo9, Nat.reduceAdd, Nat.reduceSub, Nat.reduceLeDiff, Nat.reduceLT, Nat.reduceEqDiff, Mi.mt0, List.getElem?_cons_zero, List.getElem?_cons_succ, List.set_cons_zero, List.set_cons_succ, List.map_cons, List.map_nil, List.length_cons, List.length_nil, List.nil_append, List.cons_append, List.append_nil, List.replicate_succ, List.replicate_zero, lim_v, reduceIte, decide_true, decide_false, Bool.not_true, Bool.not_false, Option.bind_some, Mi.lst_no, Mi.par2, Mi.par3, eq_self, and_self, Mi.mi6, Mi.mi7, Mi.mi8, Mi.mi9, Option.map_some, g, w3, c00]
  · as_aux_lemma =>
      simp only [runA, seq_ap, Mi.mi0, Mi.mi1, Mi.mi2, Mi.mi3, Mi.mi4, Mi.mi5, Mi.mo0, Mi.mo1, Mi.mo2, Mi.mo3, Mi.mo8, Bool.false_eq_true, Mi.mo9, Nat.reduceAdd, Nat.reduceSub, Nat.reduceLeDiff, Nat.reduceLT, Nat.reduceEqDiff, Mi.mt0, List.getElem?_cons_zero, List.getElem?_cons_succ, List.set_cons_zero, List.set_cons_succ, List.map_cons, List.map_nil, List.length_cons, List.length_nil, List.nil_append, List.cons_append, List.append_nil, List.replicate_succ, List.replicate_zero, lim_v, reduceIte, decide_true, decide_false, Bool.not_true, Bool.not_false, Option.bind_some, Mi.lst_no, Mi.par2, Mi.par3, eq_self, and_self, Mi.mi6, Mi.mi7, Mi.mi8, Mi.mi9, Option.map_some, g, w5]
theorem state_no {a b c d : Nat} (o : LkOk a b c d) {w : D} (hw : w ∈ wrongs c) : F_is_state [lk a b c d, w] = .ok (.bl false) := by
  have w0 := check_lock_eq o
  have w1 := state_by_no o hw
  clear hw
  unfold F_is_state m_is_state
  generalize lk a b c d = l at *
  generalize F_check_lock = q0 at *
  generalize F_is_state_by = q1 at *
  as_aux_lemma =>
    simp only [runA, seq_ap, Mi.mi0, Mi.mi1, Mi.mi2, Mi.mi3, Mi.mi4, Mi.mi5, Mi.mo0, Mi.mo1, Mi.mo2, Mi.mo3, Mi.mo8, Bool.false_eq_true, Mi.mo9, Nat.reduceAdd, Nat.reduceSub, Nat.reduceLeDiff, Nat.reduceLT, Nat.reduceEqDiff, Mi.mt0, List.getElem?_cons_zero, List.getElem?_cons_succ, List.set_cons_zero, List.set_cons_succ, List.map_cons, List.map_nil, List.length_cons, List.length_nil, List.nil_append, List.cons_append, List.append_nil, List.replicate_succ, List.replicate_zero, lim_v, reduceIte, decide_true, decide_false, Bool.not_true, Bool.not_false, Option.bind_some, Mi.lst_no, Mi.par2, Mi.par3, eq_self, and_self, Mi.mi6, Mi.mi7, Mi.mi8, Mi.mi9, Option.map_some, w0, w1]
theorem tried_no1 {a b c d : Nat} (o : LkOk a b c d) {w : D} (hw : w ∈ wrongs c) (x y : D) : F_tried [lk a b c d, w, x, y] = .exc "NotRight" [] := by
  have w0 := check_lock_eq o
  have w1 := state_by_no o hw
  have w2 := check_false
  clear hw
  unfold F_tried m_tried
  generalize lk a b c d = l at *
  generalize F_check_lock = q0 at *
  generalize F_is_state_by = q1 at *
  generalize F_check = q2 at *
  as_aux_lemma =>
    simp only [runA, seq_ap, Mi.mi0, Mi.mi1, Mi.mi2, Mi.mi3, Mi.mi4, Mi.mi5, Mi.mo0, Mi.mo1, Mi.mo2, Mi.mo3, Mi.mo8, Bool.false_eq_true, Mi.mo9, Nat.reduceAdd, Nat.reduceSub, Nat.reduceLeDiff, Nat.reduceLT, Nat.reduceEqDiff, Mi.mt0, List.getElem?_cons_zero, List.getElem?_cons_succ, List.set_cons_zero, List.set_cons_succ, List.map_cons, List.map_nil, List.length_cons, List.length_nil, List.nil_append, List.cons_append, List.append_nil, List.replicate_succ, List.replicate_zero, lim_v, reduceIte, decide_true, decide_false, Bool.not_true, Bool.not_false, Option.bind_some, Mi.lst_no, Mi.par2, Mi.par3, eq_self, and_self, Mi.mi6, Mi.mi7, Mi.mi8, Mi.mi9, Option.map_some, w0, w1, w2]
theorem tried_no2 {a b c d : Nat} (o : LkOk a b c d) {s : D} (hs : F_is_count [s] = .ok (.bl false)) (y : D) : F_tried [lk a b c d, .tup [.int 0, .int 0, .bl false], s, y] = .exc "NotRight" [] := by
  have w0 := check_lock_eq o
  have w1 := is_state_eq (a := a) (b := b) (c := c) (d := d) (s := (0, 0)) (Nat.zero_le _)
  have st0 : stD c (0, 0) = .tup [.int 0, .int 0, .bl (decide (0 = c))] := rfl
  have cz : decide (0 = c) = false := decide_eq_false (by have := o.c0; omega)
  rw [st0, cz] at w1
  have w2 := check_false
  have w3 := check_true
  unfold F_tried m_tried
  generalize lk a b c d = l at *
  generalize F_check_lock = q0 at *
  generalize F_is_state_by = q1 at *
  generalize F_check = q2 at *
  generalize F_is_count = q3 at *
  as_aux_lemma =>
    simp only [runA, seq_ap, Mi.mi0, Mi.mi1, Mi.mi2, Mi.mi3, Mi.mi4, Mi.mi5, Mi.mo0, Mi.mo1, Mi.mo2, Mi.mo3, Mi.mo8, Bool.false_eq_true, Mi.mo9, Nat.reduceAdd, Nat.reduceSub, Nat.reduceLeDiff, Nat.reduceLT, Nat.reduceEqDiff, Mi.mt0, List.getElem?_cons_zero, List.getElem?_cons_succ, List.set_cons_zero, List.set_cons_succ, List.map_cons, List.map_nil, List.length_cons, List.length_nil, List.nil_append, List.cons_append, List.append_nil, List.replicate_succ, List.replicate_zero, lim_v, reduceIte, decide_true, decide_false, Bool.not_true, Bool.not_false, Option.bind_some, Mi.lst_no, Mi.par2, Mi.par3, eq_self, and_self, Mi.mi6, Mi.mi7, Mi.mi8, Mi.mi9, Option.map_some, w0, w1, w2, w3, hs]
theorem most_tries_no {a b c d : Nat} (o : LkOk a b c d) {s : D} (hs : F_is_count [s] = .ok (.bl false)) : F_most_tries [lk a b c d, s] = .exc "NotRight" [] := by
  have w0 := check_lock_eq o
  have w2 := check_false
  unfold F_most_tries m_most_tries
  generalize lk a b c d = l at *
  generalize F_check_lock = q0 at *
  generalize F_check = q1 at *
  generalize F_is_count = q2 at *
  as_aux_lemma =>
    simp only [runA, seq_ap, Mi.mi0, Mi.mi1, Mi.mi2, Mi.mi3, Mi.mi4, Mi.mi5, Mi.mo0, Mi.mo1, Mi.mo2, Mi.mo3, Mi.mo8, Bool.false_eq_true, Mi.mo9, Nat.reduceAdd, Nat.reduceSub, Nat.reduceLeDiff, Nat.reduceLT, Nat.reduceEqDiff, Mi.mt0, List.getElem?_cons_zero, List.getElem?_cons_succ, List.set_cons_zero, List.set_cons_succ, List.map_cons, List.map_nil, List.length_cons, List.length_nil, List.nil_append, List.cons_append, List.append_nil, List.replicate_succ, List.replicate_zero, lim_v, reduceIte, decide_true, decide_false, Bool.not_true, Bool.not_false, Option.bind_some, Mi.lst_no, Mi.par2, Mi.par3, eq_self, and_self, Mi.mi6, Mi.mi7, Mi.mi8, Mi.mi9, Option.map_some, w0, w2, hs]
theorem time_for_no {a b c d : Nat} (o : LkOk a b c d) {s : D} (hs : F_is_count [s] = .ok (.bl false)) : F_time_for [lk a b c d, s] = .exc "NotRight" [] := by
  have w0 := check_lock_eq o
  have w2 := check_false
  unfold F_time_for m_time_for
  generalize lk a b c d = l at *
  generalize F_check_lock = q0 at *
  generalize F_check = q1 at *
  generalize F_is_count = q2 at *
  as_aux_lemma =>
    simp only [runA, seq_ap, Mi.mi0, Mi.mi1, Mi.mi2, Mi.mi3, Mi.mi4, Mi.mi5, Mi.mo0, Mi.mo1, Mi.mo2, Mi.mo3, Mi.mo8, Bool.false_eq_true, Mi.mo9, Nat.reduceAdd, Nat.reduceSub, Nat.reduceLeDiff, Nat.reduceLT, Nat.reduceEqDiff, Mi.mt0, List.getElem?_cons_zero, List.getElem?_cons_succ, List.set_cons_zero, List.set_cons_succ, List.map_cons, List.map_nil, List.length_cons, List.length_nil, List.nil_append, List.cons_append, List.append_nil, List.replicate_succ, List.replicate_zero, lim_v, reduceIte, decide_true, decide_false, Bool.not_true, Bool.not_false, Option.bind_some, Mi.lst_no, Mi.par2, Mi.par3, eq_self, and_self, Mi.mi6, Mi.mi7, Mi.mi8, Mi.mi9, Option.map_some, w0, w2, hs]
theorem most_from_no {h e : Nat} (o : BkOk h e) {s : D} (hs : F_is_count [s] = .ok (.bl false)) : F_most_from [bk h e, s] = .exc "NotRight" [] := by
  have w0 := check_bucket_eq o
  have w2 := check_false
  unfold F_most_from m_most_from
  generalize bk h e = l at *
  generalize F_check_bucket = q0 at *
  generalize F_check = q1 at *
  generalize F_is_count = q2 at *
  as_aux_lemma =>
    simp only [runA, seq_ap, Mi.mi0, Mi.mi1, Mi.mi2, Mi.mi3, Mi.mi4, Mi.mi5, Mi.mo0, Mi.mo1, Mi.mo2, Mi.mo3, Mi.mo8, Bool.false_eq_true, Mi.mo9, Nat.reduceAdd, Nat.reduceSub, Nat.reduceLeDiff, Nat.reduceLT, Nat.reduceEqDiff, Mi.mt0, List.getElem?_cons_zero, List.getElem?_cons_succ, List.set_cons_zero, List.set_cons_succ, List.map_cons, List.map_nil, List.length_cons, List.length_nil, List.nil_append, List.cons_append, List.append_nil, List.replicate_succ, List.replicate_zero, lim_v, reduceIte, decide_true, decide_false, Bool.not_true, Bool.not_false, Option.bind_some, Mi.lst_no, Mi.par2, Mi.par3, eq_self, and_self, Mi.mi6, Mi.mi7, Mi.mi8, Mi.mi9, Option.map_some, w0, w2, hs]
theorem wait_of_no {a b c d : Nat} (o : LkOk a b c d) {k : D} (hk : F_is_within [k, .int 0, .int ((c : Int) - 1)] = .ok (.bl false)) : F_wait_of [lk a b c d, k] = .exc "NotRight" [] := by
  have w0 := check_lock_eq o
  have w2 := check_false
  have g := gIx_lk2 a b c d
  unfold F_wait_of m_wait_of
  generalize lk a b c d = l at *
  generalize F_check_lock = q0 at *
  generalize F_check = q1 at *
  generalize F_is_within = q2 at *
  as_aux_lemma =>
    simp only [runA, seq_ap, Mi.mi0, Mi.mi1, Mi.mi2, Mi.mi3, Mi.mi4, Mi.mi5, Mi.mo0, Mi.mo1, Mi.mo2, Mi.mo3, Mi.mo8, Bool.false_eq_true, Mi.mo9, Nat.reduceAdd, Nat.reduceSub, Nat.reduceLeDiff, Nat.reduceLT, Nat.reduceEqDiff, Mi.mt0, List.getElem?_cons_zero, List.getElem?_cons_succ, List.set_cons_zero, List.set_cons_succ, List.map_cons, List.map_nil, List.length_cons, List.length_nil, List.nil_append, List.cons_append, List.append_nil, List.replicate_succ, List.replicate_zero, lim_v, reduceIte, decide_true, decide_false, Bool.not_true, Bool.not_false, Option.bind_some, Mi.lst_no, Mi.par2, Mi.par3, eq_self, and_self, Mi.mi6, Mi.mi7, Mi.mi8, Mi.mi9, Option.map_some, w0, w2, hk, g]
/-! ### rows of tries that are none -/
theorem heard_no1 {a b c d : Nat} (o : LkOk a b c d) {r : D} (hr : fIs [r, .ty "list"] = some (.bl false)) : F_heard [lk a b c d, r] = .exc "NotRight" [] := by
  have w0 := check_lock_eq o
  have w2 := check_false
  unfold F_heard m_heard
  generalize lk a b c d = l at *
  generalize F_check_lock = q0 at *
  generalize F_check = q1 at *
  as_aux_lemma =>
    simp only [runA, seq_ap, Mi.mi0, Mi.mi1, Mi.mi2, Mi.mi3, Mi.mi4, Mi.mi5, Mi.mo0, Mi.mo1, Mi.mo2, Mi.mo3, Mi.mo8, Bool.false_eq_true, Mi.mo9, Nat.reduceAdd, Nat.reduceSub, Nat.reduceLeDiff, Nat.reduceLT, Nat.reduceEqDiff, Mi.mt0, List.getElem?_cons_zero, List.getElem?_cons_succ, List.set_cons_zero, List.set_cons_succ, List.map_cons, List.map_nil, List.length_cons, List.length_nil, List.nil_append, List.cons_append, List.append_nil, List.replicate_succ, List.replicate_zero, lim_v, reduceIte, decide_true, decide_false, Bool.not_true, Bool.not_false, Option.bind_some, Mi.lst_no, Mi.par2, Mi.par3, eq_self, and_self, Mi.mi6, Mi.mi7, Mi.mi8, Mi.mi9, Option.map_some, w0, w2, hr]
theorem heard_no2 {a b c d : Nat} (o : LkOk a b c d) {x : D} (hx : F_is_try [x] = .ok (.bl false)) : F_heard [lk a b c d, .lst [x]] = .exc "NotRight" [] := by
  have w0 := check_lock_eq o
  have w2 := check_false
  have fa : fAll [.lst [.bl false]] = some (.bl false) := rfl
  unfold F_heard m_heard f_heard_0
  generalize lk a b c d = l at *
  generalize F_check_lock = q0 at *
  generalize F_check = q1 at *
  generalize F_is_try = q2 at *
  as_aux_lemma =>
    simp only [runA, seq_ap, Mi.mi0, Mi.mi1, Mi.mi2, Mi.mi3, Mi.mi4, Mi.mi5, Mi.mo0, Mi.mo1, Mi.mo2, Mi.mo3, Mi.mo8, Bool.false_eq_true, Mi.mo9, Nat.reduceAdd, Nat.reduceSub, Nat.reduceLeDiff, Nat.reduceLT, Nat.reduceEqDiff, Mi.mt0, List.getElem?_cons_zero, List.getElem?_cons_succ, List.set_cons_zero, List.set_cons_succ, List.map_cons, List.map_nil, List.length_cons, List.length_nil, List.nil_append, List.cons_append, List.append_nil, List.replicate_succ, List.replicate_zero, lim_v, reduceIte, decide_true, decide_false, Bool.not_true, Bool.not_false, Option.bind_some, Mi.lst_no, Mi.par2, Mi.par3, eq_self, and_self, Mi.mi6, Mi.mi7, Mi.mi8, Mi.mi9, Option.map_some, w0, w2, hx, fa, nLc, lcF, tYes1, wipeE, okW, resE, List.all_cons, List.all_nil, Bool.and_true, Option.getD_some, Option.getD_none, and_self]
theorem heard_no3 {a b c d : Nat} (o : LkOk a b c d) : F_heard [lk a b c d, .lst [.tup [.int 5, .bl true], .tup [.int 4, .bl true]]] = .exc "NotRight" [] := by
  have w0 := check_lock_eq o
  have w2 := check_false
  have t5 : F_is_try [.tup [.int 5, .bl true]] = .ok (.bl true) := is_try_eq (5, true)
  have t4 : F_is_try [.tup [.int 4, .bl true]] = .ok (.bl true) := is_try_eq (4, true)
  have so : F_is_sorted [.lst [.int 5, .int 4]] = .ok (.bl false) := is_sorted_eq (ns := [5, 4]) (by decide)
  have fa : fAll [.lst [.bl true, .bl true]] = some (.bl true) := rfl
  unfold F_heard m_heard f_heard_0 f_heard_1
  generalize lk a b c d = l at *
  generalize F_check_lock = q0 at *
  generalize F_check = q1 at *
  generalize F_is_try = q2 at *
  generalize F_is_sorted = q3 at *
  as_aux_lemma =>
    simp only [runA, seq_ap, Mi.mi0, Mi.mi1, Mi.mi2, Mi.mi3, Mi.mi4, Mi.mi5, Mi.mo0, Mi.mo1, Mi.mo2, Mi.mo3, Mi.mo8, Bool.false_eq_true, Mi.mo9, Nat.reduceAdd, Nat.reduceSub, Nat.reduceLeDiff, Nat.reduceLT, Nat.reduceEqDiff, Mi.mt0, List.getElem?_cons_zero, List.getElem?_cons_succ, List.set_cons_zero, List.set_cons_succ, List.map_cons, List.map_nil, List.length_cons, List.length_nil, List.nil_append, List.cons_append, List.append_nil, List.replicate_succ, List.replicate_zero, lim_v, reduceIte, decide_true, decide_false, Bool.not_true, Bool.not_false, Option.bind_some, Mi.lst_no, Mi.par2, Mi.par3, eq_self, and_self, Mi.mi6, Mi.mi7, Mi.mi8, Mi.mi9, Option.map_some, w0, w2, t5, t4, so, fa, nLc, lcF, tYes1, wipeE, okW, resE, List.all_cons, List.all_nil, Bool.and_true, Option.getD_some, Option.getD_none, and_self]
/-! ### buckets -/
theorem bucket_heard_no {h e : Nat} (o : BkOk h e) {r : D} (hr : F_check_tries [r] = .exc "NotRight" []) : F_bucket_heard [bk h e, r] = .exc "NotRight" [] := by
  have w0 := check_bucket_eq o
  unfold F_bucket_heard m_bucket_heard
  generalize bk h e = l at *
  generalize F_check_bucket = q0 at *
  generalize F_check_tries = q1 at *
  as_aux_lemma =>
    simp only [runA, seq_ap, Mi.mi0, Mi.mi1, Mi.mi2, Mi.mi3, Mi.mi4, Mi.mi5, Mi.mo0, Mi.mo1, Mi.mo2, Mi.mo3, Mi.mo8, Bool.false_eq_true, Mi.mo9, Nat.reduceAdd, Nat.reduceSub, Nat.reduceLeDiff, Nat.reduceLT, Nat.reduceEqDiff, Mi.mt0, List.getElem?_cons_zero, List.getElem?_cons_succ, List.set_cons_zero, List.set_cons_succ, List.map_cons, List.map_nil, List.length_cons, List.length_nil, List.nil_append, List.cons_append, List.append_nil, List.replicate_succ, List.replicate_zero, lim_v, reduceIte, decide_true, decide_false, Bool.not_true, Bool.not_false, Option.bind_some, Mi.lst_no, Mi.par2, Mi.par3, eq_self, and_self, Mi.mi6, Mi.mi7, Mi.mi8, Mi.mi9, Option.map_some, w0, hr]
theorem drops_at_no1 {h e : Nat} (o : BkOk h e) {r : D} (hr : F_check_tries [r] = .exc "NotRight" []) (x : D) : F_drops_at [bk h e, r, x] = .exc "NotRight" [] := by
  have w0 := check_bucket_eq o
  unfold F_drops_at m_drops_at
  generalize bk h e = l at *
  generalize F_check_bucket = q0 at *
  generalize F_check_tries = q1 at *
  as_aux_lemma =>
    simp only [runA, seq_ap, Mi.mi0, Mi.mi1, Mi.mi2, Mi.mi3, Mi.mi4, Mi.mi5, Mi.mo0, Mi.mo1, Mi.mo2, Mi.mo3, Mi.mo8, Bool.false_eq_true, Mi.mo9, Nat.reduceAdd, Nat.reduceSub, Nat.reduceLeDiff, Nat.reduceLT, Nat.reduceEqDiff, Mi.mt0, List.getElem?_cons_zero, List.getElem?_cons_succ, List.set_cons_zero, List.set_cons_succ, List.map_cons, List.map_nil, List.length_cons, List.length_nil, List.nil_append, List.cons_append, List.append_nil, List.replicate_succ, List.replicate_zero, lim_v, reduceIte, decide_true, decide_false, Bool.not_true, Bool.not_false, Option.bind_some, Mi.lst_no, Mi.par2, Mi.par3, eq_self, and_self, Mi.mi6, Mi.mi7, Mi.mi8, Mi.mi9, Option.map_some, w0, hr]
theorem drops_at_no2 {h e : Nat} (o : BkOk h e) : F_drops_at [bk h e, .lst [.int 5], .int 4] = .exc "NotRight" [] := by
  have w0 := check_bucket_eq o
  have w1 : F_check_tries [.lst [.int 5]] = .ok .non := check_tries_eq (ns := [5]) ⟨by decide, List.pairwise_singleton _ _, by intro x hx; rw [List.mem_singleton] at hx; omega⟩
  have w2 : F_is_count [.int 4] = .ok (.bl true) := is_count_nat 4
  have w3 := check_false
  have fa : fAll [.lst [.bl false]] = some (.bl false) := rfl
  have k : decide ((5 : Int) ≤ 4) = false := by decide
  unfold F_drops_at m_drops_at f_drops_at_0
  generalize bk h e = l at *
  generalize F_check_bucket = q0 at *
  generalize F_check_tries = q1 at *
  generalize F_is_count = q2 at *
  generalize F_check = q3 at *
  as_aux_lemma =>
    simp only [runA, seq_ap, Mi.mi0, Mi.mi1, Mi.mi2, Mi.mi3, Mi.mi4, Mi.mi5, Mi.mo0, Mi.mo1, Mi.mo2, Mi.mo3, Mi.mo8, Bool.false_eq_true, Mi.mo9, Nat.reduceAdd, Nat.reduceSub, Nat.reduceLeDiff, Nat.reduceLT, Nat.reduceEqDiff, Mi.mt0, List.getElem?_cons_zero, List.getElem?_cons_succ, List.set_cons_zero, List.set_cons_succ, List.map_cons, List.map_nil, List.length_cons, List.length_nil, List.nil_append, List.cons_append, List.append_nil, List.replicate_succ, List.replicate_zero, lim_v, reduceIte, decide_true, decide_false, Bool.not_true, Bool.not_false, Option.bind_some, Mi.lst_no, Mi.par2, Mi.par3, eq_self, and_self, Mi.mi6, Mi.mi7, Mi.mi8, Mi.mi9, Option.map_some, w0, w1, w2, w3, fa, k, nLc, lcF, tYes1, wipeE, okW, resE, List.all_cons, List.all_nil, Bool.and_true, Option.getD_some, Option.getD_none, and_self]
theorem drops_at_no3 {h e : Nat} (o : BkOk h e) {s : D} (hs : F_is_count [s] = .ok (.bl false)) : F_drops_at [bk h e, .lst [], s] = .exc "NotRight" [] := by
  have w0 := check_bucket_eq o
  have w1 : F_check_tries [.lst []] = .ok .non := check_tries_eq (ns := []) ⟨by decide, List.Pairwise.nil, by simp⟩
  have w3 := check_false
  unfold F_drops_at m_drops_at
  generalize bk h e = l at *
  generalize F_check_bucket = q0 at *
  generalize F_check_tries = q1 at *
  generalize F_is_count = q2 at *
  generalize F_check = q3 at *
  as_aux_lemma =>
    simp only [runA, seq_ap, Mi.mi0, Mi.mi1, Mi.mi2, Mi.mi3, Mi.mi4, Mi.mi5, Mi.mo0, Mi.mo1, Mi.mo2, Mi.mo3, Mi.mo8, Bool.false_eq_true, Mi.mo9, Nat.reduceAdd, Nat.reduceSub, Nat.reduceLeDiff, Nat.reduceLT, Nat.reduceEqDiff, Mi.mt0, List.getElem?_cons_zero, List.getElem?_cons_succ, List.set_cons_zero, List.set_cons_succ, List.map_cons, List.map_nil, List.length_cons, List.length_nil, List.nil_append, List.cons_append, List.append_nil, List.replicate_succ, List.replicate_zero, lim_v, reduceIte, decide_true, decide_false, Bool.not_true, Bool.not_false, Option.bind_some, Mi.lst_no, Mi.par2, Mi.par3, eq_self, and_self, Mi.mi6, Mi.mi7, Mi.mi8, Mi.mi9, Option.map_some, w0, w1, w3, hs]
def badRows : List D := [.non, .tup [.int 0], .lst [.int 1, .int 0], .lst [.int (-1)], .lst [.bl true], .lst [.str "0"]]
theorem badRows_no : ∀ r ∈ badRows, F_check_tries [r] = .exc "NotRight" [] := by
  intro r hr
  simp only [badRows, List.mem_cons, List.mem_nil_iff, or_false] at hr
  rcases hr with rfl | rfl | rfl | rfl | rfl | rfl <;> kernel_rfl
def badTries : List D := [.non, .tup [.tup [.int 0, .bl true]], .lst [.tup [.int 0]], .lst [.tup [.int 5, .bl true], .tup [.int 4, .bl true]], .lst [.tup [.int (-1), .bl true]], .lst [.tup [.int 0, .int 1]], .lst [.lst [.int 0, .bl true]]]
theorem badTries_no {a b c d : Nat} (o : LkOk a b c d) : ∀ r ∈ badTries, F_heard [lk a b c d, r] = .exc "NotRight" [] := by
  intro r hr
  simp only [badTries, List.mem_cons, List.mem_nil_iff, or_false] at hr
  rcases hr with rfl | rfl | rfl | rfl | rfl | rfl | rfl
  · exact heard_no1 o rfl
  · exact heard_no1 o rfl
  · exact heard_no2 o (by kernel_rfl)
  · exact heard_no3 o
  · exact heard_no2 o (by kernel_rfl)
  · exact heard_no2 o (by kernel_rfl)
  · exact heard_no2 o (by kernel_rfl)
def badSecs : List D := [.int (-1), .non, .bl true, .str "1"]
theorem badSecs_no : ∀ r ∈ badSecs, F_is_count [r] = .ok (.bl false) := by
  intro r hr
  simp only [badSecs, List.mem_cons, List.mem_nil_iff, or_false] at hr
  rcases hr with rfl | rfl | rfl | rfl
  · exact count_neg
  · exact count_no int_no_non
  · exact count_no (int_no_bl _)
  · exact count_no (int_no_str _)
/-! ### locks and buckets that are none -/
def badLocks : List D := [.non, .tup [], .lst [.int 2, .int 10, .int 6, .int 60], .tup [.int 2, .int 10, .int 6], .tup [.int (-1), .int 10, .int 6, .int 60], .tup [.int 21, .int 10, .int 30, .int 60], .tup [.int 2, .int 0, .int 6, .int 60], .tup [.int 2, .int 1001, .int 6, .int 9999],
  .tup [.int 2, .int 10, .int 2, .int 60], .tup [.int 2, .int 10, .int 201, .int 60], .tup [.int 2, .int 10, .int 6, .int 9], .tup [.int 2, .int 10, .int 6, .int 1000001], .tup [.bl true, .int 10, .int 6, .int 60]]
theorem badLocks_no : ∀ r ∈ badLocks, F_is_lock [r] = .ok (.bl false) := by
  intro r hr
  simp only [badLocks, List.mem_cons, List.mem_nil_iff, or_false] at hr
  rcases hr with rfl | rfl | rfl | rfl | rfl | rfl | rfl | rfl | rfl | rfl | rfl | rfl | rfl <;> kernel_rfl
def badBuckets : List D := [.non, .tup [.int 2], .lst [.int 2, .int 10], .tup [.int 0, .int 10], .tup [.int 1001, .int 10], .tup [.int 2, .int 0], .tup [.int 2, .int 100001], .tup [.bl true, .int 10]]
theorem badBuckets_no : ∀ r ∈ badBuckets, F_is_bucket [r] = .ok (.bl false) := by
  intro r hr
  simp only [badBuckets, List.mem_cons, List.mem_nil_iff, or_false] at hr
  rcases hr with rfl | rfl | rfl | rfl | rfl | rfl | rfl | rfl <;> kernel_rfl
theorem check_lock_no {l : D} (h : F_is_lock [l] = .ok (.bl false)) : F_check_lock [l] = .exc "NotRight" [] := by
  have w := check_false
  unfold F_check_lock m_check_lock
  generalize F_is_lock = q0 at *
  generalize F_check = q1 at *
  as_aux_lemma =>
    simp only [runA, seq_ap, Mi.mi0, Mi.mi1, Mi.mi2, Mi.mi3, Mi.mi4, Mi.mi5, Mi.mo0, Mi.mo1, Mi.mo2, Mi.mo3, Mi.mo8, Bool.false_eq_true, Mi.mo9, Nat.reduceAdd, Nat.reduceSub, Nat.reduceLeDiff, Nat.reduceLT, Nat.reduceEqDiff, Mi.mt0, List.getElem?_cons_zero, List.getElem?_cons_succ, List.set_cons_zero, List.set_cons_succ, List.map_cons, List.map_nil, List.length_cons, List.length_nil, List.nil_append, List.cons_append, List.append_nil, List.replicate_succ, List.replicate_zero, lim_v, reduceIte, decide_true, decide_false, Bool.not_true, Bool.not_false, Option.bind_some, Mi.lst_no, Mi.par2, Mi.par3, eq_self, and_self, Mi.mi6, Mi.mi7, Mi.mi8, Mi.mi9, Option.map_some, h, w]
theorem check_bucket_no {l : D} (h : F_is_bucket [l] = .ok (.bl false)) : F_check_bucket [l] = .exc "NotRight" [] := by
  have w := check_false
  unfold F_check_bucket m_check_bucket
  generalize F_is_bucket = q0 at *
  generalize F_check = q1 at *
  as_aux_lemma =>
    simp only [runA, seq_ap, Mi.mi0, Mi.mi1, Mi.mi2, Mi.mi3, Mi.mi4, Mi.mi5, Mi.mo0, Mi.mo1, Mi.mo2, Mi.mo3, Mi.mo8, Bool.false_eq_true, Mi.mo9, Nat.reduceAdd, Nat.reduceSub, Nat.reduceLeDiff, Nat.reduceLT, Nat.reduceEqDiff, Mi.mt0, List.getElem?_cons_zero, List.getElem?_cons_succ, List.set_cons_zero, List.set_cons_succ, List.map_cons, List.map_nil, List.length_cons, List.length_nil, List.nil_append, List.cons_append, List.append_nil, List.replicate_succ, List.replicate_zero, lim_v, reduceIte, decide_true, decide_false, Bool.not_true, Bool.not_false, Option.bind_some, Mi.lst_no, Mi.par2, Mi.par3, eq_self, and_self, Mi.mi6, Mi.mi7, Mi.mi8, Mi.mi9, Option.map_some, h, w]
theorem lock_first {l x y z : D} (h : F_check_lock [l] = .exc "NotRight" []) : F_is_state [l, x] = .exc "NotRight" [] ∧ F_wait_of [l, x] = .exc "NotRight" [] ∧ F_heard [l, x] = .exc "NotRight" [] ∧ F_most_tries [l, x] = .exc "NotRight" [] ∧ F_time_for [l, x] = .exc "NotRight" [] ∧ F_tried [l, x, y, z] = .exc "NotRight" [] := by
  unfold F_is_state m_is_state F_wait_of m_wait_of F_heard m_heard F_most_tries m_most_tries F_time_for m_time_for F_tried m_tried
  generalize F_check_lock = q0 at *
  refine ⟨?_, ?_, ?_, ?_, ?_, ?_⟩
  · as_aux_lemma =>
      simp only [runA, seq_ap, Mi.mi0, Mi.mi1, Mi.mi2, Mi.mi3, Mi.mi4, Mi.mi5, Mi.mo0, Mi.mo1, Mi.mo2, Mi.mo3, Mi.mo8, Bool.false_eq_true, Mi.mo9, Nat.reduceAdd, Nat.reduceSub, Nat.reduceLeDiff, Nat.reduceLT, Nat.reduceEqDiff, Mi.mt0, List.getElem?_cons_zero, List.getElem?_cons_succ, List.set_cons_zero, List.set_cons_succ, List.map_cons, List.map_nil, List.length_cons, List.length_nil, List.nil_append, List.cons_append, List.append_nil, List.replicate_succ, List.replicate_zero, lim_v, reduceIte, decide_true, decide_false, Bool.not_true, Bool.not_false, Option.bind_some, Mi.lst_no, Mi.par2, Mi.par3, eq_self, and_self, Mi.mi6, Mi.mi7, Mi.mi8, Mi.mi9, Option.map_some, h]
  · as_aux_lemma =>
      simp only [runA, seq_ap, Mi.mi0, Mi.mi1, Mi.mi2, Mi.mi3, Mi.mi4, Mi.mi5, Mi.mo0, Mi.mo1, Mi.mo2, Mi.mo3, Mi.mo8, Bool.false_eq_true, Mi.mo9, Nat.reduceAdd, Nat.reduceSub, Nat.reduceLeDiff, Nat.reduceLT, Nat.reduceEqDiff, Mi.mt0, List.getElem?_cons_zero, List.getElem?_cons_succ, List.set_cons_zero, List.set_cons_succ, List.map_cons, List.map_nil, List.length_cons, List.length_nil, List.nil_append, List.cons_append, List.append_nil, List.replicate_succ, List.replicate_zero, lim_v, reduceIte, decide_true, decide_false, Bool.not_true, Bool.not_false, Option.bind_some, Mi.lst_no, Mi.par2, Mi.par3, eq_self, and_self, Mi.mi6, Mi.mi7, Mi.mi8, Mi.mi9, Option.map_some, h]
  · as_aux_lemma =>
      simp only [runA, seq_ap, Mi.mi0, Mi.mi1, Mi.mi2, Mi.mi3, Mi.mi4, Mi.mi5, Mi.mo0, Mi.mo1, Mi.mo2, Mi.mo3, Mi.mo8, Bool.false_eq_true, Mi.mo9, Nat.reduceAdd, Nat.reduceSub, Nat.reduceLeDiff, Nat.reduceLT, Nat.reduceEqDiff, Mi.mt0, List.getElem?_cons_zero, List.getElem?_cons_succ, List.set_cons_zero, List.set_cons_succ, List.map_cons, List.map_nil, List.length_cons, List.length_nil, List.nil_append, List.cons_append, List.append_nil, List.replicate_succ, List.replicate_zero, lim_v, reduceIte, decide_true, decide_false, Bool.not_true, Bool.not_false, Option.bind_some, Mi.lst_no, Mi.par2, Mi.par3, eq_self, and_self, Mi.mi6, Mi.mi7, Mi.mi8, Mi.mi9, Option.map_some, h]
  · as_aux_lemma =>
      simp only [runA, seq_ap, Mi.mi0, Mi.mi1, Mi.mi2, Mi.mi3, Mi.mi4, Mi.mi5, Mi.mo0, Mi.mo1, Mi.mo2, Mi.mo3, Mi.mo8, Bool.false_eq_true, Mi.mo9, Nat.reduceAdd, Nat.reduceSub, Nat.reduceLeDiff, Nat.reduceLT, Nat.reduceEqDiff, Mi.mt0, List.getElem?_cons_zero, List.getElem?_cons_succ, List.set_cons_zero, List.set_cons_succ, List.map_cons, List.map_nil, List.length_cons, List.length_nil, List.nil_append, List.cons_append, List.append_nil, List.replicate_succ, List.replicate_zero, lim_v, reduceIte, decide_true, decide_false, Bool.not_true, Bool.not_false, Option.bind_some, Mi.lst_no, Mi.par2, Mi.par3, eq_self, and_self, Mi.mi6, Mi.mi7, Mi.mi8, Mi.mi9, Option.map_some, h]
  · as_aux_lemma =>
      simp only [runA, seq_ap, Mi.mi0, Mi.mi1, Mi.mi2, Mi.mi3, Mi.mi4, Mi.mi5, Mi.mo0, Mi.mo1, Mi.mo2, Mi.mo3, Mi.mo8, Bool.false_eq_true, Mi.mo9, Nat.reduceAdd, Nat.reduceSub, Nat.reduceLeDiff, Nat.reduceLT, Nat.reduceEqDiff, Mi.mt0, List.getElem?_cons_zero, List.getElem?_cons_succ, List.set_cons_zero, List.set_cons_succ, List.map_cons, List.map_nil, List.length_cons, List.length_nil, List.nil_append, List.cons_append, List.append_nil, List.replicate_succ, List.replicate_zero, lim_v, reduceIte, decide_true, decide_false, Bool.not_true, Bool.not_false, Option.bind_some, Mi.lst_no, Mi.par2, Mi.par3, eq_self, and_self, Mi.mi6, Mi.mi7, Mi.mi8, Mi.mi9, Option.map_some, h]
  · as_aux_lemma =>
      simp only [runA, seq_ap, Mi.mi0, Mi.mi1, Mi.mi2, Mi.mi3, Mi.mi4, Mi.mi5, Mi.mo0, Mi.mo1, Mi.mo2, Mi.mo3, Mi.mo8, Bool.false_eq_true, Mi.mo9, Nat.reduceAdd, Nat.reduceSub, Nat.reduceLeDiff, Nat.reduceLT, Nat.reduceEqDiff, Mi.mt0, List.getElem?_cons_zero, List.getElem?_cons_succ, List.set_cons_zero, List.set_cons_succ, List.map_cons, List.map_nil, List.length_cons, List.length_nil, List.nil_append, List.cons_append, List.append_nil, List.replicate_succ, List.replicate_zero, lim_v, reduceIte, decide_true, decide_false, Bool.not_true, Bool.not_false, Option.bind_some, Mi.lst_no, Mi.par2, Mi.par3, eq_self, and_self, Mi.mi6, Mi.mi7, Mi.mi8, Mi.mi9, Option.map_some, h]
theorem bucket_first {l x y : D} (h : F_check_bucket [l] = .exc "NotRight" []) : F_bucket_heard [l, x] = .exc "NotRight" [] ∧ F_most_from [l, x] = .exc "NotRight" [] ∧ F_drops_at [l, x, y] = .exc "NotRight" [] := by
  unfold F_bucket_heard m_bucket_heard F_most_from m_most_from F_drops_at m_drops_at
  generalize F_check_bucket = q0 at *
  refine ⟨?_, ?_, ?_⟩
  · as_aux_lemma =>
      simp only [runA, seq_ap, Mi.mi0, Mi.mi1, Mi.mi2, Mi.mi3, Mi.mi4, Mi.mi5, Mi.mo0, Mi.mo1, Mi.mo2, Mi.mo3, Mi.mo8, Bool.false_eq_true, Mi.mo9, Nat.reduceAdd, Nat.reduceSub, Nat.reduceLeDiff, Nat.reduceLT, Nat.reduceEqDiff, Mi.mt0, List.getElem?_cons_zero, List.getElem?_cons_succ, List.set_cons_zero, List.set_cons_succ, List.map_cons, List.map_nil, List.length_cons, List.length_nil, List.nil_append, List.cons_append, List.append_nil, List.replicate_succ, List.replicate_zero, lim_v, reduceIte, decide_true, decide_false, Bool.not_true, Bool.not_false, Option.bind_some, Mi.lst_no, Mi.par2, Mi.par3, eq_self, and_self, Mi.mi6, Mi.mi7, Mi.mi8, Mi.mi9, Option.map_some, h]
  · as_aux_lemma =>
      simp only [runA, seq_ap, Mi.mi0, Mi.mi1, Mi.mi2, Mi.mi3, Mi.mi4, Mi.mi5, Mi.mo0, Mi.mo1, Mi.mo2, Mi.mo3, Mi.mo8, Bool.false_eq_true, Mi.mo9, Nat.reduceAdd, Nat.reduceSub, Nat.reduceLeDiff, Nat.reduceLT, Nat.reduceEqDiff, Mi.mt0, List.getElem?_cons_zero, List.getElem?_cons_succ, List.set_cons_zero, List.set_cons_succ, List.map_cons, List.map_nil, List.length_cons, List.length_nil, List.nil_append, List.cons_append, List.append_nil, List.replicate_succ, List.replicate_zero, lim_v, reduceIte, decide_true, decide_false, Bool.not_true, Bool.not_false, Option.bind_some, Mi.lst_no, Mi.par2, Mi.par3, eq_self, and_self, Mi.mi6, Mi.mi7, Mi.mi8, Mi.mi9, Option.map_some, h]
  · as_aux_lemma =>
      simp only [runA, seq_ap, Mi.mi0, Mi.mi1, Mi.mi2, Mi.mi3, Mi.mi4, Mi.mi5, Mi.mo0, Mi.mo1, Mi.mo2, Mi.mo3, Mi.mo8, Bool.false_eq_true, Mi.mo9, Nat.reduceAdd, Nat.reduceSub, Nat.reduceLeDiff, Nat.reduceLT, Nat.reduceEqDiff, Mi.mt0, List.getElem?_cons_zero, List.getElem?_cons_succ, List.set_cons_zero, List.set_cons_succ, List.map_cons, List.map_nil, List.length_cons, List.length_nil, List.nil_append, List.cons_append, List.append_nil, List.replicate_succ, List.replicate_zero, lim_v, reduceIte, decide_true, decide_false, Bool.not_true, Bool.not_false, Option.bind_some, Mi.lst_no, Mi.par2, Mi.par3, eq_self, and_self, Mi.mi6, Mi.mi7, Mi.mi8, Mi.mi9, Option.map_some, h]
end Lw
set_option maxHeartbeats 4000000
namespace Lw
open Mi
abbrev nrD : D := .str "not right"
theorem nr_list (n : Nat) {L : List D} (h : ∀ d ∈ L, d = nrD) : Pq (n + 1) (.lst L) := fun d hd => by
  rw [h d hd]
  cases n <;> exact (by decide +kernel : PySem.PyData.strOk "not right" = true)
theorem rep_fl (x : D) : ∀ n, (List.replicate n [x]).flatten = List.replicate n x
  | 0 => rfl
  | n + 1 => by rw [List.replicate_succ, List.flatten_cons, rep_fl x n]; rfl
def Inv (s0 : Sl) (en : En) : Prop := ∃ (ms : List Int) (s2 s3 s4 s5 s6 s7 s8 s9 s10 s11 s12 : Sl), en = [s0, .own (ms.map D.int), s2, s3, s4, s5, s6, s7, s8, s9, s10, s11, s12, .un, .un, .un, .un]
theorem turn_ok {s0 : Sl} {jj : D} {en : En} (hi : Inv s0 en) : Go b_law_0 (en.set 2 (.val jj)) (Inv s0) := by
  obtain ⟨ms, s2, s3, s4, s5, s6, s7, s8, s9, s10, s11, s12, rfl⟩ := hi
  obtain ⟨a, b, c, d, m1, o, c12, h1⟩ := law_lock_ok ms
  obtain ⟨r2, m2, h2, r20, r21⟩ := take_ok m1 (b := 4) (by omega)
  obtain ⟨r3, m3, h3, r30, r31⟩ := take_ok m2 (b := 12) (by omega)
  obtain ⟨h, hh⟩ : ∃ n : Nat, 1 + r2 = (n : Int) := ⟨(1 + r2).toNat, by omega⟩
  obtain ⟨e, he⟩ : ∃ n : Nat, 1 + r3 = (n : Int) := ⟨(1 + r3).toNat, by omega⟩
  have ob : BkOk h e := by constructor <;> omega
  obtain ⟨m4, h4⟩ := lock_due_ok o c12 m3
  obtain ⟨m5, h5⟩ := bucket_due_ok ob (by omega) m4
  obtain ⟨w, m6, h6, hw⟩ := pick_ok m5 (ds := wrongs c) (by simp [wrongs])
  obtain ⟨sc, m7, h7, hsc⟩ := pick_ok m6 (ds := badSecs) (by simp [badSecs])
  obtain ⟨bt, m8, h8, hbt⟩ := pick_ok m7 (ds := badTries) (by simp [badTries])
  obtain ⟨br, m9, h9, hbr⟩ := pick_ok m8 (ds := badRows) (by simp [badRows])
  have hs := badSecs_no sc hsc
  have hr := badRows_no br hbr
  have g := gIx_lk2 a b c d
  have w1 := told10_no (lk a b c d) w (.int 0) (.bl true) (tried_no1 o hw _ _)
  have w2 := told10_no (lk a b c d) (.tup [.int 0, .int 0, .bl false]) sc (.bl true) (tried_no2 o hs _)
  have w3 : ∀ k : D, k ∈ [D.int (-1), .int (c : Int), .non] → F__law_told [.int 3, lk a b c d, k, .non, .non] = .ok nrD := fun k hk => by
    refine told3_no _ _ _ _ (wait_of_no o ?_)
    simp only [List.mem_cons, List.mem_nil_iff, or_false] at hk
    rcases hk with rfl | rfl | rfl
    · rw [within_gen]
      rfl
    · rw [within_gen, decide_eq_false (show ¬ (c : Int) ≤ (c : Int) - 1 by omega), Bool.and_false]
    · exact within_no int_no_non _ _
  have w5 := told5_no (lk a b c d) sc .non .non (most_tries_no o hs)
  have w6 := told6_no (lk a b c d) sc .non .non (time_for_no o hs)
  have w4 := told4_no (lk a b c d) bt .non .non (badTries_no o bt hbt)
  have w7 := told7_no (bk h e) br .non .non (bucket_heard_no ob hr)
  have w8 := told9_no (bk h e) br (.int 99) .non (drops_at_no1 ob hr _)
  have w9 := told9_no (bk h e) (.lst [.int 5]) (.int 4) .non (drops_at_no2 ob)
  have w10 := told9_no (bk h e) (.lst []) sc .non (drops_at_no3 ob hs)
  have w11 := told8_no (bk h e) sc .non .non (most_from_no ob hs)
  have w12 := told2_ok (lk a b c d) w .non .non _ (state_no o hw)
  have l1 : lcF [15] (gN 15) tYes1 f_law_0 [.int (-1), .int (c : Int), .non] [s0, .own (m7.map D.int), .val jj, s3, s4, .val (.lst [nrD, nrD]), .val (lk a b c d), .val (bk h e), .val (.lst (wrongs c)), .val w, .val sc, s11, s12, .un, .un, .un, .un] = .ok ([nrD, nrD, nrD], [s0, .own (m7.map D.int), .val jj, s3, s4, .val (.lst [nrD, nrD]), .val (lk a b c d), .val (bk h e), .val (.lst (wrongs c)), .val w, .val sc, s11, s12, .un, .un, .un, .un]) :=
    lcF_all (fun x : D => x) (fun _ => nrD) [D.int (-1), .int (c : Int), .non] fun x hx => ⟨[s0, .own (m7.map D.int), .val jj, s3, s4, .val (.lst [nrD, nrD]), .val (lk a b c d), .val (bk h e), .val (.lst (wrongs c)), .val w, .val sc, s11, s12, .un, .un, .val x, .un], rfl, by
      have k := w3 x hx
      unfold f_law_0
      generalize wrongs c = z1 at *
      generalize lk a b c d = lo at *
      generalize F__law_told = q0 at *
      as_aux_lemma =>
        simp only [seq_ap, Mi.mi0, Mi.mi1, Mi.mi2, Mi.mi3, Mi.mi4, Mi.mi5, Mi.mo0, Mi.mo1, Mi.mo2, Mi.mo3, Mi.mo8, Bool.false_eq_true, Mi.mo9, Nat.reduceAdd, Nat.reduceSub, Nat.reduceLeDiff, Nat.reduceLT, Nat.reduceEqDiff, Mi.mt0, List.getElem?_cons_zero, List.getElem?_cons_succ, List.set_cons_zero, List.set_cons_succ, List.map_cons, List.map_nil, List.length_cons, List.length_nil, List.nil_append, List.cons_append, List.append_nil, List.replicate_succ, List.replicate_zero, lim_v, reduceIte, decide_true, decide_false, Bool.not_true, Bool.not_false, Option.bind_some, Mi.lst_no, Mi.par2, Mi.par3, eq_self, and_self, Mi.mi6, Mi.mi7, Mi.mi8, Mi.mi9, Option.map_some, k], rfl⟩
  have l2 : lcF [13] (gN 13) tYes1 f_law_1 [.int 5, .int 6] [s0, .own (m7.map D.int), .val jj, s3, s4, .val (.lst [nrD, nrD]), .val (lk a b c d), .val (bk h e), .val (.lst (wrongs c)), .val w, .val sc, s11, s12, .un, .un, .un, .un] = .ok ([nrD, nrD], [s0, .own (m7.map D.int), .val jj, s3, s4, .val (.lst [nrD, nrD]), .val (lk a b c d), .val (bk h e), .val (.lst (wrongs c)), .val w, .val sc, s11, s12, .un, .un, .un, .un]) :=
    lcF_all (fun x : D => x) (fun _ => nrD) [D.int 5, .int 6] fun x hx => ⟨[s0, .own (m7.map D.int), .val jj, s3, s4, .val (.lst [nrD, nrD]), .val (lk a b c d), .val (bk h e), .val (.lst (wrongs c)), .val w, .val sc, s11, s12, .val x, .un, .un, .un], rfl, by
      have k : F__law_told [x, lk a b c d, sc, .non, .non] = .ok nrD := by
        simp only [List.mem_cons, List.mem_nil_iff, or_false] at hx
        rcases hx with rfl | rfl
        · exact w5
        · exact w6
      unfold f_law_1
      generalize wrongs c = z1 at *
      generalize lk a b c d = lo at *
      generalize F__law_told = q0 at *
      as_aux_lemma =>
        simp only [seq_ap, Mi.mi0, Mi.mi1, Mi.mi2, Mi.mi3, Mi.mi4, Mi.mi5, Mi.mo0, Mi.mo1, Mi.mo2, Mi.mo3, Mi.mo8, Bool.false_eq_true, Mi.mo9, Nat.reduceAdd, Nat.reduceSub, Nat.reduceLeDiff, Nat.reduceLT, Nat.reduceEqDiff, Mi.mt0, List.getElem?_cons_zero, List.getElem?_cons_succ, List.set_cons_zero, List.set_cons_succ, List.map_cons, List.map_nil, List.length_cons, List.length_nil, List.nil_append, List.cons_append, List.append_nil, List.replicate_succ, List.replicate_zero, lim_v, reduceIte, decide_true, decide_false, Bool.not_true, Bool.not_false, Option.bind_some, Mi.lst_no, Mi.par2, Mi.par3, eq_self, and_self, Mi.mi6, Mi.mi7, Mi.mi8, Mi.mi9, Option.map_some, k], rfl⟩
  have r13 : r62 13 = true := by decide
  have t13 : (13 : Int).toNat = 13 := rfl
  have le13 : 1 * 13 ≤ 16777216 := by decide
  have ne := ne_self (n := 1) (d := .lst (List.replicate 13 nrD)) (nr_list 0 fun d hd => List.eq_of_mem_replicate hd) (by omega)
  have rp := rep_fl nrD 13
  have rl : List.replicate 13 nrD = [nrD, nrD, nrD, nrD, nrD, nrD, nrD, nrD, nrD, nrD, nrD, nrD, nrD] := rfl
  rw [rl] at rp ne
  have gm : gMul (.lst [nrD]) (.int 13) = some (.lst [nrD, nrD, nrD, nrD, nrD, nrD, nrD, nrD, nrD, nrD, nrD, nrD, nrD]) := rfl
  have io := intsOf_map
  have bke : bk h e = .tup [nI h, nI e] := rfl
  change Go b_law_0 [s0, .own (ms.map D.int), .val jj, s3, s4, s5, s6, s7, s8, s9, s10, s11, s12, .un, .un, .un, .un] _
  simp only [wrongs] at h6 l1 l2
  simp only [badSecs] at h7
  simp only [badTries] at h8
  simp only [badRows] at h9
  unfold b_law_0
  clear w3 w5 w6
  generalize F__law_take = q0 at *
  generalize F__law_pick = q1 at *
  generalize F__law_lock = q2 at *
  generalize F__law_is_lock_due = q3 at *
  generalize F__law_is_bucket_due = q4 at *
  generalize F__law_told = q5 at *
  generalize f_law_0 = q6 at *
  generalize f_law_1 = q7 at *
  generalize lk a b c d = lo at *
  generalize hbu : bk h e = bu at *
  refine Go.seq (Go.of (e' := [s0, .own (m1.map D.int), .val jj, s3, s4, s5, .val lo, s7, s8, s9, s10, s11, s12, .un, .un, .un, .un]) ?_ ?_)
  · as_aux_lemma =>
      simp only [seq_ap, Mi.mi0, Mi.mi1, Mi.mi2, Mi.mi3, Mi.mi4, Mi.mi5, Mi.mo0, Mi.mo1, Mi.mo2, Mi.mo3, Mi.mo8, Bool.false_eq_true, Mi.mo9, Nat.reduceAdd, Nat.reduceSub, Nat.reduceLeDiff, Nat.reduceLT, Nat.reduceEqDiff, Mi.mt0, List.getElem?_cons_zero, List.getElem?_cons_succ, List.set_cons_zero, List.set_cons_succ, List.map_cons, List.map_nil, List.length_cons, List.length_nil, List.nil_append, List.cons_append, List.append_nil, List.replicate_succ, List.replicate_zero, lim_v, reduceIte, decide_true, decide_false, Bool.not_true, Bool.not_false, Option.bind_some, Mi.lst_no, Mi.par2, Mi.par3, eq_self, and_self, Mi.mi6, Mi.mi7, Mi.mi8, Mi.mi9, Option.map_some, eCallB, io, h1, Sl.turn]
  refine Go.seq (Go.of (e' := [s0, .own (m3.map D.int), .val jj, s3, s4, s5, .val lo, .val bu, s8, s9, s10, s11, s12, .un, .un, .un, .un]) ?_ ?_)
  · as_aux_lemma =>
      simp only [seq_ap, Mi.mi0, Mi.mi1, Mi.mi2, Mi.mi3, Mi.mi4, Mi.mi5, Mi.mo0, Mi.mo1, Mi.mo2, Mi.mo3, Mi.mo8, Bool.false_eq_true, Mi.mo9, Nat.reduceAdd, Nat.reduceSub, Nat.reduceLeDiff, Nat.reduceLT, Nat.reduceEqDiff, Mi.mt0, List.getElem?_cons_zero, List.getElem?_cons_succ, List.set_cons_zero, List.set_cons_succ, List.map_cons, List.map_nil, List.length_cons, List.length_nil, List.nil_append, List.cons_append, List.append_nil, List.replicate_succ, List.replicate_zero, lim_v, reduceIte, decide_true, decide_false, Bool.not_true, Bool.not_false, Option.bind_some, Mi.lst_no, Mi.par2, Mi.par3, eq_self, and_self, Mi.mi6, Mi.mi7, Mi.mi8, Mi.mi9, Option.map_some, eCallB, io, h2, h3, hh, he, ← bke, Sl.turn]
  refine Go.seq (Go.ifF (e1 := [s0, .own (m5.map D.int), .val jj, s3, s4, s5, .val lo, .val bu, s8, s9, s10, s11, s12, .un, .un, .un, .un]) ?_ (Go.nx ?_))
  · as_aux_lemma =>
      simp only [seq_ap, Mi.mi0, Mi.mi1, Mi.mi2, Mi.mi3, Mi.mi4, Mi.mi5, Mi.mo0, Mi.mo1, Mi.mo2, Mi.mo3, Mi.mo8, Bool.false_eq_true, Mi.mo9, Nat.reduceAdd, Nat.reduceSub, Nat.reduceLeDiff, Nat.reduceLT, Nat.reduceEqDiff, Mi.mt0, List.getElem?_cons_zero, List.getElem?_cons_succ, List.set_cons_zero, List.set_cons_succ, List.map_cons, List.map_nil, List.length_cons, List.length_nil, List.nil_append, List.cons_append, List.append_nil, List.replicate_succ, List.replicate_zero, lim_v, reduceIte, decide_true, decide_false, Bool.not_true, Bool.not_false, Option.bind_some, Mi.lst_no, Mi.par2, Mi.par3, eq_self, and_self, Mi.mi6, Mi.mi7, Mi.mi8, Mi.mi9, Option.map_some, eCallB, io, h4, h5, Sl.turn]
  refine Go.seq (Go.of (e' := [s0, .own (m5.map D.int), .val jj, s3, s4, s5, .val lo, .val bu, .val (.lst [.non, .lst [.int 0, .int 0, .bl false], .tup [.int 0, .int 0], .tup [.int (-1), .int 0, .bl false], .tup [.int ((c : Int) + 1), .int 0, .bl true], .tup [.int 0, .int (-1), .bl false], .tup [.int 0, .int 0, .bl true]]), s9, s10, s11, s12, .un, .un, .un, .un]) ?_ ?_)
  · as_aux_lemma =>
      simp only [seq_ap, Mi.mi0, Mi.mi1, Mi.mi2, Mi.mi3, Mi.mi4, Mi.mi5, Mi.mo0, Mi.mo1, Mi.mo2, Mi.mo3, Mi.mo8, Bool.false_eq_true, Mi.mo9, Nat.reduceAdd, Nat.reduceSub, Nat.reduceLeDiff, Nat.reduceLT, Nat.reduceEqDiff, Mi.mt0, List.getElem?_cons_zero, List.getElem?_cons_succ, List.set_cons_zero, List.set_cons_succ, List.map_cons, List.map_nil, List.length_cons, List.length_nil, List.nil_append, List.cons_append, List.append_nil, List.replicate_succ, List.replicate_zero, lim_v, reduceIte, decide_true, decide_false, Bool.not_true, Bool.not_false, Option.bind_some, Mi.lst_no, Mi.par2, Mi.par3, eq_self, and_self, Mi.mi6, Mi.mi7, Mi.mi8, Mi.mi9, Option.map_some, g]
  refine Go.seq (Go.of (e' := [s0, .own (m5.map D.int), .val jj, s3, s4, s5, .val lo, .val bu, .val (.lst [.non, .lst [.int 0, .int 0, .bl false], .tup [.int 0, .int 0], .tup [.int (-1), .int 0, .bl false], .tup [.int ((c : Int) + 1), .int 0, .bl true], .tup [.int 0, .int (-1), .bl false], .tup [.int 0, .int 0, .bl true], .tup [.int c, .int 0, .bl false], .tup [.int 0, .int 0, .int 0], .tup [.bl true, .int 0, .bl false]]), s9, s10, s11, s12, .un, .un, .un, .un]) ?_ ?_)
  · as_aux_lemma =>
      simp only [seq_ap, Mi.mi0, Mi.mi1, Mi.mi2, Mi.mi3, Mi.mi4, Mi.mi5, Mi.mo0, Mi.mo1, Mi.mo2, Mi.mo3, Mi.mo8, Bool.false_eq_true, Mi.mo9, Nat.reduceAdd, Nat.reduceSub, Nat.reduceLeDiff, Nat.reduceLT, Nat.reduceEqDiff, Mi.mt0, List.getElem?_cons_zero, List.getElem?_cons_succ, List.set_cons_zero, List.set_cons_succ, List.map_cons, List.map_nil, List.length_cons, List.length_nil, List.nil_append, List.cons_append, List.append_nil, List.replicate_succ, List.replicate_zero, lim_v, reduceIte, decide_true, decide_false, Bool.not_true, Bool.not_false, Option.bind_some, Mi.lst_no, Mi.par2, Mi.par3, eq_self, and_self, Mi.mi6, Mi.mi7, Mi.mi8, Mi.mi9, Option.map_some, g]
  refine Go.seq (Go.of (e' := [s0, .own (m6.map D.int), .val jj, s3, s4, s5, .val lo, .val bu, .val (.lst [.non, .lst [.int 0, .int 0, .bl false], .tup [.int 0, .int 0], .tup [.int (-1), .int 0, .bl false], .tup [.int ((c : Int) + 1), .int 0, .bl true], .tup [.int 0, .int (-1), .bl false], .tup [.int 0, .int 0, .bl true], .tup [.int c, .int 0, .bl false], .tup [.int 0, .int 0, .int 0], .tup [.bl true, .int 0, .bl false]]), .val w, s10, s11, s12, .un, .un, .un, .un]) ?_ ?_)
  · as_aux_lemma =>
      simp only [seq_ap, Mi.mi0, Mi.mi1, Mi.mi2, Mi.mi3, Mi.mi4, Mi.mi5, Mi.mo0, Mi.mo1, Mi.mo2, Mi.mo3, Mi.mo8, Bool.false_eq_true, Mi.mo9, Nat.reduceAdd, Nat.reduceSub, Nat.reduceLeDiff, Nat.reduceLT, Nat.reduceEqDiff, Mi.mt0, List.getElem?_cons_zero, List.getElem?_cons_succ, List.set_cons_zero, List.set_cons_succ, List.map_cons, List.map_nil, List.length_cons, List.length_nil, List.nil_append, List.cons_append, List.append_nil, List.replicate_succ, List.replicate_zero, lim_v, reduceIte, decide_true, decide_false, Bool.not_true, Bool.not_false, Option.bind_some, Mi.lst_no, Mi.par2, Mi.par3, eq_self, and_self, Mi.mi6, Mi.mi7, Mi.mi8, Mi.mi9, Option.map_some, eCallB, io, h6, Sl.turn]
  refine Go.seq (Go.of (e' := [s0, .own (m7.map D.int), .val jj, s3, s4, s5, .val lo, .val bu, .val (.lst [.non, .lst [.int 0, .int 0, .bl false], .tup [.int 0, .int 0], .tup [.int (-1), .int 0, .bl false], .tup [.int ((c : Int) + 1), .int 0, .bl true], .tup [.int 0, .int (-1), .bl false], .tup [.int 0, .int 0, .bl true], .tup [.int c, .int 0, .bl false], .tup [.int 0, .int 0, .int 0], .tup [.bl true, .int 0, .bl false]]), .val w, .val sc, s11, s12, .un, .un, .un, .un]) ?_ ?_)
  · as_aux_lemma =>
      simp only [seq_ap, Mi.mi0, Mi.mi1, Mi.mi2, Mi.mi3, Mi.mi4, Mi.mi5, Mi.mo0, Mi.mo1, Mi.mo2, Mi.mo3, Mi.mo8, Bool.false_eq_true, Mi.mo9, Nat.reduceAdd, Nat.reduceSub, Nat.reduceLeDiff, Nat.reduceLT, Nat.reduceEqDiff, Mi.mt0, List.getElem?_cons_zero, List.getElem?_cons_succ, List.set_cons_zero, List.set_cons_succ, List.map_cons, List.map_nil, List.length_cons, List.length_nil, List.nil_append, List.cons_append, List.append_nil, List.replicate_succ, List.replicate_zero, lim_v, reduceIte, decide_true, decide_false, Bool.not_true, Bool.not_false, Option.bind_some, Mi.lst_no, Mi.par2, Mi.par3, eq_self, and_self, Mi.mi6, Mi.mi7, Mi.mi8, Mi.mi9, Option.map_some, eCallB, io, h7, Sl.turn]
  refine Go.seq (Go.of (e' := [s0, .own (m7.map D.int), .val jj, s3, s4, .own [nrD, nrD], .val lo, .val bu, .val (.lst [.non, .lst [.int 0, .int 0, .bl false], .tup [.int 0, .int 0], .tup [.int (-1), .int 0, .bl false], .tup [.int ((c : Int) + 1), .int 0, .bl true], .tup [.int 0, .int (-1), .bl false], .tup [.int 0, .int 0, .bl true], .tup [.int c, .int 0, .bl false], .tup [.int 0, .int 0, .int 0], .tup [.bl true, .int 0, .bl false]]), .val w, .val sc, s11, s12, .un, .un, .un, .un]) ?_ ?_)
  · as_aux_lemma =>
      simp only [seq_ap, Mi.mi0, Mi.mi1, Mi.mi2, Mi.mi3, Mi.mi4, Mi.mi5, Mi.mo0, Mi.mo1, Mi.mo2, Mi.mo3, Mi.mo8, Bool.false_eq_true, Mi.mo9, Nat.reduceAdd, Nat.reduceSub, Nat.reduceLeDiff, Nat.reduceLT, Nat.reduceEqDiff, Mi.mt0, List.getElem?_cons_zero, List.getElem?_cons_succ, List.set_cons_zero, List.set_cons_succ, List.map_cons, List.map_nil, List.length_cons, List.length_nil, List.nil_append, List.cons_append, List.append_nil, List.replicate_succ, List.replicate_zero, lim_v, reduceIte, decide_true, decide_false, Bool.not_true, Bool.not_false, Option.bind_some, Mi.lst_no, Mi.par2, Mi.par3, eq_self, and_self, Mi.mi6, Mi.mi7, Mi.mi8, Mi.mi9, Option.map_some, w1, w2]
  refine Go.seq (Go.of (e' := [s0, .own (m7.map D.int), .val jj, s3, s4, .own [nrD, nrD, nrD, nrD, nrD, nrD, nrD], .val lo, .val bu, .val (.lst [.non, .lst [.int 0, .int 0, .bl false], .tup [.int 0, .int 0], .tup [.int (-1), .int 0, .bl false], .tup [.int ((c : Int) + 1), .int 0, .bl true], .tup [.int 0, .int (-1), .bl false], .tup [.int 0, .int 0, .bl true], .tup [.int c, .int 0, .bl false], .tup [.int 0, .int 0, .int 0], .tup [.bl true, .int 0, .bl false]]), .val w, .val sc, s11, s12, .un, .un, .un, .un]) ?_ ?_)
  · as_aux_lemma =>
      simp only [seq_ap, Mi.mi0, Mi.mi1, Mi.mi2, Mi.mi3, Mi.mi4, Mi.mi5, Mi.mo0, Mi.mo1, Mi.mo2, Mi.mo3, Mi.mo8, Bool.false_eq_true, Mi.mo9, Nat.reduceAdd, Nat.reduceSub, Nat.reduceLeDiff, Nat.reduceLT, Nat.reduceEqDiff, Mi.mt0, List.getElem?_cons_zero, List.getElem?_cons_succ, List.set_cons_zero, List.set_cons_succ, List.map_cons, List.map_nil, List.length_cons, List.length_nil, List.nil_append, List.cons_append, List.append_nil, List.replicate_succ, List.replicate_zero, lim_v, reduceIte, decide_true, decide_false, Bool.not_true, Bool.not_false, Option.bind_some, Mi.lst_no, Mi.par2, Mi.par3, eq_self, and_self, Mi.mi6, Mi.mi7, Mi.mi8, Mi.mi9, Option.map_some, nLc, wipeE, okW, resE, g, l1, l2, gCat, List.all_cons, List.all_nil, Bool.and_true, Option.getD_some, Option.getD_none, and_self]
  refine Go.seq (Go.of (e' := [s0, .own (m7.map D.int), .val jj, s3, s4, .own [nrD, nrD, nrD, nrD, nrD, nrD, nrD], .val lo, .val bu, .val (.lst [.non, .lst [.int 0, .int 0, .bl false], .tup [.int 0, .int 0], .tup [.int (-1), .int 0, .bl false], .tup [.int ((c : Int) + 1), .int 0, .bl true], .tup [.int 0, .int (-1), .bl false], .tup [.int 0, .int 0, .bl true], .tup [.int c, .int 0, .bl false], .tup [.int 0, .int 0, .int 0], .tup [.bl true, .int 0, .bl false]]), .val w, .val sc, .val (.lst [.non, .tup [.tup [.int 0, .bl true]], .lst [.tup [.int 0]], .lst [.tup [.int 5, .bl true], .tup [.int 4, .bl true]], .lst [.tup [.int (-1), .bl true]], .lst [.tup [.int 0, .int 1]], .lst [.lst [.int 0, .bl true]]]), s12, .un, .un, .un, .un]) ?_ ?_)
  · as_aux_lemma =>
      simp only [seq_ap, Mi.mi0, Mi.mi1, Mi.mi2, Mi.mi3, Mi.mi4, Mi.mi5, Mi.mo0, Mi.mo1, Mi.mo2, Mi.mo3, Mi.mo8, Bool.false_eq_true, Mi.mo9, Nat.reduceAdd, Nat.reduceSub, Nat.reduceLeDiff, Nat.reduceLT, Nat.reduceEqDiff, Mi.mt0, List.getElem?_cons_zero, List.getElem?_cons_succ, List.set_cons_zero, List.set_cons_succ, List.map_cons, List.map_nil, List.length_cons, List.length_nil, List.nil_append, List.cons_append, List.append_nil, List.replicate_succ, List.replicate_zero, lim_v, reduceIte, decide_true, decide_false, Bool.not_true, Bool.not_false, Option.bind_some, Mi.lst_no, Mi.par2, Mi.par3, eq_self, and_self, Mi.mi6, Mi.mi7, Mi.mi8, Mi.mi9, Option.map_some]
  refine Go.seq (Go.of (e' := [s0, .own (m8.map D.int), .val jj, s3, s4, .own [nrD, nrD, nrD, nrD, nrD, nrD, nrD, nrD], .val lo, .val bu, .val (.lst [.non, .lst [.int 0, .int 0, .bl false], .tup [.int 0, .int 0], .tup [.int (-1), .int 0, .bl false], .tup [.int ((c : Int) + 1), .int 0, .bl true], .tup [.int 0, .int (-1), .bl false], .tup [.int 0, .int 0, .bl true], .tup [.int c, .int 0, .bl false], .tup [.int 0, .int 0, .int 0], .tup [.bl true, .int 0, .bl false]]), .val w, .val sc, .val (.lst [.non, .tup [.tup [.int 0, .bl true]], .lst [.tup [.int 0]], .lst [.tup [.int 5, .bl true], .tup [.int 4, .bl true]], .lst [.tup [.int (-1), .bl true]], .lst [.tup [.int 0, .int 1]], .lst [.lst [.int 0, .bl true]]]), s12, .un, .un, .un, .un]) ?_ ?_)
  · as_aux_lemma =>
      simp only [seq_ap, Mi.mi0, Mi.mi1, Mi.mi2, Mi.mi3, Mi.mi4, Mi.mi5, Mi.mo0, Mi.mo1, Mi.mo2, Mi.mo3, Mi.mo8, Bool.false_eq_true, Mi.mo9, Nat.reduceAdd, Nat.reduceSub, Nat.reduceLeDiff, Nat.reduceLT, Nat.reduceEqDiff, Mi.mt0, List.getElem?_cons_zero, List.getElem?_cons_succ, List.set_cons_zero, List.set_cons_succ, List.map_cons, List.map_nil, List.length_cons, List.length_nil, List.nil_append, List.cons_append, List.append_nil, List.replicate_succ, List.replicate_zero, lim_v, reduceIte, decide_true, decide_false, Bool.not_true, Bool.not_false, Option.bind_some, Mi.lst_no, Mi.par2, Mi.par3, eq_self, and_self, Mi.mi6, Mi.mi7, Mi.mi8, Mi.mi9, Option.map_some, eCallB, io, h8, w4, Sl.turn]
  refine Go.seq (Go.of (e' := [s0, .own (m8.map D.int), .val jj, s3, s4, .own [nrD, nrD, nrD, nrD, nrD, nrD, nrD, nrD], .val lo, .val bu, .val (.lst [.non, .lst [.int 0, .int 0, .bl false], .tup [.int 0, .int 0], .tup [.int (-1), .int 0, .bl false], .tup [.int ((c : Int) + 1), .int 0, .bl true], .tup [.int 0, .int (-1), .bl false], .tup [.int 0, .int 0, .bl true], .tup [.int c, .int 0, .bl false], .tup [.int 0, .int 0, .int 0], .tup [.bl true, .int 0, .bl false]]), .val w, .val sc, .val (.lst [.non, .tup [.int 0], .lst [.int 1, .int 0], .lst [.int (-1)], .lst [.bl true], .lst [.str "0"]]), s12, .un, .un, .un, .un]) ?_ ?_)
  · as_aux_lemma =>
      simp only [seq_ap, Mi.mi0, Mi.mi1, Mi.mi2, Mi.mi3, Mi.mi4, Mi.mi5, Mi.mo0, Mi.mo1, Mi.mo2, Mi.mo3, Mi.mo8, Bool.false_eq_true, Mi.mo9, Nat.reduceAdd, Nat.reduceSub, Nat.reduceLeDiff, Nat.reduceLT, Nat.reduceEqDiff, Mi.mt0, List.getElem?_cons_zero, List.getElem?_cons_succ, List.set_cons_zero, List.set_cons_succ, List.map_cons, List.map_nil, List.length_cons, List.length_nil, List.nil_append, List.cons_append, List.append_nil, List.replicate_succ, List.replicate_zero, lim_v, reduceIte, decide_true, decide_false, Bool.not_true, Bool.not_false, Option.bind_some, Mi.lst_no, Mi.par2, Mi.par3, eq_self, and_self, Mi.mi6, Mi.mi7, Mi.mi8, Mi.mi9, Option.map_some]
  refine Go.seq (Go.of (e' := [s0, .own (m9.map D.int), .val jj, s3, s4, .own [nrD, nrD, nrD, nrD, nrD, nrD, nrD, nrD], .val lo, .val bu, .val (.lst [.non, .lst [.int 0, .int 0, .bl false], .tup [.int 0, .int 0], .tup [.int (-1), .int 0, .bl false], .tup [.int ((c : Int) + 1), .int 0, .bl true], .tup [.int 0, .int (-1), .bl false], .tup [.int 0, .int 0, .bl true], .tup [.int c, .int 0, .bl false], .tup [.int 0, .int 0, .int 0], .tup [.bl true, .int 0, .bl false]]), .val w, .val sc, .val (.lst [.non, .tup [.int 0], .lst [.int 1, .int 0], .lst [.int (-1)], .lst [.bl true], .lst [.str "0"]]), .val br, .un, .un, .un, .un]) ?_ ?_)
  · as_aux_lemma =>
      simp only [seq_ap, Mi.mi0, Mi.mi1, Mi.mi2, Mi.mi3, Mi.mi4, Mi.mi5, Mi.mo0, Mi.mo1, Mi.mo2, Mi.mo3, Mi.mo8, Bool.false_eq_true, Mi.mo9, Nat.reduceAdd, Nat.reduceSub, Nat.reduceLeDiff, Nat.reduceLT, Nat.reduceEqDiff, Mi.mt0, List.getElem?_cons_zero, List.getElem?_cons_succ, List.set_cons_zero, List.set_cons_succ, List.map_cons, List.map_nil, List.length_cons, List.length_nil, List.nil_append, List.cons_append, List.append_nil, List.replicate_succ, List.replicate_zero, lim_v, reduceIte, decide_true, decide_false, Bool.not_true, Bool.not_false, Option.bind_some, Mi.lst_no, Mi.par2, Mi.par3, eq_self, and_self, Mi.mi6, Mi.mi7, Mi.mi8, Mi.mi9, Option.map_some, eCallB, io, h9, Sl.turn]
  refine Go.seq (Go.of (e' := [s0, .own (m9.map D.int), .val jj, s3, s4, .own [nrD, nrD, nrD, nrD, nrD, nrD, nrD, nrD, nrD, nrD], .val lo, .val bu, .val (.lst [.non, .lst [.int 0, .int 0, .bl false], .tup [.int 0, .int 0], .tup [.int (-1), .int 0, .bl false], .tup [.int ((c : Int) + 1), .int 0, .bl true], .tup [.int 0, .int (-1), .bl false], .tup [.int 0, .int 0, .bl true], .tup [.int c, .int 0, .bl false], .tup [.int 0, .int 0, .int 0], .tup [.bl true, .int 0, .bl false]]), .val w, .val sc, .val (.lst [.non, .tup [.int 0], .lst [.int 1, .int 0], .lst [.int (-1)], .lst [.bl true], .lst [.str "0"]]), .val br, .un, .un, .un, .un]) ?_ ?_)
  · as_aux_lemma =>
      simp only [seq_ap, Mi.mi0, Mi.mi1, Mi.mi2, Mi.mi3, Mi.mi4, Mi.mi5, Mi.mo0, Mi.mo1, Mi.mo2, Mi.mo3, Mi.mo8, Bool.false_eq_true, Mi.mo9, Nat.reduceAdd, Nat.reduceSub, Nat.reduceLeDiff, Nat.reduceLT, Nat.reduceEqDiff, Mi.mt0, List.getElem?_cons_zero, List.getElem?_cons_succ, List.set_cons_zero, List.set_cons_succ, List.map_cons, List.map_nil, List.length_cons, List.length_nil, List.nil_append, List.cons_append, List.append_nil, List.replicate_succ, List.replicate_zero, lim_v, reduceIte, decide_true, decide_false, Bool.not_true, Bool.not_false, Option.bind_some, Mi.lst_no, Mi.par2, Mi.par3, eq_self, and_self, Mi.mi6, Mi.mi7, Mi.mi8, Mi.mi9, Option.map_some, w7, w8, gCat]
  refine Go.seq (Go.of (e' := [s0, .own (m9.map D.int), .val jj, s3, s4, .own [nrD, nrD, nrD, nrD, nrD, nrD, nrD, nrD, nrD, nrD, nrD, nrD], .val lo, .val bu, .val (.lst [.non, .lst [.int 0, .int 0, .bl false], .tup [.int 0, .int 0], .tup [.int (-1), .int 0, .bl false], .tup [.int ((c : Int) + 1), .int 0, .bl true], .tup [.int 0, .int (-1), .bl false], .tup [.int 0, .int 0, .bl true], .tup [.int c, .int 0, .bl false], .tup [.int 0, .int 0, .int 0], .tup [.bl true, .int 0, .bl false]]), .val w, .val sc, .val (.lst [.non, .tup [.int 0], .lst [.int 1, .int 0], .lst [.int (-1)], .lst [.bl true], .lst [.str "0"]]), .val br, .un, .un, .un, .un]) ?_ ?_)
  · as_aux_lemma =>
      simp only [seq_ap, Mi.mi0, Mi.mi1, Mi.mi2, Mi.mi3, Mi.mi4, Mi.mi5, Mi.mo0, Mi.mo1, Mi.mo2, Mi.mo3, Mi.mo8, Bool.false_eq_true, Mi.mo9, Nat.reduceAdd, Nat.reduceSub, Nat.reduceLeDiff, Nat.reduceLT, Nat.reduceEqDiff, Mi.mt0, List.getElem?_cons_zero, List.getElem?_cons_succ, List.set_cons_zero, List.set_cons_succ, List.map_cons, List.map_nil, List.length_cons, List.length_nil, List.nil_append, List.cons_append, List.append_nil, List.replicate_succ, List.replicate_zero, lim_v, reduceIte, decide_true, decide_false, Bool.not_true, Bool.not_false, Option.bind_some, Mi.lst_no, Mi.par2, Mi.par3, eq_self, and_self, Mi.mi6, Mi.mi7, Mi.mi8, Mi.mi9, Option.map_some, w9, w10, gCat]
  refine Go.seq (Go.of (e' := [s0, .own (m9.map D.int), .val jj, s3, s4, .own [nrD, nrD, nrD, nrD, nrD, nrD, nrD, nrD, nrD, nrD, nrD, nrD, nrD], .val lo, .val bu, .val (.lst [.non, .lst [.int 0, .int 0, .bl false], .tup [.int 0, .int 0], .tup [.int (-1), .int 0, .bl false], .tup [.int ((c : Int) + 1), .int 0, .bl true], .tup [.int 0, .int (-1), .bl false], .tup [.int 0, .int 0, .bl true], .tup [.int c, .int 0, .bl false], .tup [.int 0, .int 0, .int 0], .tup [.bl true, .int 0, .bl false]]), .val w, .val sc, .val (.lst [.non, .tup [.int 0], .lst [.int 1, .int 0], .lst [.int (-1)], .lst [.bl true], .lst [.str "0"]]), .val br, .un, .un, .un, .un]) ?_ ?_)
  · as_aux_lemma =>
      simp only [seq_ap, Mi.mi0, Mi.mi1, Mi.mi2, Mi.mi3, Mi.mi4, Mi.mi5, Mi.mo0, Mi.mo1, Mi.mo2, Mi.mo3, Mi.mo8, Bool.false_eq_true, Mi.mo9, Nat.reduceAdd, Nat.reduceSub, Nat.reduceLeDiff, Nat.reduceLT, Nat.reduceEqDiff, Mi.mt0, List.getElem?_cons_zero, List.getElem?_cons_succ, List.set_cons_zero, List.set_cons_succ, List.map_cons, List.map_nil, List.length_cons, List.length_nil, List.nil_append, List.cons_append, List.append_nil, List.replicate_succ, List.replicate_zero, lim_v, reduceIte, decide_true, decide_false, Bool.not_true, Bool.not_false, Option.bind_some, Mi.lst_no, Mi.par2, Mi.par3, eq_self, and_self, Mi.mi6, Mi.mi7, Mi.mi8, Mi.mi9, Option.map_some, w11]
  refine (Go.ifF (e1 := [s0, .own (m9.map D.int), .val jj, s3, s4, .val (.lst [nrD, nrD, nrD, nrD, nrD, nrD, nrD, nrD, nrD, nrD, nrD, nrD, nrD]), .val lo, .val bu, .val (.lst [.non, .lst [.int 0, .int 0, .bl false], .tup [.int 0, .int 0], .tup [.int (-1), .int 0, .bl false], .tup [.int ((c : Int) + 1), .int 0, .bl true], .tup [.int 0, .int (-1), .bl false], .tup [.int 0, .int 0, .bl true], .tup [.int c, .int 0, .bl false], .tup [.int 0, .int 0, .int 0], .tup [.bl true, .int 0, .bl false]]), .val w, .val sc, .val (.lst [.non, .tup [.int 0], .lst [.int 1, .int 0], .lst [.int (-1)], .lst [.bl true], .lst [.str "0"]]), .val br, .un, .un, .un, .un]) ?_ (Go.nx ?_))
  · as_aux_lemma =>
      simp only [seq_ap, Mi.mi0, Mi.mi1, Mi.mi2, Mi.mi3, Mi.mi4, Mi.mi5, Mi.mo0, Mi.mo1, Mi.mo2, Mi.mo3, Mi.mo8, Bool.false_eq_true, Mi.mo9, Nat.reduceAdd, Nat.reduceSub, Nat.reduceLeDiff, Nat.reduceLT, Nat.reduceEqDiff, Mi.mt0, List.getElem?_cons_zero, List.getElem?_cons_succ, List.set_cons_zero, List.set_cons_succ, List.map_cons, List.map_nil, List.length_cons, List.length_nil, List.nil_append, List.cons_append, List.append_nil, List.replicate_succ, List.replicate_zero, lim_v, reduceIte, decide_true, decide_false, Bool.not_true, Bool.not_false, Option.bind_some, Mi.lst_no, Mi.par2, Mi.par3, eq_self, and_self, Mi.mi6, Mi.mi7, Mi.mi8, Mi.mi9, Option.map_some, r13, t13, le13, rp, ne, w12, List.flatten_cons, List.flatten_nil]
  exact ⟨m9, _, _, _, _, _, _, _, _, _, _, _, rfl⟩
end Lw
namespace Lw
open Mi
theorem runA_of {n : Nat} {S : FS} {ds : List D} {d : D} (h : Rt S (ds.map Sl.val ++ List.replicate (n - ds.length) .un) d) : runA n false S ds = .ok d := by
  obtain ⟨e', h⟩ := h
  unfold runA
  rw [h]
  simp only [lst_no]
theorem law_ok {ns : List Int} (hn : ns.length ≤ 63) (hz : ∀ z ∈ ns, PySem.Builtin.Int.intBits z ≤ 1048576) : F_law [.rls (ns.map D.int)] = .ok (.bl true) := by
  obtain ⟨ms, h1⟩ := draws_eq hn hz
  obtain ⟨e', h2, m2, s2, s3, s4, s5, s6, s7, s8, s9, s10, s11, s12, rfl⟩ := for_each (G := gN 2) (b := b_law_0) (Inv (.val (.rls (ns.map D.int)))) (rangeD 0 4) (.val (.rls (ns.map D.int)) :: .own (ms.map D.int) :: List.replicate 15 .un) ⟨ms, .un, .un, .un, .un, .un, .un, .un, .un, .un, .un, .un, rfl⟩ fun d hd e hi => ⟨_, rfl, turn_ok hi⟩
  have r4 : r62 4 = true := by decide
  have t4 : (4 : Int).toNat = 4 := rfl
  obtain ⟨lo, m3, h3, hlo⟩ := pick_ok m2 (ds := badLocks) (by simp [badLocks])
  obtain ⟨bu, m4, h4, hbu⟩ := pick_ok m3 (ds := badBuckets) (by simp [badBuckets])
  obtain ⟨q2, q3, q4, q5, q6, q10⟩ := lock_first (x := .tup [.int 0, .int 0, .bl false]) (y := .int 0) (z := .bl true) (check_lock_no (badLocks_no lo hlo))
  obtain ⟨_, p3, _, p5, p6, _⟩ := lock_first (x := .int 0) (y := .int 0) (z := .bl true) (check_lock_no (badLocks_no lo hlo))
  obtain ⟨_, _, p4, _, _, _⟩ := lock_first (x := .lst []) (y := .int 0) (z := .bl true) (check_lock_no (badLocks_no lo hlo))
  obtain ⟨q7, _, q9⟩ := bucket_first (x := .lst []) (y := .int 0) (check_bucket_no (badBuckets_no bu hbu))
  obtain ⟨_, q8, _⟩ := bucket_first (x := .int 0) (y := .int 0) (check_bucket_no (badBuckets_no bu hbu))
  have w7 := told7_no bu (.lst []) .non .non q7
  have w8 := told8_no bu (.int 0) .non .non q8
  have w9 := told9_no bu (.lst []) (.int 0) .non q9
  have w10 := told10_no lo (.tup [.int 0, .int 0, .bl false]) (.int 0) (.bl true) q10
  have u2 := told2_no lo (.tup [.int 0, .int 0, .bl false]) .non .non q2
  have u3 := told3_no lo (.int 0) .non .non p3
  have u4 := told4_no lo (.lst []) .non .non p4
  have u5 := told5_no lo (.int 0) .non .non p5
  have u6 := told6_no lo (.int 0) .non .non p6
  have l1 : lcF [16] (gN 16) tYes1 f_law_2 badLocks [.val (.rls (ns.map D.int)), .own (m2.map D.int), s2, .val (.lst badLocks), .val (.lst badBuckets), s5, s6, s7, s8, s9, s10, s11, s12, .un, .un, .un, .un] = .ok (badLocks.map fun _ => .bl false, [.val (.rls (ns.map D.int)), .own (m2.map D.int), s2, .val (.lst badLocks), .val (.lst badBuckets), s5, s6, s7, s8, s9, s10, s11, s12, .un, .un, .un, .un]) := by
    have k := lcF_all (vs := [16]) (G := gN 16) (f := f_law_2) (e0 := [.val (.rls (ns.map D.int)), .own (m2.map D.int), s2, .val (.lst badLocks), .val (.lst badBuckets), s5, s6, s7, s8, s9, s10, s11, s12, .un, .un, .un, .un]) (fun x : D => x) (fun _ => .bl false) badLocks fun x hx => ⟨[.val (.rls (ns.map D.int)), .own (m2.map D.int), s2, .val (.lst badLocks), .val (.lst badBuckets), s5, s6, s7, s8, s9, s10, s11, s12, .un, .un, .un, .val x], rfl, by
      have k := told0_ok x .non .non .non _ (badLocks_no x hx)
      unfold f_law_2
      generalize badLocks = z1 at *
      generalize badBuckets = z2 at *
      generalize D.rls (ns.map D.int) = z3 at *
      generalize F__law_told = q0 at *
      as_aux_lemma =>
        simp only [seq_ap, Mi.mi0, Mi.mi1, Mi.mi2, Mi.mi3, Mi.mi4, Mi.mi5, Mi.mo0, Mi.mo1, Mi.mo2, Mi.mo3, Mi.mo8, Bool.false_eq_true, Mi.mo9, Nat.reduceAdd, Nat.reduceSub, Nat.reduceLeDiff, Nat.reduceLT, Nat.reduceEqDiff, Mi.mt0, List.getElem?_cons_zero, List.getElem?_cons_succ, List.set_cons_zero, List.set_cons_succ, List.map_cons, List.map_nil, List.length_cons, List.length_nil, List.nil_append, List.cons_append, List.append_nil, List.replicate_succ, List.replicate_zero, lim_v, reduceIte, decide_true, decide_false, Bool.not_true, Bool.not_false, Option.bind_some, Mi.lst_no, Mi.par2, Mi.par3, eq_self, and_self, Mi.mi6, Mi.mi7, Mi.mi8, Mi.mi9, Option.map_some, k], rfl⟩
    rw [List.map_id' ] at k
    exact k
  have l2 : lcF [16] (gN 16) tYes1 f_law_3 badBuckets [.val (.rls (ns.map D.int)), .own (m2.map D.int), s2, .val (.lst badLocks), .val (.lst badBuckets), s5, s6, s7, s8, s9, s10, s11, s12, .un, .un, .un, .un] = .ok (badBuckets.map fun _ => .bl false, [.val (.rls (ns.map D.int)), .own (m2.map D.int), s2, .val (.lst badLocks), .val (.lst badBuckets), s5, s6, s7, s8, s9, s10, s11, s12, .un, .un, .un, .un]) := by
    have k := lcF_all (vs := [16]) (G := gN 16) (f := f_law_3) (e0 := [.val (.rls (ns.map D.int)), .own (m2.map D.int), s2, .val (.lst badLocks), .val (.lst badBuckets), s5, s6, s7, s8, s9, s10, s11, s12, .un, .un, .un, .un]) (fun x : D => x) (fun _ => .bl false) badBuckets fun x hx => ⟨[.val (.rls (ns.map D.int)), .own (m2.map D.int), s2, .val (.lst badLocks), .val (.lst badBuckets), s5, s6, s7, s8, s9, s10, s11, s12, .un, .un, .un, .val x], rfl, by
      have k := told1_ok x .non .non .non _ (badBuckets_no x hx)
      unfold f_law_3
      generalize badLocks = z1 at *
      generalize badBuckets = z2 at *
      generalize D.rls (ns.map D.int) = z3 at *
      generalize F__law_told = q0 at *
      as_aux_lemma =>
        simp only [seq_ap, Mi.mi0, Mi.mi1, Mi.mi2, Mi.mi3, Mi.mi4, Mi.mi5, Mi.mo0, Mi.mo1, Mi.mo2, Mi.mo3, Mi.mo8, Bool.false_eq_true, Mi.mo9, Nat.reduceAdd, Nat.reduceSub, Nat.reduceLeDiff, Nat.reduceLT, Nat.reduceEqDiff, Mi.mt0, List.getElem?_cons_zero, List.getElem?_cons_succ, List.set_cons_zero, List.set_cons_succ, List.map_cons, List.map_nil, List.length_cons, List.length_nil, List.nil_append, List.cons_append, List.append_nil, List.replicate_succ, List.replicate_zero, lim_v, reduceIte, decide_true, decide_false, Bool.not_true, Bool.not_false, Option.bind_some, Mi.lst_no, Mi.par2, Mi.par3, eq_self, and_self, Mi.mi6, Mi.mi7, Mi.mi8, Mi.mi9, Option.map_some, k], rfl⟩
    rw [List.map_id' ] at k
    exact k
  have r21 : r62 21 = true := by decide
  have t21 : (21 : Int).toNat = 21 := rfl
  have le21 : 1 * 21 ≤ 16777216 := by decide
  have rp := rep_fl (.bl false) 21
  have sm : F__law_same 4 [.lst (List.replicate 21 (.bl false)), .lst (List.replicate 21 (.bl false))] = .ok (.bl true) := same_self 3 _ (pl_list (fun x hx => by
    rw [List.eq_of_mem_replicate hx]
    exact pl_flat trivial) (by simp))
  have rl : List.replicate 21 (D.bl false) = [.bl false, .bl false, .bl false, .bl false, .bl false, .bl false, .bl false, .bl false, .bl false, .bl false, .bl false, .bl false, .bl false, .bl false, .bl false, .bl false, .bl false, .bl false, .bl false, .bl false, .bl false] := rfl
  rw [rl] at rp sm
  have z1 : (badLocks.map fun _ => D.bl false) = [.bl false, .bl false, .bl false, .bl false, .bl false, .bl false, .bl false, .bl false, .bl false, .bl false, .bl false, .bl false, .bl false] := rfl
  have z2 : (badBuckets.map fun _ => D.bl false) = [.bl false, .bl false, .bl false, .bl false, .bl false, .bl false, .bl false, .bl false] := rfl
  rw [z1] at l1
  rw [z2] at l2
  have l3 : lcF [13, 14] (gT 2 (gsC (gN 13) (gsC (gN 14) gsN))) tYes1 f_law_4 [.tup [.int 2, .tup [.int 0, .int 0, .bl false]], .tup [.int 3, .int 0], .tup [.int 4, .lst []], .tup [.int 5, .int 0], .tup [.int 6, .int 0]] [.val (.rls (ns.map D.int)), .own (m4.map D.int), s2, .val (.lst badLocks), .val (.lst badBuckets), s5, .val lo, .val bu, s8, s9, s10, s11, s12, .un, .un, .un, .un] = .ok ([nrD, nrD, nrD, nrD, nrD], [.val (.rls (ns.map D.int)), .own (m4.map D.int), s2, .val (.lst badLocks), .val (.lst badBuckets), s5, .val lo, .val bu, s8, s9, s10, s11, s12, .un, .un, .un, .un]) :=
    lcF_all (fun p : D × D => D.tup [p.1, p.2]) (fun _ => nrD) [(D.int 2, D.tup [.int 0, .int 0, .bl false]), (D.int 3, D.int 0), (D.int 4, D.lst []), (D.int 5, D.int 0), (D.int 6, D.int 0)] fun p hp => ⟨[.val (.rls (ns.map D.int)), .own (m4.map D.int), s2, .val (.lst badLocks), .val (.lst badBuckets), s5, .val lo, .val bu, s8, s9, s10, s11, s12, .val p.1, .val p.2, .un, .un], rfl, by
      have k : F__law_told [p.1, lo, p.2, .non, .non] = .ok nrD := by
        simp only [List.mem_cons, List.mem_nil_iff, or_false] at hp
        rcases hp with rfl | rfl | rfl | rfl | rfl
        · exact u2
        · exact u3
        · exact u4
        · exact u5
        · exact u6
      unfold f_law_4
      generalize badLocks = z1 at *
      generalize badBuckets = z2 at *
      generalize D.rls (ns.map D.int) = z3 at *
      generalize F__law_told = q0 at *
      as_aux_lemma =>
        simp only [seq_ap, Mi.mi0, Mi.mi1, Mi.mi2, Mi.mi3, Mi.mi4, Mi.mi5, Mi.mo0, Mi.mo1, Mi.mo2, Mi.mo3, Mi.mo8, Bool.false_eq_true, Mi.mo9, Nat.reduceAdd, Nat.reduceSub, Nat.reduceLeDiff, Nat.reduceLT, Nat.reduceEqDiff, Mi.mt0, List.getElem?_cons_zero, List.getElem?_cons_succ, List.set_cons_zero, List.set_cons_succ, List.map_cons, List.map_nil, List.length_cons, List.length_nil, List.nil_append, List.cons_append, List.append_nil, List.replicate_succ, List.replicate_zero, lim_v, reduceIte, decide_true, decide_false, Bool.not_true, Bool.not_false, Option.bind_some, Mi.lst_no, Mi.par2, Mi.par3, eq_self, and_self, Mi.mi6, Mi.mi7, Mi.mi8, Mi.mi9, Option.map_some, k], rfl⟩
  have r9 : r62 9 = true := by decide
  have t9 : (9 : Int).toNat = 9 := rfl
  have le9 : 1 * 9 ≤ 16777216 := by decide
  have eq := Lw.eq_self (n := 1) (d := .lst (List.replicate 9 nrD)) (nr_list 0 fun d hd => List.eq_of_mem_replicate hd) (by omega)
  have rp9 := rep_fl nrD 9
  have rl9 : List.replicate 9 nrD = [nrD, nrD, nrD, nrD, nrD, nrD, nrD, nrD, nrD] := rfl
  rw [rl9] at rp9 eq
  have io := intsOf_map
  have main : Rt m_law [.val (.rls (ns.map D.int)), .un, .un, .un, .un, .un, .un, .un, .un, .un, .un, .un, .un, .un, .un, .un, .un] (.bl true) := by
    rw [show (.val (.rls (ns.map D.int)) :: .own (ms.map D.int) :: List.replicate 15 Sl.un) = [.val (.rls (ns.map D.int)), .own (ms.map D.int), .un, .un, .un, .un, .un, .un, .un, .un, .un, .un, .un, .un, .un, .un, .un] from rfl] at h2
    simp only [badLocks] at l1 l3 h3
    simp only [badBuckets] at l1 l2 l3 h4
    simp only [badLocks] at l2
    clear u2 u3 u4 u5 u6 z1 z2 hlo hbu rl rl9 p3 p4 p5 p6 q2 q3 q4 q5 q6 q7 q8 q9 q10
    unfold m_law
    generalize D.rls (ns.map D.int) = v0 at *
    generalize F__law_same 4 = qs at *
    generalize F__law_draws = q0 at *
    generalize F__law_pick = q1 at *
    generalize F__law_told = q2 at *
    generalize f_law_2 = q3 at *
    generalize f_law_3 = q4 at *
    generalize f_law_4 = q5 at *
    generalize b_law_0 = q6 at *
    refine Rt.seq (Go.of (e' := [.val v0, .own (ms.map D.int), .un, .un, .un, .un, .un, .un, .un, .un, .un, .un, .un, .un, .un, .un, .un]) ?_ ?_)
    · as_aux_lemma =>
        simp only [seq_ap, Mi.mi0, Mi.mi1, Mi.mi2, Mi.mi3, Mi.mi4, Mi.mi5, Mi.mo0, Mi.mo1, Mi.mo2, Mi.mo3, Mi.mo8, Bool.false_eq_true, Mi.mo9, Nat.reduceAdd, Nat.reduceSub, Nat.reduceLeDiff, Nat.reduceLT, Nat.reduceEqDiff, Mi.mt0, List.getElem?_cons_zero, List.getElem?_cons_succ, List.set_cons_zero, List.set_cons_succ, List.map_cons, List.map_nil, List.length_cons, List.length_nil, List.nil_append, List.cons_append, List.append_nil, List.replicate_succ, List.replicate_zero, lim_v, reduceIte, decide_true, decide_false, Bool.not_true, Bool.not_false, Option.bind_some, Mi.lst_no, Mi.par2, Mi.par3, eq_self, and_self, Mi.mi6, Mi.mi7, Mi.mi8, Mi.mi9, Option.map_some, h1]
    refine Rt.seq (Go.of (e' := [.val v0, .own (m2.map D.int), s2, s3, s4, s5, s6, s7, s8, s9, s10, s11, s12, .un, .un, .un, .un]) ?_ ?_)
    · as_aux_lemma =>
        simp only [seq_ap, Mi.mi0, Mi.mi1, Mi.mi2, Mi.mi3, Mi.mi4, Mi.mi5, Mi.mo0, Mi.mo1, Mi.mo2, Mi.mo3, Mi.mo8, Bool.false_eq_true, Mi.mo9, Nat.reduceAdd, Nat.reduceSub, Nat.reduceLeDiff, Nat.reduceLT, Nat.reduceEqDiff, Mi.mt0, List.getElem?_cons_zero, List.getElem?_cons_succ, List.set_cons_zero, List.set_cons_succ, List.map_cons, List.map_nil, List.length_cons, List.length_nil, List.nil_append, List.cons_append, List.append_nil, List.replicate_succ, List.replicate_zero, lim_v, reduceIte, decide_true, decide_false, Bool.not_true, Bool.not_false, Option.bind_some, Mi.lst_no, Mi.par2, Mi.par3, eq_self, and_self, Mi.mi6, Mi.mi7, Mi.mi8, Mi.mi9, Option.map_some, r4, t4, h2]
    refine Rt.seq (Go.of (e' := [.val v0, .own (m2.map D.int), s2, .val (.lst [.non, .tup [], .lst [.int 2, .int 10, .int 6, .int 60], .tup [.int 2, .int 10, .int 6], .tup [.int (-1), .int 10, .int 6, .int 60], .tup [.int 21, .int 10, .int 30, .int 60], .tup [.int 2, .int 0, .int 6, .int 60], .tup [.int 2, .int 1001, .int 6, .int 9999]]), s4, s5, s6, s7, s8, s9, s10, s11, s12, .un, .un, .un, .un]) ?_ ?_)
    · as_aux_lemma =>
        simp only [seq_ap, Mi.mi0, Mi.mi1, Mi.mi2, Mi.mi3, Mi.mi4, Mi.mi5, Mi.mo0, Mi.mo1, Mi.mo2, Mi.mo3, Mi.mo8, Bool.false_eq_true, Mi.mo9, Nat.reduceAdd, Nat.reduceSub, Nat.reduceLeDiff, Nat.reduceLT, Nat.reduceEqDiff, Mi.mt0, List.getElem?_cons_zero, List.getElem?_cons_succ, List.set_cons_zero, List.set_cons_succ, List.map_cons, List.map_nil, List.length_cons, List.length_nil, List.nil_append, List.cons_append, List.append_nil, List.replicate_succ, List.replicate_zero, lim_v, reduceIte, decide_true, decide_false, Bool.not_true, Bool.not_false, Option.bind_some, Mi.lst_no, Mi.par2, Mi.par3, eq_self, and_self, Mi.mi6, Mi.mi7, Mi.mi8, Mi.mi9, Option.map_some]
    refine Rt.seq (Go.of (e' := [.val v0, .own (m2.map D.int), s2, .val (.lst [.non, .tup [], .lst [.int 2, .int 10, .int 6, .int 60], .tup [.int 2, .int 10, .int 6], .tup [.int (-1), .int 10, .int 6, .int 60], .tup [.int 21, .int 10, .int 30, .int 60], .tup [.int 2, .int 0, .int 6, .int 60], .tup [.int 2, .int 1001, .int 6, .int 9999], .tup [.int 2, .int 10, .int 2, .int 60], .tup [.int 2, .int 10, .int 201, .int 60], .tup [.int 2, .int 10, .int 6, .int 9]]), s4, s5, s6, s7, s8, s9, s10, s11, s12, .un, .un, .un, .un]) ?_ ?_)
    · as_aux_lemma =>
        simp only [seq_ap, Mi.mi0, Mi.mi1, Mi.mi2, Mi.mi3, Mi.mi4, Mi.mi5, Mi.mo0, Mi.mo1, Mi.mo2, Mi.mo3, Mi.mo8, Bool.false_eq_true, Mi.mo9, Nat.reduceAdd, Nat.reduceSub, Nat.reduceLeDiff, Nat.reduceLT, Nat.reduceEqDiff, Mi.mt0, List.getElem?_cons_zero, List.getElem?_cons_succ, List.set_cons_zero, List.set_cons_succ, List.map_cons, List.map_nil, List.length_cons, List.length_nil, List.nil_append, List.cons_append, List.append_nil, List.replicate_succ, List.replicate_zero, lim_v, reduceIte, decide_true, decide_false, Bool.not_true, Bool.not_false, Option.bind_some, Mi.lst_no, Mi.par2, Mi.par3, eq_self, and_self, Mi.mi6, Mi.mi7, Mi.mi8, Mi.mi9, Option.map_some]
    refine Rt.seq (Go.of (e' := [.val v0, .own (m2.map D.int), s2, .val (.lst [.non, .tup [], .lst [.int 2, .int 10, .int 6, .int 60], .tup [.int 2, .int 10, .int 6], .tup [.int (-1), .int 10, .int 6, .int 60], .tup [.int 21, .int 10, .int 30, .int 60], .tup [.int 2, .int 0, .int 6, .int 60], .tup [.int 2, .int 1001, .int 6, .int 9999], .tup [.int 2, .int 10, .int 2, .int 60], .tup [.int 2, .int 10, .int 201, .int 60], .tup [.int 2, .int 10, .int 6, .int 9], .tup [.int 2, .int 10, .int 6, .int 1000001], .tup [.bl true, .int 10, .int 6, .int 60]]), s4, s5, s6, s7, s8, s9, s10, s11, s12, .un, .un, .un, .un]) ?_ ?_)
    · as_aux_lemma =>
        simp only [seq_ap, Mi.mi0, Mi.mi1, Mi.mi2, Mi.mi3, Mi.mi4, Mi.mi5, Mi.mo0, Mi.mo1, Mi.mo2, Mi.mo3, Mi.mo8, Bool.false_eq_true, Mi.mo9, Nat.reduceAdd, Nat.reduceSub, Nat.reduceLeDiff, Nat.reduceLT, Nat.reduceEqDiff, Mi.mt0, List.getElem?_cons_zero, List.getElem?_cons_succ, List.set_cons_zero, List.set_cons_succ, List.map_cons, List.map_nil, List.length_cons, List.length_nil, List.nil_append, List.cons_append, List.append_nil, List.replicate_succ, List.replicate_zero, lim_v, reduceIte, decide_true, decide_false, Bool.not_true, Bool.not_false, Option.bind_some, Mi.lst_no, Mi.par2, Mi.par3, eq_self, and_self, Mi.mi6, Mi.mi7, Mi.mi8, Mi.mi9, Option.map_some]
    refine Rt.seq (Go.of (e' := [.val v0, .own (m2.map D.int), s2, .val (.lst [.non, .tup [], .lst [.int 2, .int 10, .int 6, .int 60], .tup [.int 2, .int 10, .int 6], .tup [.int (-1), .int 10, .int 6, .int 60], .tup [.int 21, .int 10, .int 30, .int 60], .tup [.int 2, .int 0, .int 6, .int 60], .tup [.int 2, .int 1001, .int 6, .int 9999], .tup [.int 2, .int 10, .int 2, .int 60], .tup [.int 2, .int 10, .int 201, .int 60], .tup [.int 2, .int 10, .int 6, .int 9], .tup [.int 2, .int 10, .int 6, .int 1000001], .tup [.bl true, .int 10, .int 6, .int 60]]), .val (.lst [.non, .tup [.int 2], .lst [.int 2, .int 10], .tup [.int 0, .int 10], .tup [.int 1001, .int 10], .tup [.int 2, .int 0], .tup [.int 2, .int 100001], .tup [.bl true, .int 10]]), s5, s6, s7, s8, s9, s10, s11, s12, .un, .un, .un, .un]) ?_ ?_)
    · as_aux_lemma =>
        simp only [seq_ap, Mi.mi0, Mi.mi1, Mi.mi2, Mi.mi3, Mi.mi4, Mi.mi5, Mi.mo0, Mi.mo1, Mi.mo2, Mi.mo3, Mi.mo8, Bool.false_eq_true, Mi.mo9, Nat.reduceAdd, Nat.reduceSub, Nat.reduceLeDiff, Nat.reduceLT, Nat.reduceEqDiff, Mi.mt0, List.getElem?_cons_zero, List.getElem?_cons_succ, List.set_cons_zero, List.set_cons_succ, List.map_cons, List.map_nil, List.length_cons, List.length_nil, List.nil_append, List.cons_append, List.append_nil, List.replicate_succ, List.replicate_zero, lim_v, reduceIte, decide_true, decide_false, Bool.not_true, Bool.not_false, Option.bind_some, Mi.lst_no, Mi.par2, Mi.par3, eq_self, and_self, Mi.mi6, Mi.mi7, Mi.mi8, Mi.mi9, Option.map_some]
    refine Rt.seq (Go.ifF (e1 := [.val v0, .own (m2.map D.int), s2, .val (.lst [.non, .tup [], .lst [.int 2, .int 10, .int 6, .int 60], .tup [.int 2, .int 10, .int 6], .tup [.int (-1), .int 10, .int 6, .int 60], .tup [.int 21, .int 10, .int 30, .int 60], .tup [.int 2, .int 0, .int 6, .int 60], .tup [.int 2, .int 1001, .int 6, .int 9999], .tup [.int 2, .int 10, .int 2, .int 60], .tup [.int 2, .int 10, .int 201, .int 60], .tup [.int 2, .int 10, .int 6, .int 9], .tup [.int 2, .int 10, .int 6, .int 1000001], .tup [.bl true, .int 10, .int 6, .int 60]]), .val (.lst [.non, .tup [.int 2], .lst [.int 2, .int 10], .tup [.int 0, .int 10], .tup [.int 1001, .int 10], .tup [.int 2, .int 0], .tup [.int 2, .int 100001], .tup [.bl true, .int 10]]), s5, s6, s7, s8, s9, s10, s11, s12, .un, .un, .un, .un]) ?_ (Go.nx ?_))
    · as_aux_lemma =>
        simp only [seq_ap, Mi.mi0, Mi.mi1, Mi.mi2, Mi.mi3, Mi.mi4, Mi.mi5, Mi.mo0, Mi.mo1, Mi.mo2, Mi.mo3, Mi.mo8, Bool.false_eq_true, Mi.mo9, Nat.reduceAdd, Nat.reduceSub, Nat.reduceLeDiff, Nat.reduceLT, Nat.reduceEqDiff, Mi.mt0, List.getElem?_cons_zero, List.getElem?_cons_succ, List.set_cons_zero, List.set_cons_succ, List.map_cons, List.map_nil, List.length_cons, List.length_nil, List.nil_append, List.cons_append, List.append_nil, List.replicate_succ, List.replicate_zero, lim_v, reduceIte, decide_true, decide_false, Bool.not_true, Bool.not_false, Option.bind_some, Mi.lst_no, Mi.par2, Mi.par3, eq_self, and_self, Mi.mi6, Mi.mi7, Mi.mi8, Mi.mi9, Option.map_some, nLc, wipeE, okW, resE, l1, l2, r21, t21, le21, rp, sm, List.all_cons, List.all_nil, Bool.and_true, Option.getD_some, Option.getD_none, and_self, List.flatten_cons, List.flatten_nil]
    refine Rt.seq (Go.of (e' := [.val v0, .own (m4.map D.int), s2, .val (.lst [.non, .tup [], .lst [.int 2, .int 10, .int 6, .int 60], .tup [.int 2, .int 10, .int 6], .tup [.int (-1), .int 10, .int 6, .int 60], .tup [.int 21, .int 10, .int 30, .int 60], .tup [.int 2, .int 0, .int 6, .int 60], .tup [.int 2, .int 1001, .int 6, .int 9999], .tup [.int 2, .int 10, .int 2, .int 60], .tup [.int 2, .int 10, .int 201, .int 60], .tup [.int 2, .int 10, .int 6, .int 9], .tup [.int 2, .int 10, .int 6, .int 1000001], .tup [.bl true, .int 10, .int 6, .int 60]]), .val (.lst [.non, .tup [.int 2], .lst [.int 2, .int 10], .tup [.int 0, .int 10], .tup [.int 1001, .int 10], .tup [.int 2, .int 0], .tup [.int 2, .int 100001], .tup [.bl true, .int 10]]), s5, .val lo, .val bu, s8, s9, s10, s11, s12, .un, .un, .un, .un]) ?_ ?_)
    · as_aux_lemma =>
        simp only [seq_ap, Mi.mi0, Mi.mi1, Mi.mi2, Mi.mi3, Mi.mi4, Mi.mi5, Mi.mo0, Mi.mo1, Mi.mo2, Mi.mo3, Mi.mo8, Bool.false_eq_true, Mi.mo9, Nat.reduceAdd, Nat.reduceSub, Nat.reduceLeDiff, Nat.reduceLT, Nat.reduceEqDiff, Mi.mt0, List.getElem?_cons_zero, List.getElem?_cons_succ, List.set_cons_zero, List.set_cons_succ, List.map_cons, List.map_nil, List.length_cons, List.length_nil, List.nil_append, List.cons_append, List.append_nil, List.replicate_succ, List.replicate_zero, lim_v, reduceIte, decide_true, decide_false, Bool.not_true, Bool.not_false, Option.bind_some, Mi.lst_no, Mi.par2, Mi.par3, eq_self, and_self, Mi.mi6, Mi.mi7, Mi.mi8, Mi.mi9, Option.map_some, eCallB, io, h3, h4, Sl.turn]
    refine Rt.seq (Go.of (e' := [.val v0, .own (m4.map D.int), s2, .val (.lst [.non, .tup [], .lst [.int 2, .int 10, .int 6, .int 60], .tup [.int 2, .int 10, .int 6], .tup [.int (-1), .int 10, .int 6, .int 60], .tup [.int 21, .int 10, .int 30, .int 60], .tup [.int 2, .int 0, .int 6, .int 60], .tup [.int 2, .int 1001, .int 6, .int 9999], .tup [.int 2, .int 10, .int 2, .int 60], .tup [.int 2, .int 10, .int 201, .int 60], .tup [.int 2, .int 10, .int 6, .int 9], .tup [.int 2, .int 10, .int 6, .int 1000001], .tup [.bl true, .int 10, .int 6, .int 60]]), .val (.lst [.non, .tup [.int 2], .lst [.int 2, .int 10], .tup [.int 0, .int 10], .tup [.int 1001, .int 10], .tup [.int 2, .int 0], .tup [.int 2, .int 100001], .tup [.bl true, .int 10]]), .own [nrD, nrD, nrD, nrD, nrD], .val lo, .val bu, s8, s9, s10, s11, s12, .un, .un, .un, .un]) ?_ ?_)
    · as_aux_lemma =>
        simp only [seq_ap, Mi.mi0, Mi.mi1, Mi.mi2, Mi.mi3, Mi.mi4, Mi.mi5, Mi.mo0, Mi.mo1, Mi.mo2, Mi.mo3, Mi.mo8, Bool.false_eq_true, Mi.mo9, Nat.reduceAdd, Nat.reduceSub, Nat.reduceLeDiff, Nat.reduceLT, Nat.reduceEqDiff, Mi.mt0, List.getElem?_cons_zero, List.getElem?_cons_succ, List.set_cons_zero, List.set_cons_succ, List.map_cons, List.map_nil, List.length_cons, List.length_nil, List.nil_append, List.cons_append, List.append_nil, List.replicate_succ, List.replicate_zero, lim_v, reduceIte, decide_true, decide_false, Bool.not_true, Bool.not_false, Option.bind_some, Mi.lst_no, Mi.par2, Mi.par3, eq_self, and_self, Mi.mi6, Mi.mi7, Mi.mi8, Mi.mi9, Option.map_some, nLc, wipeE, okW, resE, l3, List.all_cons, List.all_nil, Bool.and_true, Option.getD_some, Option.getD_none, and_self]
    refine Rt.seq (Go.of (e' := [.val v0, .own (m4.map D.int), s2, .val (.lst [.non, .tup [], .lst [.int 2, .int 10, .int 6, .int 60], .tup [.int 2, .int 10, .int 6], .tup [.int (-1), .int 10, .int 6, .int 60], .tup [.int 21, .int 10, .int 30, .int 60], .tup [.int 2, .int 0, .int 6, .int 60], .tup [.int 2, .int 1001, .int 6, .int 9999], .tup [.int 2, .int 10, .int 2, .int 60], .tup [.int 2, .int 10, .int 201, .int 60], .tup [.int 2, .int 10, .int 6, .int 9], .tup [.int 2, .int 10, .int 6, .int 1000001], .tup [.bl true, .int 10, .int 6, .int 60]]), .val (.lst [.non, .tup [.int 2], .lst [.int 2, .int 10], .tup [.int 0, .int 10], .tup [.int 1001, .int 10], .tup [.int 2, .int 0], .tup [.int 2, .int 100001], .tup [.bl true, .int 10]]), .own [nrD, nrD, nrD, nrD, nrD, nrD], .val lo, .val bu, s8, s9, s10, s11, s12, .un, .un, .un, .un]) ?_ ?_)
    · as_aux_lemma =>
        simp only [seq_ap, Mi.mi0, Mi.mi1, Mi.mi2, Mi.mi3, Mi.mi4, Mi.mi5, Mi.mo0, Mi.mo1, Mi.mo2, Mi.mo3, Mi.mo8, Bool.false_eq_true, Mi.mo9, Nat.reduceAdd, Nat.reduceSub, Nat.reduceLeDiff, Nat.reduceLT, Nat.reduceEqDiff, Mi.mt0, List.getElem?_cons_zero, List.getElem?_cons_succ, List.set_cons_zero, List.set_cons_succ, List.map_cons, List.map_nil, List.length_cons, List.length_nil, List.nil_append, List.cons_append, List.append_nil, List.replicate_succ, List.replicate_zero, lim_v, reduceIte, decide_true, decide_false, Bool.not_true, Bool.not_false, Option.bind_some, Mi.lst_no, Mi.par2, Mi.par3, eq_self, and_self, Mi.mi6, Mi.mi7, Mi.mi8, Mi.mi9, Option.map_some, w10]
    refine Rt.of (e' := [.val v0, .own (m4.map D.int), s2, .val (.lst [.non, .tup [], .lst [.int 2, .int 10, .int 6, .int 60], .tup [.int 2, .int 10, .int 6], .tup [.int (-1), .int 10, .int 6, .int 60], .tup [.int 21, .int 10, .int 30, .int 60], .tup [.int 2, .int 0, .int 6, .int 60], .tup [.int 2, .int 1001, .int 6, .int 9999], .tup [.int 2, .int 10, .int 2, .int 60], .tup [.int 2, .int 10, .int 201, .int 60], .tup [.int 2, .int 10, .int 6, .int 9], .tup [.int 2, .int 10, .int 6, .int 1000001], .tup [.bl true, .int 10, .int 6, .int 60]]), .val (.lst [.non, .tup [.int 2], .lst [.int 2, .int 10], .tup [.int 0, .int 10], .tup [.int 1001, .int 10], .tup [.int 2, .int 0], .tup [.int 2, .int 100001], .tup [.bl true, .int 10]]), .val (.lst [nrD, nrD, nrD, nrD, nrD, nrD]), .val lo, .val bu, s8, s9, s10, s11, s12, .un, .un, .un, .un]) ?_
    as_aux_lemma =>
      simp only [seq_ap, Mi.mi0, Mi.mi1, Mi.mi2, Mi.mi3, Mi.mi4, Mi.mi5, Mi.mo0, Mi.mo1, Mi.mo2, Mi.mo3, Mi.mo8, Bool.false_eq_true, Mi.mo9, Nat.reduceAdd, Nat.reduceSub, Nat.reduceLeDiff, Nat.reduceLT, Nat.reduceEqDiff, Mi.mt0, List.getElem?_cons_zero, List.getElem?_cons_succ, List.set_cons_zero, List.set_cons_succ, List.map_cons, List.map_nil, List.length_cons, List.length_nil, List.nil_append, List.cons_append, List.append_nil, List.replicate_succ, List.replicate_zero, lim_v, reduceIte, decide_true, decide_false, Bool.not_true, Bool.not_false, Option.bind_some, Mi.lst_no, Mi.par2, Mi.par3, eq_self, and_self, Mi.mi6, Mi.mi7, Mi.mi8, Mi.mi9, Option.map_some, w7, w8, w9, r9, t9, le9, rp9, eq, List.flatten_cons, List.flatten_nil]
  unfold F_law
  exact runA_of main
end Lw
set_option maxHeartbeats 0
namespace Lw
open PySem PySem.Spec PyProof.Rows L2 Mi
def lo0 : List Str := ["CodeError", "NotRight", "is_integer", "is_within", "check", "is_count", "power", "MOST_FREE", "MOST_FIRST", "MOST_WRONG", "LONGEST", "MOST_DROPS", "MOST_EACH", "is_lock", "is_bucket", "check_lock", "check_bucket", "is_state_by", "is_state", "wait_by", "wait_of", "tried_by", "tried", "is_sorted", "is_try", "heard", "times_by", "most_tries", "time_for", "gone_through"]
def lo1 : List Str := ["check_tries", "drops_at", "bucket_heard", "most_from", "_law_draws", "_law_take", "_law_pick", "_law_mixed", "_law_same", "_law_lock", "_law_wait", "_law_try", "_law_heard", "_law_drops", "_law_told", "_law_seconds", "_law_is_lock_due", "_law_is_bucket_due"]
def looseL : List Str := lo0 ++ lo1
abbrev Rw : PySem.W.OpenRow := PySem.W.OpenLaw.row PySem.Challenge.rw_oncecodes_k40_whole_locks_and_buckets
abbrev qv : Program := PySem.W.view Rw.prog [51]
abbrev hk : PySem.W.Hook := hookP 4 faL fnL (ckAll ckL)
def ob (s : PySem.W.SharedT) : Bool × He.AlD := obP 4 faL fnL (ckAll ckL) (HandSHeadRun.getT s)
theorem ob_eq (s : PySem.W.SharedT) : ob s = hk.obs s.abs := obP_eq (HandSHeadRun.getT_eq s)
theorem run (w : World) : HandSHeadRun.RunEq Rw qv hk ob 6000 looseL w := by
  intro os
  kernel_rfl
/-- the law of plain Lean that is left -/
def Plain : Prop := ∀ ns : List Int, ns.length ≤ 63 → (∀ z ∈ ns, Builtin.Int.intBits z ≤ 1048576) → F_law [.rls (ns.map D.int)] = .ok (.bl true)
end Lw
open PySem PySem.W PySem.Calls PyProof.Rows in
theorem Lw.holds_of (pl : Lw.Plain) : PySem.Challenge.rw_oncecodes_k40_whole_locks_and_buckets.Holds := by
  w_on; o_law
  refine HandSHeadRun.head_any (r := OpenLaw.row PySem.Challenge.rw_oncecodes_k40_whole_locks_and_buckets) (q := Lw.qv) (H := Lw.hk) (ob := Lw.ob) (M := 6000) (loose := Lw.looseL) (d := HandSHeadRun.topDef (OpenLaw.row PySem.Challenge.rw_oncecodes_k40_whole_locks_and_buckets).prog 51) (kwd := []) Lw.ob_eq
    (by kernel_rfl) (fun s => by kernel_rfl) Lw.run (by kernel_rfl) (by kernel_rfl) (by kernel_rfl) (by rfl) (by first | assumption | decide +kernel) (by decide +kernel) ⟨rfl, rfl, rfl, rfl, rfl, by decide +kernel⟩ ?hw ?hc
  case hw => w_witness2
  case hc =>
    refine LamX.walk_ofTsE (l := PySem.Challenge.rw_oncecodes_k40_whole_locks_and_buckets) (n := 63) (k := 8) (x := "script") (CX := fun w => L2.CX (PySem.Challenge.rw_oncecodes_k40_whole_locks_and_buckets).prog w) rfl (by decide) (by kernel_rfl) ⟨rfl, by decide, by decide⟩ ?F (fun _ _ _ _ _ ⟨_, _, _, _, _, _, _, _, _, _, _, _, z⟩ => z)
    intro w mg fa h Y G hmg0
    obtain ⟨K, KX, c, ck⟩ := Y
    have hmg : mg ("law" : PySem.Str) = some (.ref fa) := by
      have e : (HandSHeadRun.topDef (OpenLaw.row PySem.Challenge.rw_oncecodes_k40_whole_locks_and_buckets).prog 51).name = ("law" : PySem.Str) := by kernel_rfl
      rw [← e]
      exact hmg0
    have T := Lw.tx_of KX G c ck
    obtain ⟨fd, F⟩ := c.def_ 39 (d := Lw.dd_law) rfl
    have b := L2.FunD.bindsA (ps := ["script"]) F fun _ _ _ _ _ _ us hl => match us, hl with | [_], _ => rfl
    have e := hmg.symm.trans (He.glo_ok KX G (c.fact 39 (f := .glo "law") rfl))
    cases e
    refine ⟨K, KX, fd, [], Mi.spA K mg 1 false Lw.F_law, fun _ h => (nomatch h), fun _ h => (nomatch h), fun _ h => (nomatch h), fun s v => b s [v] rfl, fun H a ns hl hz _ hS => ?_, fun base _ _ _ => Lw.law_at T (He5.fun_of (st := Lw.st_law) F)⟩
    refine ⟨[.rls (ns.map Mi.D.int)], H, fun _ _ e => e, ?_, rfl, ?_⟩
    · refine Mi.DenL.cons ?_ Mi.DenL.nil
      simp only [Mi.Den]
      exact ⟨a, _, rfl, hS, Mi.denL_ints.2 rfl⟩
    · rw [pl ns hl hz]
      exact fun v H' s f => Mi.den_bl (f H' s fun _ _ e _ => e)
theorem PySem.Challenge.cw_oncecodes_k40_whole_locks_and_buckets_holds : PySem.Challenge.rw_oncecodes_k40_whole_locks_and_buckets.Holds := by
  exact Lw.holds_of fun ns h z => Lw.law_ok h z
